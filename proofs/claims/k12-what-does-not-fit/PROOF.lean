import PyProof.Rows.All
import Wide.All
import OpenK.AllK
import Wide.FinOn
import HandS.ForMost
import HandS.ForExc
import HandS.Deep
import HandS.TupAny
import HandS.Zip
import HandS.IsInst
import HandS.Flow
import HandS.More
import HandS.NoneIn
import HandS.Small
import HandS.DictComp
import HandS.ExcInit
import HandS.ExcField
import HandS.ExcIs
import HandS.TryMany
import KE.GoesRaise
import KE.GoesEnum
import KE.GoesZip
import KE.GoesMore
import HandS.Style
import KE.KAsSuite
import HandS.Words
import HandS.WordsExc
import KE.KTryMore
import KE.KDictDisplayH
import PySem.Challenge.RW_eachstepsame_k12_whole_what_does_not_fit
set_option Elab.async false
set_option linter.all false
set_option maxRecDepth 100000
set_option maxHeartbeats 4000000
section
set_option maxHeartbeats 0
open PySem PySem.W PyProof.Rows
open_top k12head for PySem.Challenge.rw_eachstepsame_k12_whole_what_does_not_fit
end
/-! A1: data without the heap, and what represents it. -/
namespace K12
open PySem PySem.Spec PyProof.Rows L2
/-- a goal that a discharger's tactics show: they leave nothing in memory behind -/
def Gate (p : Prop) : Prop := p
theorem gate {p : Prop} (h : Gate p) : p := h
theorem gate_rule {p : Prop} (h : p) : Gate p = True := eq_true h

inductive D where
  | non | bl (b : Bool) | int (i : Int) | str (s : Str)
  | tup (xs : List D) | lst (xs : List D)
  | dic (kvs : List (Key × D)) | dct (kvs : List (List Key × D))
  | ins (C : Addr) (fs : List (Str × D))
  | ref (a : Addr)
  | arg (xs : List D)

theorem same_t {K : PySem.W.Frag} {H H' : Hp} {a : Addr} {xs : List V} (e : Same H H') (h : SqT K H a xs) : SqT K H' a xs := by
  rcases h with (h | ⟨o, h⟩) | h
  · exact .inl (.inl (e _ _ h))
  · exact .inl (.inr ⟨o, e _ _ h⟩)
  · exact .inr h

mutual
inductive Rp (K : PySem.W.Frag) (F : Hp) : V → D → Prop
  | non : Rp K F .non .non
  | bl (b : Bool) : Rp K F (.bl b) (.bl b)
  | int (i : Int) : Rp K F (.int i) (.int i)
  | str (s : Str) : Rp K F (.str s) (.str s)
  | ref (a : Addr) : Rp K F (.ref a) (.ref a)
  | tup {a : Addr} {xs : List V} {ds : List D} : SqT K F a xs → RpL K F xs ds → Rp K F (.ref a) (.tup ds)
  | lst {a : Addr} {xs : List V} {ds : List D} : F a = some (.lst xs) → RpL K F xs ds → Rp K F (.ref a) (.lst ds)
  | arg {a : Addr} {xs : List V} {ds : List D} : SqL K F a xs → RpL K F xs ds → Rp K F (.ref a) (.arg ds)
  | dic {a : Addr} {kvs : List (Key × V)} {ds : List (Key × D)} : F a = some (.dK kvs) → RpA K F kvs ds → Rp K F (.ref a) (.dic ds)
  | dct {a : Addr} {kvs : List (List Key × V)} {ds : List (List Key × D)} : F a = some (.dT kvs) → RpA K F kvs ds → Rp K F (.ref a) (.dct ds)
  | ins {a C dx : Addr} {fs : List (Str × V)} {ds : List (Str × D)} : F a = some (.ins C dx fs) → RpA K F fs ds → Rp K F (.ref a) (.ins C ds)
inductive RpL (K : PySem.W.Frag) (F : Hp) : List V → List D → Prop
  | nil : RpL K F [] []
  | cons {v : V} {d : D} {vs : List V} {ds : List D} : Rp K F v d → RpL K F vs ds → RpL K F (v :: vs) (d :: ds)
inductive RpA (K : PySem.W.Frag) (F : Hp) : {κ : Type} → List (κ × V) → List (κ × D) → Prop
  | nil {κ : Type} : RpA K F (κ := κ) [] []
  | cons {κ : Type} {k : κ} {v : V} {d : D} {vs : List (κ × V)} {ds : List (κ × D)} : Rp K F v d → RpA K F vs ds → RpA K F ((k, v) :: vs) ((k, d) :: ds)
end

section
variable {K : PySem.W.Frag} {F F' : Hp}
mutual
theorem Rp.mono (e : Same F F') : ∀ {v : V} {d : D}, Rp K F v d → Rp K F' v d
  | _, _, .non => .non
  | _, _, .bl b => .bl b
  | _, _, .int i => .int i
  | _, _, .str s => .str s
  | _, _, .ref a => .ref a
  | _, _, .tup h r => .tup (same_t e h) (RpL.mono e r)
  | _, _, .lst h r => .lst (e _ _ h) (RpL.mono e r)
  | _, _, .arg h r => .arg (e.seq h) (RpL.mono e r)
  | _, _, .dic h r => .dic (e _ _ h) (RpA.mono e r)
  | _, _, .dct h r => .dct (e _ _ h) (RpA.mono e r)
  | _, _, .ins h r => .ins (e _ _ h) (RpA.mono e r)
theorem RpL.mono (e : Same F F') : ∀ {v : List V} {d : List D}, RpL K F v d → RpL K F' v d
  | _, _, .nil => .nil
  | _, _, .cons h r => .cons (Rp.mono e h) (RpL.mono e r)
theorem RpA.mono (e : Same F F') : ∀ {κ : Type} {v : List (κ × V)} {d : List (κ × D)}, RpA K F v d → RpA K F' v d
  | _, _, _, .nil => .nil
  | _, _, _, .cons h r => .cons (Rp.mono e h) (RpA.mono e r)
end
theorem RpL.len : ∀ {vs : List V} {ds : List D}, RpL K F vs ds → vs.length = ds.length
  | _, _, .nil => rfl
  | _, _, .cons _ r => congrArg (· + 1) (RpL.len r)
theorem RpL.app : ∀ {vs ws : List V} {ds es : List D}, RpL K F vs ds → RpL K F ws es → RpL K F (vs ++ ws) (ds ++ es)
  | _, _, _, _, .nil, s => s
  | _, _, _, _, .cons h r, s => .cons h (RpL.app r s)
theorem RpL.take : ∀ {vs : List V} {ds : List D} (n : Nat), RpL K F vs ds → RpL K F (vs.take n) (ds.take n)
  | _, _, 0, _ => by rw [List.take_zero, List.take_zero]; exact .nil
  | _, _, _ + 1, .nil => .nil
  | _, _, n + 1, .cons h r => .cons h (RpL.take n r)
theorem RpL.drop : ∀ {vs : List V} {ds : List D} (n : Nat), RpL K F vs ds → RpL K F (vs.drop n) (ds.drop n)
  | _, _, 0, h => h
  | _, _, _ + 1, .nil => .nil
  | _, _, n + 1, .cons h r => RpL.drop n r
theorem RpL.get : ∀ {vs : List V} {ds : List D} {i : Nat} {d : D}, RpL K F vs ds → ds[i]? = some d → ∃ v, vs[i]? = some v ∧ Rp K F v d
  | _, _, _, _, .nil, e => by simp at e
  | _, _, 0, _, .cons h _, e => by simp at e; subst e; exact ⟨_, rfl, h⟩
  | _, _, i + 1, d, .cons _ r, e => RpL.get (i := i) r (by simpa using e)
theorem RpL.getv : ∀ {vs : List V} {ds : List D} {i : Nat} {v : V}, RpL K F vs ds → vs[i]? = some v → ∃ d, ds[i]? = some d ∧ Rp K F v d
  | _, _, _, _, .nil, e => by simp at e
  | _, _, 0, _, .cons h _, e => by simp at e; subst e; exact ⟨_, rfl, h⟩
  | _, _, i + 1, d, .cons _ r, e => RpL.getv (i := i) r (by simpa using e)
theorem RpL.set {x : V} {d : D} (h : Rp K F x d) : ∀ {vs : List V} {ds : List D} (i : Nat), RpL K F vs ds → RpL K F (vs.set i x) (ds.set i d)
  | _, _, _, .nil => .nil
  | _, _, 0, .cons _ r => .cons h r
  | _, _, i + 1, .cons q r => .cons q (RpL.set h i r)
theorem RpL.rep {v : V} {d : D} (h : Rp K F v d) : ∀ n : Nat, RpL K F (List.replicate n v) (List.replicate n d)
  | 0 => .nil
  | n + 1 => .cons h (RpL.rep h n)

/-! ### dicts and fields by pairs -/
variable {κ : Type} [DecidableEq κ]
def getA {α : Type} : List (κ × α) → κ → Option α
  | [], _ => none
  | p :: r, k => if p.1 = k then some p.2 else getA r k
def setA {α : Type} (kvs : List (κ × α)) (k : κ) (v : α) : List (κ × α) :=
  if (kvs.any fun kv => decide (kv.1 = k)) = true then kvs.map fun kv => if kv.1 = k then (kv.1, v) else kv else kvs ++ [(k, v)]
theorem getA_pos {α : Type} {p : κ × α} {r : List (κ × α)} {k : κ} (e : p.1 = k) : getA (p :: r) k = some p.2 := if_pos e
theorem getA_neg {α : Type} {p : κ × α} {r : List (κ × α)} {k : κ} (e : ¬ p.1 = k) : getA (p :: r) k = getA r k := if_neg e
theorem RpA.get {kvs : List (κ × V)} {ds : List (κ × D)} (k : κ) (r : RpA K F kvs ds) : (getA kvs k = none ∧ getA ds k = none) ∨ ∃ v d, getA kvs k = some v ∧ getA ds k = some d ∧ Rp K F v d := by
  induction kvs generalizing ds with
  | nil => cases r; exact .inl ⟨rfl, rfl⟩
  | cons p kvs ih =>
    cases r with
    | @cons _ k0 v d _ ds h r =>
      by_cases e : k0 = k
      · exact .inr ⟨v, d, by unfold getA; exact if_pos e, by unfold getA; exact if_pos e, h⟩
      · rcases ih r with ⟨a, b⟩ | ⟨v, d, a, b, c⟩
        · exact .inl ⟨by unfold getA; exact (if_neg e).trans a, by unfold getA; exact (if_neg e).trans b⟩
        · exact .inr ⟨v, d, by unfold getA; exact (if_neg e).trans a, by unfold getA; exact (if_neg e).trans b, c⟩
theorem RpA.any {kvs : List (κ × V)} {ds : List (κ × D)} (k : κ) (r : RpA K F kvs ds) : (kvs.any fun kv => decide (kv.1 = k)) = ds.any fun kv => decide (kv.1 = k) := by
  induction kvs generalizing ds with
  | nil => cases r; rfl
  | cons p kvs ih =>
    cases r with
    | cons h r => rw [List.any_cons, List.any_cons, ih r]
theorem RpA.app {kvs kvs' : List (κ × V)} {ds ds' : List (κ × D)} (r : RpA K F kvs ds) (r' : RpA K F kvs' ds') : RpA K F (kvs ++ kvs') (ds ++ ds') := by
  induction kvs generalizing ds with
  | nil => cases r; exact r'
  | cons p kvs ih =>
    cases r with
    | cons h r => exact .cons h (ih r)
theorem RpA.set {kvs : List (κ × V)} {ds : List (κ × D)} (k : κ) {v : V} {d : D} (h : Rp K F v d) (r : RpA K F kvs ds) : RpA K F (setA kvs k v) (setA ds k d) := by
  have rp : ∀ {kvs : List (κ × V)} {ds : List (κ × D)}, RpA K F kvs ds → RpA K F (kvs.map fun kv => if kv.1 = k then (kv.1, v) else kv) (ds.map fun kv => if kv.1 = k then (kv.1, d) else kv) := by
    intro kvs
    induction kvs with
    | nil => intro ds r; cases r; exact .nil
    | cons p kvs ih =>
      intro ds r
      cases r with
      | @cons _ k0 v0 d0 _ ds h0 r =>
        rw [List.map_cons, List.map_cons]
        by_cases e : k0 = k
        · rw [if_pos e, if_pos e]; exact .cons h (ih r)
        · rw [if_neg e, if_neg e]; exact .cons h0 (ih r)
  unfold setA
  rw [r.any k]
  by_cases e : (ds.any fun kv => decide (kv.1 = k)) = true
  · rw [if_pos e, if_pos e]; exact rp r
  · rw [if_neg e, if_neg e]; exact r.app (.cons h .nil)
omit [DecidableEq κ] in
theorem RpA.len {kvs : List (κ × V)} {ds : List (κ × D)} (r : RpA K F kvs ds) : kvs.length = ds.length := by
  induction kvs generalizing ds with
  | nil => cases r; rfl
  | cons p kvs ih =>
    cases r with
    | cons h r => exact congrArg (· + 1) (ih r)
omit [DecidableEq κ] in
theorem RpA.keys {kvs : List (κ × V)} {ds : List (κ × D)} (r : RpA K F kvs ds) : kvs.map (·.1) = ds.map (·.1) := by
  induction kvs generalizing ds with
  | nil => cases r; rfl
  | cons p kvs ih =>
    cases r with
    | @cons _ k v d vs ds h r =>
      show k :: kvs.map (·.1) = k :: ds.map (·.1)
      rw [ih r]
theorem getA_cons {α : Type} {p : κ × α} {r : List (κ × α)} {k : κ} : getA (p :: r) k = if p.1 = k then some p.2 else getA r k := rfl
theorem getA_val {kvs : List (κ × V)} {k : κ} : valV kvs k = getA kvs k := by
  induction kvs with
  | nil => rfl
  | cons p r ih =>
    unfold getA
    by_cases e : p.1 = k
    · rw [if_pos e]; unfold valV; rw [List.find?_cons, decide_eq_true e] <;> rfl
    · rw [if_neg e, ← ih]; unfold valV; rw [List.find?_cons, decide_eq_false e]
theorem getA_none {α : Type} {kvs : List (κ × α)} {k : κ} (h : getA kvs k = none) : k ∉ kvs.map (·.1) := by
  induction kvs with
  | nil => simp
  | cons p r ih =>
    unfold getA at h
    by_cases e : p.1 = k
    · rw [if_pos e] at h; cases h
    · rw [if_neg e] at h
      intro m
      rcases List.mem_cons.mp m with z | z
      · exact e z.symm
      · exact ih h z
theorem any_getA {α : Type} {kvs : List (κ × α)} {k : κ} : (kvs.any fun kv => decide (kv.1 = k)) = (getA kvs k).isSome := by
  induction kvs with
  | nil => rfl
  | cons p r ih =>
    rw [List.any_cons, ih]
    by_cases e : p.1 = k
    · rw [decide_eq_true e, getA_pos e] <;> rfl
    · rw [decide_eq_false e, Bool.false_or, getA_neg e]
theorem setA_new {α : Type} {kvs : List (κ × α)} {k : κ} {v : α} (h : getA kvs k = none) : setA kvs k v = kvs ++ [(k, v)] := by
  unfold setA
  rw [any_getA, h, if_neg (by simp)]
theorem getA_app {α : Type} {kvs more : List (κ × α)} {k : κ} : getA (kvs ++ more) k = (getA kvs k).or (getA more k) := by
  induction kvs with
  | nil => rfl
  | cons p r ih =>
    show getA (p :: (r ++ more)) k = _
    by_cases e : p.1 = k
    · rw [getA_pos e, getA_pos e] <;> rfl
    · rw [getA_neg e, getA_neg e]; exact ih
theorem getA_set {α : Type} {kvs : List (κ × α)} {k j : κ} {v : α} : getA (setA kvs k v) j = if k = j then some v else getA kvs j := by
  cases h : getA kvs k with
  | none =>
    rw [setA_new h, getA_app]
    show (getA kvs j).or (if k = j then some v else none) = _
    by_cases e : k = j
    · subst e; rw [h, if_pos rfl] <;> rfl
    · rw [if_neg e, if_neg e]; cases getA kvs j <;> rfl
  | some w =>
    unfold setA
    rw [any_getA, h, if_pos (by rfl)]
    have hk : ∀ {l : List (κ × α)}, (getA l k).isSome = true → getA (l.map fun kv => if kv.1 = k then (kv.1, v) else kv) j = if k = j then some v else getA l j := by
      intro l
      have step : ∀ {l : List (κ × α)}, k ≠ j → getA (l.map fun kv => if kv.1 = k then (kv.1, v) else kv) j = getA l j := by
        intro l hne
        induction l with
        | nil => rfl
        | cons p r ih =>
          rw [List.map_cons]
          by_cases e : p.1 = k
          · rw [if_pos e, getA_neg (show ¬ (p.1, v).1 = j from fun z => hne (e.symm.trans z)), getA_neg (fun z => hne (e.symm.trans z))]
            exact ih
          · rw [if_neg e]
            by_cases e2 : p.1 = j
            · rw [getA_pos e2, getA_pos e2]
            · rw [getA_neg e2, getA_neg e2, ih]
      intro hs
      by_cases e : k = j
      · subst e
        rw [if_pos rfl]
        induction l with
        | nil => simp [getA] at hs
        | cons p r ih =>
          rw [List.map_cons]
          by_cases e : p.1 = k
          · rw [if_pos e, getA_pos (show (p.1, v).1 = k from e)]
          · rw [if_neg e]
            rw [getA_neg e] at hs ⊢
            exact ih hs
      · rw [if_neg e]; exact step e
    exact hk (by rw [h]; rfl)
theorem setA_put {kvs : List (κ × V)} {k : κ} {v : V} : putK kvs k v = setA kvs k v := rfl
theorem setA_len {α : Type} (kvs : List (κ × α)) (k : κ) (v : α) : (setA kvs k v).length ≤ kvs.length + 1 := by
  unfold setA
  by_cases e : (kvs.any fun kv => decide (kv.1 = k)) = true
  · rw [if_pos e, List.length_map]; omega
  · rw [if_neg e, List.length_append]; exact Nat.le_refl _
end
end K12
/-! A2: states (slots, mutable objects), judgements. -/
namespace K12
open PySem PySem.Spec PyProof.Rows L2

abbrev Rho := List (Str × Option D)
inductive MO where
  | lst (xs : List D) | dic (kvs : List (Key × D)) | dct (kvs : List (List Key × D)) | ins (C : Addr) (fs : List (Str × D))
abbrev Os := List (Addr × MO)
def MR (K : PySem.W.Frag) (F H : Hp) (a : Addr) : MO → Prop
  | .lst ds => ∃ xs, H a = some (.lst xs) ∧ RpL K F xs ds
  | .dic ds => ∃ kvs : List (Key × V), H a = some (.dK kvs) ∧ RpA K F kvs ds
  | .dct ds => ∃ kvs : List (List Key × V), H a = some (.dT kvs) ∧ RpA K F kvs ds
  | .ins C ds => ∃ dx fs, H a = some (.ins C dx fs) ∧ RpA K F fs ds
theorem MR.mono {K : PySem.W.Frag} {F F' H H' : Hp} {a : Addr} {m : MO} (e : Same F F') (h : H' a = H a) (r : MR K F H a m) : MR K F' H' a m := by
  cases m with
  | lst ds => obtain ⟨xs, q, r⟩ := r; exact ⟨xs, h.trans q, r.mono e⟩
  | dic ds => obtain ⟨xs, q, r⟩ := r; exact ⟨xs, h.trans q, r.mono e⟩
  | dct ds => obtain ⟨xs, q, r⟩ := r; exact ⟨xs, h.trans q, r.mono e⟩
  | ins C ds => obtain ⟨dx, xs, q, r⟩ := r; exact ⟨dx, xs, h.trans q, r.mono e⟩
theorem MR.some {K : PySem.W.Frag} {F H : Hp} {a : Addr} {m : MO} (r : MR K F H a m) : ∃ o, H a = some o := by
  cases m with
  | lst ds => obtain ⟨xs, q, r⟩ := r; exact ⟨_, q⟩
  | dic ds => obtain ⟨xs, q, r⟩ := r; exact ⟨_, q⟩
  | dct ds => obtain ⟨xs, q, r⟩ := r; exact ⟨_, q⟩
  | ins C ds => obtain ⟨dx, xs, q, r⟩ := r; exact ⟨_, q⟩

structure Ent where
  O : Os
  F : Hp
  H : Hp
  EX : Addr → List (Str × D) → Os → Prop
def dom (O : Os) : List Addr := O.map (·.1)
structure RepO (K : PySem.W.Frag) (N : Ent) (O : Os) (H F : Hp) : Prop where
  ex : Same F H
  ob : ∀ p ∈ O, F p.1 = none ∧ MR K F H p.1 p.2
  nd : (dom O).Nodup
  grow : Same N.F F
  keep : ∀ a o, N.H a = some o → a ∉ dom N.O → H a = some o
  newF : ∀ a o, F a = some o → N.F a = some o ∨ N.H a = none ∨ a ∈ dom N.O
  newO : ∀ p ∈ O, p.1 ∈ dom N.O ∨ N.H p.1 = none

section
variable {K : PySem.W.Frag} {N : Ent} {O : Os} {H F : Hp} {p a : Addr} {o : HO} {m m' : MO}
theorem same_new {H : Hp} {p : Addr} (h : H p = none) (o : HO) : Same H (upd H p o) := fun b u q => by rw [upd_ne (ne_of_none q h)]; exact q
theorem RepO.fr (r : RepO K N O H F) (h : H p = none) : F p = none := r.ex.free h
theorem RepO.ne (r : RepO K N O H F) (h : H p = none) {q : Addr × MO} (hq : q ∈ O) : q.1 ≠ p := by
  obtain ⟨o, e⟩ := (r.ob q hq).2.some
  exact ne_of_none e h
theorem RepO.old (r : RepO K N O H F) (h : H p = none) : N.H p = none ∨ p ∈ dom N.O := by
  cases e : N.H p with
  | none => exact .inl rfl
  | some u =>
    by_cases hp : p ∈ dom N.O
    · exact .inr hp
    · rw [r.keep p u e hp] at h; cases h
/-- a new object, never written again -/
theorem RepO.frz (r : RepO K N O H F) (h : H p = none) (o : HO) : RepO K N O (upd H p o) (upd F p o) where
  ex := fun b u q => by
    by_cases e : b = p
    · subst e; rw [upd_same] at q ⊢; exact q
    · rw [upd_ne e] at q ⊢; exact r.ex b u q
  ob := fun q hq => by
    have ne := r.ne h hq
    exact ⟨by rw [upd_ne ne]; exact (r.ob q hq).1, (r.ob q hq).2.mono (same_new (r.fr h) o) (upd_ne ne)⟩
  nd := r.nd
  grow := r.grow.trans (same_new (r.fr h) o)
  keep := fun a u q ha => same_new h o _ _ (r.keep a u q ha)
  newF := fun a u q => by
    by_cases e : a = p
    · subst e; exact .inr (r.old h)
    · rw [upd_ne e] at q; exact r.newF a u q
  newO := r.newO
/-- a new object that may be written -/
theorem RepO.mut (r : RepO K N O H F) (h : H p = none) (hm : MR K F (upd H p o) p m) : RepO K N ((p, m) :: O) (upd H p o) F where
  ex := r.ex.trans (same_new h o)
  ob := fun q hq => by
    rcases List.mem_cons.mp hq with e | hq
    · subst e; exact ⟨r.fr h, hm⟩
    · exact ⟨(r.ob q hq).1, (r.ob q hq).2.mono (Same.refl _) (upd_ne (r.ne h hq))⟩
  nd := List.nodup_cons.mpr ⟨fun z => by
    obtain ⟨q, hq, e⟩ := List.mem_map.mp z
    exact r.ne h hq e, r.nd⟩
  grow := r.grow
  keep := fun a u q ha => same_new h o _ _ (r.keep a u q ha)
  newF := r.newF
  newO := fun q hq => by
    rcases List.mem_cons.mp hq with e | hq
    · subst e; exact (r.old h).symm
    · exact r.newO q hq
/-- the object at a, m, becomes m' -/
inductive U : Os → Addr → MO → MO → Os → Prop
  | head {a : Addr} {m m' : MO} {O : Os} : U ((a, m) :: O) a m m' ((a, m') :: O)
  | tail {a : Addr} {m m' : MO} {p : Addr × MO} {O O' : Os} : U O a m m' O' → U (p :: O) a m m' (p :: O')
theorem U.doms {O O' : Os} (u : U O a m m' O') : dom O' = dom O := by
  induction u with
  | head => rfl
  | tail _ ih => exact congrArg (_ :: ·) ih
theorem U.mem {O O' : Os} (u : U O a m m' O') : (a, m) ∈ O := by
  induction u with
  | head => exact List.mem_cons_self
  | tail _ ih => exact List.mem_cons_of_mem _ ih
theorem U.mem' {O O' : Os} (u : U O a m m' O') : (a, m') ∈ O' := by
  induction u with
  | head => exact List.mem_cons_self
  | tail _ ih => exact List.mem_cons_of_mem _ ih
theorem U.of {O O' : Os} (u : U O a m m' O') (nd : (dom O).Nodup) : ∀ q ∈ O', q = (a, m') ∨ (q ∈ O ∧ q.1 ≠ a) := by
  induction u with
  | @head a m m' O =>
    intro q hq
    rcases List.mem_cons.mp hq with e | hq
    · exact .inl e
    · refine .inr ⟨List.mem_cons_of_mem _ hq, fun e => (List.nodup_cons.mp nd).1 (List.mem_map.mpr ⟨q, hq, e⟩)⟩
  | @tail a m m' p O O' u ih =>
    intro q hq
    rcases List.mem_cons.mp hq with e | hq
    · subst e
      refine .inr ⟨List.mem_cons_self, fun e => (List.nodup_cons.mp nd).1 ?_⟩
      show q.1 ∈ _
      rw [e]
      exact List.mem_map.mpr ⟨_, u.mem, rfl⟩
    · rcases ih (List.nodup_cons.mp nd).2 q hq with e | ⟨h, e⟩
      · exact .inl e
      · exact .inr ⟨List.mem_cons_of_mem _ h, e⟩
theorem RepO.upd {O O' : Os} (r : RepO K N O H F) (u : U O a m m' O') (hm : MR K F (upd H a o) a m') : RepO K N O' (L2.upd H a o) F where
  ex := fun b v q => by
    have fa := (r.ob _ u.mem).1
    rw [upd_ne (ne_of_none q fa)]; exact r.ex b v q
  ob := fun q hq => by
    rcases u.of r.nd q hq with e | ⟨h, e⟩
    · subst e; exact ⟨(r.ob _ u.mem).1, hm⟩
    · exact ⟨(r.ob q h).1, (r.ob q h).2.mono (Same.refl _) (upd_ne e)⟩
  nd := by rw [u.doms]; exact r.nd
  grow := r.grow
  keep := fun b v q hb => by
    have ne : b ≠ a := fun e => by
      rcases r.newO (a, m) u.mem with z | z
      · exact hb (e ▸ z)
      · rw [e] at q
        have z' : N.H a = none := z
        rw [z'] at q; cases q
    rw [upd_ne ne]; exact r.keep b v q hb
  newF := r.newF
  newO := fun q hq => by
    rcases u.of r.nd q hq with e | ⟨h, e⟩
    · subst e; exact r.newO (a, m) u.mem
    · exact r.newO q h
/-- fewer objects, another order -/
theorem RepO.sub {O' : Os} (r : RepO K N O H F) (h : ∀ q ∈ O', q ∈ O) (nd : (dom O').Nodup) : RepO K N O' H F :=
  ⟨r.ex, fun q hq => r.ob q (h q hq), nd, r.grow, r.keep, r.newF, fun q hq => r.newO q (h q hq)⟩
end

/-! ### states and judgements -/
def VisX (X : Cx) (x : Str) : Prop := Vis X.env.scope x ∧ (x == ("__debug__" : Str)) = false ∧ (x == ("__classdict__" : Str)) = false
structure RepS (X : Cx) (N : Ent) (R : Rho) (O : Os) (σ : L2.St) (H F : Hp) : Prop where
  o : RepO X.K N O H F
  names : R.map (·.1) = X.N
  len : σ.length = X.N.length
  sl : ∀ (i : Nat) x d, R[i]? = some (x, some d) → ∃ v, σ[i]? = some (some v) ∧ Rp X.K F v d
  vis : ∀ x d, (x, some d) ∈ R → VisX X x
section
variable {X : Cx} {N : Ent} {R : Rho} {O O' : Os} {σ : L2.St} {H H' F F' : Hp}
theorem RepS.go (r : RepS X N R O σ H F) (h : RepO X.K N O' H' F') (e : Same F F') : RepS X N R O' σ H' F' :=
  ⟨h, r.names, r.len, fun i x d q => let ⟨v, a, b⟩ := r.sl i x d q; ⟨v, a, b.mono e⟩, r.vis⟩
/-- a value has come -/
def QV (X : Cx) (N : Ent) (R : Rho) (σ : L2.St) (F : Hp) (Q : D → Os → Prop) : VK := fun v H' => ∃ d O' F', Same F F' ∧ RepS X N R O' σ H' F' ∧ Rp X.K F' v d ∧ Q d O'
def QL (X : Cx) (N : Ent) (R : Rho) (σ : L2.St) (F : Hp) (Q : List D → Os → Prop) : List V → Hp → Prop := fun vs H' => ∃ ds O' F', Same F F' ∧ RepS X N R O' σ H' F' ∧ RpL X.K F' vs ds ∧ Q ds O'
def QB (X : Cx) (N : Ent) (R : Rho) (σ : L2.St) (F : Hp) (Q : Bool → Os → Prop) : Bool → Hp → Prop := fun b H' => ∃ O' F', Same F F' ∧ RepS X N R O' σ H' F' ∧ Q b O'
theorem QV.mk {Q : D → Os → Prop} {v : V} {d : D} (e : Same F F') (r : RepS X N R O' σ H' F') (h : Rp X.K F' v d) (q : Q d O') : QV X N R σ F Q v H' := ⟨d, O', F', e, r, h, q⟩

/-- the code itself as a reading -/
def tM (X : Cx) (e : Expr) : TE := fun σ H Q => ∀ pins s, Inv X pins σ H s → wpAny (model X.prog X.w) X.A (eval e X.env) (EP X pins σ Q) X.xe s
def tMt (X : Cx) (e : Expr) : TT := fun σ H Q => ∀ pins s, Inv X pins σ H s → wpAny (model X.prog X.w) X.A (isTrue e X.env (eval e X.env)) (TP X pins σ Q) X.xe s
def tMw (X : Cx) (e : Expr) : TT := fun σ H Q => ∀ whole pins s, Inv X pins σ H s → wpAny (model X.prog X.w) X.A (isTrue e X.env whole) (TP X pins σ Q) X.xe s
def tMa (X : Cx) (es : List Expr) : TA := fun σ H Q => ∀ pos pins s, Inv X pins σ H s → wpAny (model X.prog X.w) X.A (spliced (backTo pos (starEach es X.env))) (AP X pins σ Q) X.xe s
def tMs (X : Cx) (st : Stmt) : TS := fun D σ H => ∀ pins s, Inv X pins σ H s → wpAny (model X.prog X.w) X.A (exec st X.env) (SP X pins D) X.xe s
def tMb (X : Cx) (st : List Stmt) : TS := fun D σ H => ∀ pins s, Inv X pins σ H s → wpAny (model X.prog X.w) X.A (execs st X.env) (SP X pins D) X.xe s
theorem peM {e : Expr} : PE X e (tM X e) := ⟨fun pins s σ H Q I h => h pins s I⟩
theorem ptM {e : Expr} : PT X e (tMt X e) := ⟨fun pins s σ H Q I h => h pins s I⟩
theorem pwM {e : Expr} : PW X e (tMw X e) := ⟨fun wh pins s σ H Q I h => h wh pins s I⟩
theorem paM {es : List Expr} : PA X es (tMa X es) := ⟨fun pos pins s σ H Q I h => h pos pins s I⟩
theorem psM {st : Stmt} : PS X st (tMs X st) := ⟨fun pins s σ H Q I h => h pins s I⟩
theorem pssM {st : List Stmt} : PSs X st (tMb X st) := ⟨fun pins s σ H Q I h => h pins s I⟩
theorem tM.of {e : Expr} {t : TE} {Q : VK} (h : PE X e t) (q : t σ H Q) : tM X e σ H Q := fun pins s I => h.run pins s σ H Q I q
theorem tMt.of {e : Expr} {t : TT} {Q : Bool → Hp → Prop} (h : PT X e t) (q : t σ H Q) : tMt X e σ H Q := fun pins s I => h.run pins s σ H Q I q
theorem tMw.of {e : Expr} {t : TT} {Q : Bool → Hp → Prop} (h : PW X e t) (q : t σ H Q) : tMw X e σ H Q := fun wh pins s I => h.run wh pins s σ H Q I q
theorem tMa.of {es : List Expr} {t : TA} {Q : List V → Hp → Prop} (h : PA X es t) (q : t σ H Q) : tMa X es σ H Q := fun pos pins s I => h.run pos pins s σ H Q I q
theorem tMs.of {st : Stmt} {t : TS} {E : Ends} (h : PS X st t) (q : t E σ H) : tMs X st E σ H := fun pins s I => h.run pins s σ H E I q
theorem tMb.of {st : List Stmt} {t : TS} {E : Ends} (h : PSs X st t) (q : t E σ H) : tMb X st E σ H := fun pins s I => h.run pins s σ H E I q
theorem tM.imp {e : Expr} {Q Q' : VK} (h : tM X e σ H Q) (q : ∀ v H', Q v H' → Q' v H') : tM X e σ H Q' := fun pins s I => thn (h pins s I) fun u s' ⟨v, H', J, r, z⟩ => ⟨v, H', J, r, q v H' z⟩
theorem tMt.imp {e : Expr} {Q Q' : Bool → Hp → Prop} (h : tMt X e σ H Q) (q : ∀ v H', Q v H' → Q' v H') : tMt X e σ H Q' := fun pins s I => thn (h pins s I) fun u s' ⟨H', J, z⟩ => ⟨H', J, q u H' z⟩
theorem tMw.imp {e : Expr} {Q Q' : Bool → Hp → Prop} (h : tMw X e σ H Q) (q : ∀ v H', Q v H' → Q' v H') : tMw X e σ H Q' := fun wh pins s I => thn (h wh pins s I) fun u s' ⟨H', J, z⟩ => ⟨H', J, q u H' z⟩
theorem tMa.imp {es : List Expr} {Q Q' : List V → Hp → Prop} (h : tMa X es σ H Q) (q : ∀ v H', Q v H' → Q' v H') : tMa X es σ H Q' := fun pos pins s I => thn (h pos pins s I) fun u s' ⟨v, H', J, r, z⟩ => ⟨v, H', J, r, q v H' z⟩

def AE (X : Cx) (N : Ent) (e : Expr) (R : Rho) (O : Os) (Q : D → Os → Prop) : Prop := ∀ σ H F, RepS X N R O σ H F → tM X e σ H (QV X N R σ F Q)
def AT (X : Cx) (N : Ent) (e : Expr) (R : Rho) (O : Os) (Q : Bool → Os → Prop) : Prop := ∀ σ H F, RepS X N R O σ H F → tMt X e σ H (QB X N R σ F Q)
def AW (X : Cx) (N : Ent) (e : Expr) (R : Rho) (O : Os) (Q : Bool → Os → Prop) : Prop := ∀ σ H F, RepS X N R O σ H F → tMw X e σ H (QB X N R σ F Q)
def AA (X : Cx) (N : Ent) (es : List Expr) (R : Rho) (O : Os) (Q : List D → Os → Prop) : Prop := ∀ σ H F, RepS X N R O σ H F → tMa X es σ H (QL X N R σ F Q)
structure AEnds where
  nx : Rho → Os → Prop
  rt : D → Os → Prop
  bk : Rho → Os → Prop := fun _ _ => False
  ct : Rho → Os → Prop := fun _ _ => False
def QN (X : Cx) (N : Ent) (F : Hp) (Q : Rho → Os → Prop) : L2.St → Hp → Prop := fun σ' H' => ∃ R' O' F', Same F F' ∧ RepS X N R' O' σ' H' F' ∧ Q R' O'
def QR (K : PySem.W.Frag) (N : Ent) (F : Hp) (Q : D → Os → Prop) : VK := fun v H' => ∃ d O' F', Same F F' ∧ RepO K N O' H' F' ∧ Rp K F' v d ∧ Q d O'
def conc (X : Cx) (N : Ent) (F : Hp) (E : AEnds) : Ends where
  nx := QN X N F E.nx
  rt := QR X.K N F E.rt
  bk := QN X N F E.bk
  ct := QN X N F E.ct
def AS (X : Cx) (N : Ent) (st : Stmt) (R : Rho) (O : Os) (E : AEnds) : Prop := ∀ σ H F, RepS X N R O σ H F → tMs X st (conc X N F E) σ H
def ASs (X : Cx) (N : Ent) (st : List Stmt) (R : Rho) (O : Os) (E : AEnds) : Prop := ∀ σ H F, RepS X N R O σ H F → tMb X st (conc X N F E) σ H
end
end K12
/-! A3: expressions. -/
namespace K12
open PySem PySem.Spec PyProof.Rows L2
section
variable {X : Cx} {N : Ent} {R : Rho} {O O1 O' : Os} {Q : D → Os → Prop} {e a b : Expr} {es : List Expr} {pos p : Pos} {x : Str} {d : D}

theorem AE.imp {Q' : D → Os → Prop} (h : AE X N e R O Q) (q : ∀ d O', Q d O' → Q' d O') : AE X N e R O Q' := fun σ H F r =>
  (h σ H F r).imp fun v H' ⟨d, O', F', s, r', rp, z⟩ => ⟨d, O', F', s, r', rp, q d O' z⟩
theorem AE.of {t : TE} (h : PE X e t) (q : ∀ σ H F, RepS X N R O σ H F → t σ H (QV X N R σ F Q)) : AE X N e R O Q := fun σ H F r => tM.of h (q σ H F r)
/-- one part, then the rest by its data -/
theorem run1 (h : AE X N a R O fun d O1 => ∀ v σ H F, RepS X N R O1 σ H F → Rp X.K F v d → QV X N R σ F Q v H) : AE X N a R O Q := fun σ H F r =>
  (h σ H F r).imp fun v H' ⟨d, O', F', s, r', rp, z⟩ => by
    obtain ⟨d2, O2, F2, s2, r2, rp2, q2⟩ := z v σ H' F' r' rp
    exact ⟨d2, O2, F2, s.trans s2, r2, rp2, q2⟩
theorem QV.more {σ : L2.St} {F F' : Hp} {v : V} {H' : Hp} (s : Same F F') (h : QV X N R σ F' Q v H') : QV X N R σ F Q v H' := by
  obtain ⟨d2, O2, F2, s2, r2, rp2, q2⟩ := h
  exact ⟨d2, O2, F2, s.trans s2, r2, rp2, q2⟩
theorem QV.same {σ : L2.St} {H F : Hp} {v : V} (r : RepS X N R O σ H F) (h : Rp X.K F v d) (q : Q d O) : QV X N R σ F Q v H := ⟨d, O, F, Same.refl _, r, h, q⟩
/-- a new object, never written again -/
theorem QV.frz {σ : L2.St} {H F : Hp} {p : Addr} {o : HO} (r : RepS X N R O σ H F) (hp : H p = none) (h : Rp X.K (upd F p o) (.ref p) d) (q : Q d O) : QV X N R σ F Q (.ref p) (upd H p o) :=
  ⟨d, O, upd F p o, same_new (r.o.fr hp) o, r.go (r.o.frz hp o) (same_new (r.o.fr hp) o), h, q⟩
theorem QV.mut {σ : L2.St} {H F : Hp} {p : Addr} {o : HO} {m : MO} (r : RepS X N R O σ H F) (hp : H p = none) (h : MR X.K F (upd H p o) p m) (q : Q (.ref p) ((p, m) :: O)) : QV X N R σ F Q (.ref p) (upd H p o) :=
  ⟨.ref p, (p, m) :: O, F, Same.refl _, r.go (r.o.mut hp h) (Same.refl _), .ref p, q⟩

/-! ### names, constants -/
inductive Get : Rho → Str → D → Prop
  | head {x : Str} {d : D} {R : Rho} : Get ((x, some d) :: R) x d
  | tail {x : Str} {d : D} {p : Str × Option D} {R : Rho} : Get R x d → Get (p :: R) x d
theorem Get.ix (g : Get R x d) : ∃ i : Nat, R[i]? = some (x, some d) := by
  induction g with
  | head => exact ⟨0, rfl⟩
  | tail _ ih => obtain ⟨i, h⟩ := ih; exact ⟨i + 1, h⟩
theorem ae_n (g : Get R x d) (q : Q d O) : AE X N (.Name x p) R O Q := fun σ H F r => by
  obtain ⟨i, hi⟩ := g.ix
  have hN : X.N[i]? = some x := by rw [← r.names, List.getElem?_map, hi] <;> rfl
  obtain ⟨v1, v2, v3⟩ := r.vis x d (List.mem_of_getElem? hi)
  obtain ⟨v, hv, rp⟩ := r.sl i x d hi
  exact tM.of (pe_var hN v1 v2 v3) ⟨v, hv, QV.same r rp q⟩
/-- a name of the module -/
structure Glob (X : Cx) (x : Str) (d : D) : Prop where
  to : ∃ v u, X.mg x = some u ∧ RelV v u ∧ (∀ F, Rp X.K F v d) ∧ (x == ("__debug__" : Str)) = false
theorem ae_g (g : Glob X x d) (hg : Gl X x) (q : Q d O) : AE X N (.Name x p) R O Q := fun σ H F r => by
  obtain ⟨v, u, hm, hr, h, hd⟩ := g.to
  exact tM.of (pe_glob hg hm hr hd) (QV.same r (h F) q)
theorem ae_int {i : Int} {j} (q : Q (.int i) O) : AE X N (.Constant (.int i) j p) R O Q := fun σ H F r => tM.of pe_int (QV.same r (.int i) q)
theorem ae_bl {i : Bool} {j} (q : Q (.bl i) O) : AE X N (.Constant (.bool i) j p) R O Q := fun σ H F r => tM.of pe_bl (QV.same r (.bl i) q)
theorem ae_str {i : Str} {j} (q : Q (.str i) O) : AE X N (.Constant (.str i) j p) R O Q := fun σ H F r => tM.of pe_str (QV.same r (.str i) q)
theorem ae_non {j} (q : Q .non O) : AE X N (.Constant .none j p) R O Q := fun σ H F r => tM.of pe_non (QV.same r .non q)

/-! ### several -/
theorem aa_nil {Q : List D → Os → Prop} (q : Q [] O) : AA X N [] R O Q := fun σ H F r => tMa.of pa_nil ⟨[], O, F, Same.refl _, r, .nil, q⟩
theorem aa_cons {Q : List D → Os → Prop} (h : AE X N e R O fun d O1 => AA X N es R O1 fun ds O2 => Q (d :: ds) O2) (hs : starEach (e :: es) X.env = (false, eval e X.env) :: starEach es X.env := by rfl) : AA X N (e :: es) R O Q := fun σ H F r =>
  tMa.of (pa_cons peM paM hs) ((h σ H F r).imp fun v H1 ⟨d, O1, F1, s1, r1, p1, q1⟩ => (q1 σ H1 F1 r1).imp fun vs H2 ⟨ds, O2, F2, s2, r2, p2, q2⟩ =>
    ⟨d :: ds, O2, F2, s1.trans s2, r2, .cons (p1.mono s2) p2, q2⟩)
theorem le_line {n : Nat} (h : n ≤ 100000) : n ≤ sizeLine := Nat.le_trans h (by decide)
theorem lt_line {n : Nat} (h : n ≤ 100000) : n < sizeLine := Nat.lt_of_le_of_lt h (by decide)
theorem ae_tup {k} (h : AA X N es R O fun ds O1 => ds.length ≤ 100000 ∧ Q (.tup ds) O1) : AE X N (.Tuple es k pos) R O Q := fun σ H F r =>
  tM.of (pe_tup paM) ((h σ H F r).imp fun vs H1 ⟨ds, O1, F1, s1, r1, p1, hl, q1⟩ => ⟨by rw [p1.len]; exact le_line hl, fun p hp =>
    QV.more s1 (QV.frz r1 hp (.tup (SqT.of upd_same) (p1.mono (same_new (r1.o.fr hp) _))) q1)⟩)
theorem ae_lst (h : AA X N es R O fun ds O1 => ds.length ≤ 100000 ∧ Q (.lst ds) O1) : AE X N (.List es pos) R O Q := fun σ H F r =>
  tM.of (pe_lst paM) ((h σ H F r).imp fun vs H1 ⟨ds, O1, F1, s1, r1, p1, hl, q1⟩ => ⟨by rw [p1.len]; exact le_line hl, fun p hp =>
    QV.more s1 (QV.frz r1 hp (.lst upd_same (p1.mono (same_new (r1.o.fr hp) _))) q1)⟩)
/-- a list that will be written -/
theorem ae_lstm (h : AA X N es R O fun ds O1 => ds.length ≤ 100000 ∧ ∀ p, Q (.ref p) ((p, .lst ds) :: O1)) : AE X N (.List es pos) R O Q := fun σ H F r =>
  tM.of (pe_lst paM) ((h σ H F r).imp fun vs H1 ⟨ds, O1, F1, s1, r1, p1, hl, q1⟩ => ⟨by rw [p1.len]; exact le_line hl, fun p hp =>
    QV.more s1 (QV.mut (m := .lst ds) r1 hp ⟨vs, upd_same, p1⟩ (q1 p))⟩)
theorem ae_dnew (q : ∀ p, Q (.ref p) ((p, .dic []) :: O)) : AE X N (.Dict [] [] pos) R O Q := fun σ H F r =>
  tM.of pe_dnewK fun p hp => QV.mut (m := .dic []) r hp ⟨[], upd_same, .nil⟩ (q p)
theorem ae_dnewT (q : ∀ p, Q (.ref p) ((p, .dct []) :: O)) : AE X N (.Dict [] [] pos) R O Q := fun σ H F r =>
  tM.of pe_dnewT fun p hp => QV.mut (m := .dct []) r hp ⟨[], upd_same, .nil⟩ (q p)

/-! ### operators -/
def RA (X : Cx) (N : Ent) (r : R2) (d1 d2 : D) (R : Rho) (O : Os) (Q : D → Os → Prop) : Prop := ∀ v1 v2 σ H F, RepS X N R O σ H F → Rp X.K F v1 d1 → Rp X.K F v2 d2 → r v1 v2 H (QV X N R σ F Q)
theorem ae_2 {r : R2} (rule : ∀ ta tb, PE X a ta → PE X b tb → PE X e (tOp r ta tb)) (h : AE X N a R O fun d1 O1 => AE X N b R O1 fun d2 O2 => RA X N r d1 d2 R O2 Q)
    (rm : ∀ x y H Q Q', (∀ v H', Q v H' → Q' v H') → r x y H Q → r x y H Q') : AE X N e R O Q := fun σ H F r0 =>
  tM.of (rule _ _ peM peM) ((h σ H F r0).imp fun v H1 ⟨d1, O1, F1, s1, r1, p1, q1⟩ => (q1 σ H1 F1 r1).imp fun u H2 ⟨d2, O2, F2, s2, r2, p2, q2⟩ =>
    rm _ _ _ _ _ (fun w H3 q => QV.more (s1.trans s2) q) (q2 v u σ H2 F2 r2 (p1.mono s2) p2))
/-- a reading is monotone in what is wanted -/
def Mon (r : R2) : Prop := ∀ x y H Q Q', (∀ v H', Q v H' → Q' v H') → r x y H Q → r x y H Q'
theorem ae_op {op : Operator} {r : R2} (ho : OpR X (binaryOp op) r) (rm : Mon r) (h : AE X N a R O fun d1 O1 => AE X N b R O1 fun d2 O2 => RA X N r d1 d2 R O2 Q) : AE X N (.BinOp a op b pos) R O Q :=
  ae_2 (fun _ _ ha hb => pe_op ho ha hb) h rm
theorem ae_cmp {op : CmpOp} {r : R2} (ho : OpR X (compareOp op) r) (rm : Mon r) (hm : behindInMarks op b = false) (h : AE X N a R O fun d1 O1 => AE X N b R O1 fun d2 O2 => RA X N r d1 d2 R O2 Q) : AE X N (.Compare a [op] [b] pos) R O Q :=
  ae_2 (fun _ _ ha hb => pe_cmpR ho ha hb hm) h rm
theorem ae_ix {r : R2} (ho : IxR X r) (rm : Mon r) (hs : PlainIx b) (h : AE X N a R O fun d1 O1 => AE X N b R O1 fun d2 O2 => RA X N r d1 d2 R O2 Q) : AE X N (.Subscript a b pos) R O Q :=
  ae_2 (fun _ _ ha hb => pe_ix ho ha hb hs) h rm
theorem at_cmp {op : CmpOp} {r : R2} {Q : Bool → Os → Prop} (ho : OpR X (compareOp op) r) (rm : Mon r) (hm : behindInMarks op b = false) (h : AE X N a R O fun d1 O1 => AE X N b R O1 fun d2 O2 => RA X N r d1 d2 R O2 fun d O3 => ∃ c, d = .bl c ∧ Q c O3) :
    AT X N (.Compare a [op] [b] pos) R O Q := fun σ H F r0 =>
  tMt.of (pt_cmpR ho peM peM hm) ((h σ H F r0).imp fun v H1 ⟨d1, O1, F1, s1, r1, p1, q1⟩ => (q1 σ H1 F1 r1).imp fun u H2 ⟨d2, O2, F2, s2, r2, p2, q2⟩ =>
    rm _ _ _ _ _ (fun w H3 q => by
      obtain ⟨d, O3, F3, s3, r3, p3, c, ed, z⟩ := q
      subst ed
      cases p3
      exact ⟨c, rfl, O3, F3, (s1.trans s2).trans s3, r3, z⟩) (q2 v u σ H2 F2 r2 (p1.mono s2) p2))
theorem at_val {Q : Bool → Os → Prop} (h : AE X N e R O fun d O1 => ∃ c, d = .bl c ∧ Q c O1) (he : ∀ whole, isTrue e X.env whole = (do let v ← whole; standAt e.pos; holding [v] (truthy v)) := by intro _; rfl) : AT X N e R O Q := fun σ H F r0 =>
  tMt.of (pt_val peM he) ((h σ H F r0).imp fun v H1 ⟨d1, O1, F1, s1, r1, p1, c, ed, z⟩ => by
    subst ed
    cases p1
    exact ⟨c, rfl, O1, F1, s1, r1, z⟩)
theorem at_and {Q : Bool → Os → Prop} {rest : List Expr} (h : AT X N a R O fun c O1 => if c = true then AW X N (.BoolOp .And (b :: rest) pos) R O1 Q else Q false O1) : AW X N (.BoolOp .And (a :: b :: rest) pos) R O Q := fun σ H F r0 =>
  tMw.of (pw_and ptM pwM) ((h σ H F r0).imp fun c H1 ⟨O1, F1, s1, r1, q1⟩ => by
    cases c with
    | true =>
      rw [if_pos rfl] at q1 ⊢
      exact (q1 σ H1 F1 r1).imp fun c2 H2 ⟨O2, F2, s2, r2, q2⟩ => ⟨O2, F2, s1.trans s2, r2, q2⟩
    | false =>
      rw [if_neg Bool.false_ne_true] at q1 ⊢
      exact ⟨O1, F1, s1, r1, q1⟩)
theorem at_or {Q : Bool → Os → Prop} {rest : List Expr} (h : AT X N a R O fun c O1 => if c = true then Q true O1 else AW X N (.BoolOp .Or (b :: rest) pos) R O1 Q) : AW X N (.BoolOp .Or (a :: b :: rest) pos) R O Q := fun σ H F r0 =>
  tMw.of (pw_or ptM pwM) ((h σ H F r0).imp fun c H1 ⟨O1, F1, s1, r1, q1⟩ => by
    cases c with
    | false =>
      rw [if_neg Bool.false_ne_true] at q1 ⊢
      exact (q1 σ H1 F1 r1).imp fun c2 H2 ⟨O2, F2, s2, r2, q2⟩ => ⟨O2, F2, s1.trans s2, r2, q2⟩
    | true =>
      rw [if_pos rfl] at q1 ⊢
      exact ⟨O1, F1, s1, r1, q1⟩)
theorem at_and1 {Q : Bool → Os → Prop} (h : AT X N a R O Q) : AW X N (.BoolOp .And [a] pos) R O Q := fun σ H F r0 => tMw.of (pw_and1 ptM) (h σ H F r0)
theorem at_or1 {Q : Bool → Os → Prop} (h : AT X N a R O Q) : AW X N (.BoolOp .Or [a] pos) R O Q := fun σ H F r0 => tMw.of (pw_or1 ptM) (h σ H F r0)
theorem AW.t {Q : Bool → Os → Prop} (h : AW X N e R O Q) : AT X N e R O Q := fun σ H F r0 => tMt.of (PW.pt pwM) (h σ H F r0)
theorem ae_if {c : Expr} (h : AT X N c R O fun k O1 => if k = true then AE X N a R O1 Q else AE X N b R O1 Q) : AE X N (.IfExp c a b pos) R O Q := fun σ H F r0 =>
  tM.of (pe_ifExp ptM peM peM) ((h σ H F r0).imp fun c H1 ⟨O1, F1, s1, r1, q1⟩ => by
    cases c with
    | true =>
      rw [if_pos rfl] at q1 ⊢
      exact (q1 σ H1 F1 r1).imp fun _ _ q => QV.more s1 q
    | false =>
      rw [if_neg Bool.false_ne_true] at q1 ⊢
      exact (q1 σ H1 F1 r1).imp fun _ _ q => QV.more s1 q)
end
end K12
/-! A4: values: comparisons, subscripts, built-ins. -/
namespace K12
open PySem PySem.Spec PyProof.Rows L2

/-! ### data that may be compared -/
mutual
def D.py : D → Option PyData
  | .non => some .none
  | .bl b => some (.bool b)
  | .int i => some (.int i)
  | .str s => some (.str s)
  | .tup xs => (D.pyL xs).map .tuple
  | .lst xs => (D.pyL xs).map .list
  | .dic _ => none
  | .dct _ => none
  | .ins _ _ => none
  | .ref _ => none
  | .arg _ => none
def D.pyL : List D → Option (List PyData)
  | [] => some []
  | d :: ds => d.py.bind fun p => (D.pyL ds).map fun r => p :: r
end
section
variable {K : PySem.W.Frag} {F H : Hp}
mutual
theorem Rp.dp (e : Same F H) : ∀ {d : D} {v : V} {p : PyData}, Rp K F v d → d.py = some p → Dp K H v p
  | .non, _, _, .non, h => by simp only [D.py, Option.some.injEq] at h; subst h; exact .non
  | .bl b, _, _, .bl _, h => by simp only [D.py, Option.some.injEq] at h; subst h; exact .bl b
  | .int b, _, _, .int _, h => by simp only [D.py, Option.some.injEq] at h; subst h; exact .int b
  | .str b, _, _, .str _, h => by simp only [D.py, Option.some.injEq] at h; subst h; exact .str b
  | .tup ds, _, _, .tup hs r, h => by
    simp only [D.py, Option.map_eq_some_iff] at h
    obtain ⟨ps, hp, e1⟩ := h
    subst e1
    exact .tup (same_t e hs) (RpL.dp e r hp)
  | .lst ds, _, _, .lst hs r, h => by
    simp only [D.py, Option.map_eq_some_iff] at h
    obtain ⟨ps, hp, e1⟩ := h
    subst e1
    exact .lst (SqL.of (e _ _ hs)) (RpL.dp e r hp)
  | .dic _, _, _, _, h => by simp only [D.py] at h; cases h
  | .dct _, _, _, _, h => by simp only [D.py] at h; cases h
  | .ins _ _, _, _, _, h => by simp only [D.py] at h; cases h
  | .ref _, _, _, _, h => by simp only [D.py] at h; cases h
  | .arg _, _, _, _, h => by simp only [D.py] at h; cases h
theorem RpL.dp (e : Same F H) : ∀ {ds : List D} {vs : List V} {ps : List PyData}, RpL K F vs ds → D.pyL ds = some ps → DpAll K H vs ps
  | [], _, _, .nil, h => by simp only [D.pyL, Option.some.injEq] at h; subst h; exact .nil
  | d :: ds, _, _, .cons h1 h2, h => by
    simp only [D.pyL, Option.bind_eq_some_iff, Option.map_eq_some_iff] at h
    obtain ⟨p, hp, r, hr, e1⟩ := h
    subst e1
    exact .cons (Rp.dp e h1 hp) (RpL.dp e h2 hr)
end
end
/-- the answer of d == e -/
def eqP (d e : D) : Option Bool := d.py.bind fun p => e.py.bind fun q => if SeqAt.shaped p && SeqAt.shaped q then some (PyData.eqv p q) else none
theorem eqP_some {d e : D} {c : Bool} (h : eqP d e = some c) : ∃ p q, d.py = some p ∧ e.py = some q ∧ SeqAt.shaped p = true ∧ SeqAt.shaped q = true ∧ PyData.eqv p q = c := by
  unfold eqP at h
  simp only [Option.bind_eq_some_iff] at h
  obtain ⟨p, hp, q, hq, h⟩ := h
  by_cases z : (SeqAt.shaped p && SeqAt.shaped q) = true
  · rw [if_pos z] at h
    obtain ⟨z1, z2⟩ := Bool.and_eq_true_iff.mp z
    exact ⟨p, q, hp, hq, z1, z2, Option.some.inj h⟩
  · rw [if_neg z] at h; cases h

section
variable {X : Cx} {N : Ent} {R : Rho} {O O1 O' : Os} {Q : D → Os → Prop} {e a b o : Expr} {es : List Expr} {pos p apos cpos : Pos} {x : Str} {d d1 d2 : D}

theorem mon_eqD : Mon (rEqD X.K) := fun x y H Q Q' q ⟨d, e, h1, h2, h3, h4, h⟩ => ⟨d, e, h1, h2, h3, h4, q _ _ h⟩
theorem mon_neD : Mon (rNeD X.K) := fun x y H Q Q' q ⟨d, e, h1, h2, h3, h4, h⟩ => ⟨d, e, h1, h2, h3, h4, q _ _ h⟩
theorem ra_eq {c : Bool} (h : eqP d1 d2 = some c) (q : Q (.bl c) O) : RA X N (rEqD X.K) d1 d2 R O Q := fun v1 v2 σ H F r p1 p2 => by
  obtain ⟨p, q', hp, hq, s1, s2, e⟩ := eqP_some h
  exact ⟨p, q', p1.dp r.o.ex hp, p2.dp r.o.ex hq, s1, s2, by rw [e]; exact QV.same r (.bl c) q⟩
theorem ra_ne {c : Bool} (h : eqP d1 d2 = some c) (q : Q (.bl (!c)) O) : RA X N (rNeD X.K) d1 d2 R O Q := fun v1 v2 σ H F r p1 p2 => by
  obtain ⟨p, q', hp, hq, s1, s2, e⟩ := eqP_some h
  exact ⟨p, q', p1.dp r.o.ex hp, p2.dp r.o.ex hq, s1, s2, by rw [e]; exact QV.same r (.bl _) q⟩
theorem at_eq {Q : Bool → Os → Prop} (hu : X.A.units + 65 < cLine) (h : AE X N a R O fun d1 O1 => AE X N b R O1 fun d2 O2 => ∃ c, eqP d1 d2 = some c ∧ Q c O2) : AT X N (.Compare a [.Eq] [b] pos) R O Q :=
  at_cmp (op_eqD (by omega)) mon_eqD (nomark _) (h.imp fun d1 O1 h => h.imp fun d2 O2 ⟨c, e, q⟩ => ra_eq e ⟨c, rfl, q⟩)
theorem at_ne {Q : Bool → Os → Prop} (hu : X.A.units + 65 < cLine) (h : AE X N a R O fun d1 O1 => AE X N b R O1 fun d2 O2 => ∃ c, eqP d1 d2 = some c ∧ Q (!c) O2) : AT X N (.Compare a [.NotEq] [b] pos) R O Q :=
  at_cmp (op_neD (by omega)) mon_neD (nomark _) (h.imp fun d1 O1 h => h.imp fun d2 O2 ⟨c, e, q⟩ => ra_ne e ⟨!c, rfl, q⟩)
theorem ae_eq (hu : X.A.units + 65 < cLine) (h : AE X N a R O fun d1 O1 => AE X N b R O1 fun d2 O2 => ∃ c, eqP d1 d2 = some c ∧ Q (.bl c) O2) : AE X N (.Compare a [.Eq] [b] pos) R O Q :=
  ae_cmp (op_eqD (by omega)) mon_eqD (nomark _) (h.imp fun d1 O1 h => h.imp fun d2 O2 ⟨c, e, q⟩ => ra_eq e q)
theorem ae_ne (hu : X.A.units + 65 < cLine) (h : AE X N a R O fun d1 O1 => AE X N b R O1 fun d2 O2 => ∃ c, eqP d1 d2 = some c ∧ Q (.bl (!c)) O2) : AE X N (.Compare a [.NotEq] [b] pos) R O Q :=
  ae_cmp (op_neD (by omega)) mon_neD (nomark _) (h.imp fun d1 O1 h => h.imp fun d2 O2 ⟨c, e, q⟩ => ra_ne e q)

/-! ### numbers -/
theorem mon_I0 {g : Int → Int → V} : Mon (rI0 g) := fun x y H Q Q' q ⟨i, j, h1, h2, h⟩ => ⟨i, j, h1, h2, q _ _ h⟩
theorem mon_I {C : Int → Int → Prop} {g : Int → Int → V} : Mon (rI C g) := fun x y H Q Q' q ⟨i, j, h1, h2, hc, h⟩ => ⟨i, j, h1, h2, hc, q _ _ h⟩
theorem ra_I0 {g : Int → Int → V} {i j : Int} {z : D} (hz : ∀ F, Rp X.K F (g i j) z) (q : Q z O) : RA X N (rI0 g) (.int i) (.int j) R O Q := fun v1 v2 σ H F r p1 p2 => by
  cases p1
  cases p2
  exact ⟨i, j, rfl, rfl, QV.same r (hz F) q⟩
theorem ra_I {C : Int → Int → Prop} {g : Int → Int → V} {i j : Int} {z : D} (hc : C i j) (hz : ∀ F, Rp X.K F (g i j) z) (q : Q z O) : RA X N (rI C g) (.int i) (.int j) R O Q := fun v1 v2 σ H F r p1 p2 => by
  cases p1
  cases p2
  exact ⟨i, j, rfl, rfl, hc, QV.same r (hz F) q⟩
def intsD (d1 d2 : D) (P : Int → Int → Prop) : Prop := ∃ i j, d1 = .int i ∧ d2 = .int j ∧ P i j
theorem intsD_mk {i j : Int} {P : Int → Int → Prop} (h : P i j) : intsD (.int i) (.int j) P := ⟨i, j, rfl, rfl, h⟩
theorem ae_addI (h : AE X N a R O fun d1 O1 => AE X N b R O1 fun d2 O2 => intsD d1 d2 fun i j => Q (.int (i + j)) O2) : AE X N (.BinOp a .Add b pos) R O Q :=
  ae_op op_add mon_I0 (h.imp fun d1 O1 h => h.imp fun d2 O2 ⟨i, j, e1, e2, q⟩ => by subst e1; subst e2; exact ra_I0 (fun _ => .int _) q)
theorem ae_subI (h : AE X N a R O fun d1 O1 => AE X N b R O1 fun d2 O2 => intsD d1 d2 fun i j => Q (.int (i - j)) O2) : AE X N (.BinOp a .Sub b pos) R O Q :=
  ae_op op_sub mon_I0 (h.imp fun d1 O1 h => h.imp fun d2 O2 ⟨i, j, e1, e2, q⟩ => by subst e1; subst e2; exact ra_I0 (fun _ => .int _) q)
theorem ae_mulI (h : AE X N a R O fun d1 O1 => AE X N b R O1 fun d2 O2 => intsD d1 d2 fun i j => CMul i j ∧ Q (.int (i * j)) O2) : AE X N (.BinOp a .Mult b pos) R O Q :=
  ae_op op_mul mon_I (h.imp fun d1 O1 h => h.imp fun d2 O2 ⟨i, j, e1, e2, c, q⟩ => by subst e1; subst e2; exact ra_I c (fun _ => .int _) q)
theorem ae_modI (h : AE X N a R O fun d1 O1 => AE X N b R O1 fun d2 O2 => intsD d1 d2 fun i j => 0 < j ∧ Q (.int (i % j)) O2) : AE X N (.BinOp a .Mod b pos) R O Q :=
  ae_op op_mod mon_I (h.imp fun d1 O1 h => h.imp fun d2 O2 ⟨i, j, e1, e2, c, q⟩ => by subst e1; subst e2; exact ra_I c (fun _ => .int _) q)
theorem ae_divI (h : AE X N a R O fun d1 O1 => AE X N b R O1 fun d2 O2 => intsD d1 d2 fun i j => CDiv i j ∧ Q (.int (i / j)) O2) : AE X N (.BinOp a .FloorDiv b pos) R O Q :=
  ae_op op_fdiv mon_I (h.imp fun d1 O1 h => h.imp fun d2 O2 ⟨i, j, e1, e2, c, q⟩ => by subst e1; subst e2; exact ra_I c (fun _ => .int _) q)
theorem ae_powI (h : AE X N a R O fun d1 O1 => AE X N b R O1 fun d2 O2 => intsD d1 d2 fun i j => CPow i j ∧ Q (.int (i ^ j.toNat)) O2) : AE X N (.BinOp a .Pow b pos) R O Q :=
  ae_op op_pow mon_I (h.imp fun d1 O1 h => h.imp fun d2 O2 ⟨i, j, e1, e2, c, q⟩ => by subst e1; subst e2; exact ra_I c (fun _ => .int _) q)
theorem at_lt {Q : Bool → Os → Prop} (h : AE X N a R O fun d1 O1 => AE X N b R O1 fun d2 O2 => intsD d1 d2 fun i j => Q (decide (i < j)) O2) : AT X N (.Compare a [.Lt] [b] pos) R O Q :=
  at_cmp op_lt mon_I0 (nomark _) (h.imp fun d1 O1 h => h.imp fun d2 O2 ⟨i, j, e1, e2, q⟩ => by subst e1; subst e2; exact ra_I0 (fun _ => .bl _) ⟨_, rfl, q⟩)
theorem at_gt {Q : Bool → Os → Prop} (h : AE X N a R O fun d1 O1 => AE X N b R O1 fun d2 O2 => intsD d1 d2 fun i j => Q (decide (j < i)) O2) : AT X N (.Compare a [.Gt] [b] pos) R O Q :=
  at_cmp op_gt mon_I0 (nomark _) (h.imp fun d1 O1 h => h.imp fun d2 O2 ⟨i, j, e1, e2, q⟩ => by subst e1; subst e2; exact ra_I0 (fun _ => .bl _) ⟨_, rfl, q⟩)
theorem at_ge {Q : Bool → Os → Prop} (h : AE X N a R O fun d1 O1 => AE X N b R O1 fun d2 O2 => intsD d1 d2 fun i j => Q (decide (j ≤ i)) O2) : AT X N (.Compare a [.GtE] [b] pos) R O Q :=
  at_cmp op_ge mon_I0 (nomark _) (h.imp fun d1 O1 h => h.imp fun d2 O2 ⟨i, j, e1, e2, q⟩ => by subst e1; subst e2; exact ra_I0 (fun _ => .bl _) ⟨_, rfl, q⟩)
/-- equality of two whole numbers by their values -/
theorem at_eqI {Q : Bool → Os → Prop} (h : AE X N a R O fun d1 O1 => AE X N b R O1 fun d2 O2 => intsD d1 d2 fun i j => Q (decide (i = j)) O2) : AT X N (.Compare a [.Eq] [b] pos) R O Q :=
  at_cmp (r := rEq) op_eq (fun x y H Q Q' q ⟨h1, h⟩ => ⟨h1, q _ _ h⟩) (nomark _) (h.imp fun d1 O1 h => h.imp fun d2 O2 ⟨i, j, e1, e2, q⟩ => by
    subst e1; subst e2
    intro v1 v2 σ H F r p1 p2
    cases p1
    cases p2
    have e : decide (V.int i = V.int j) = decide (i = j) := by simp
    exact ⟨rfl, by rw [e]; exact QV.same r (.bl _) ⟨_, rfl, q⟩⟩)
theorem at_neI {Q : Bool → Os → Prop} (h : AE X N a R O fun d1 O1 => AE X N b R O1 fun d2 O2 => intsD d1 d2 fun i j => Q (!decide (i = j)) O2) : AT X N (.Compare a [.NotEq] [b] pos) R O Q :=
  at_cmp (r := rNe) op_ne (fun x y H Q Q' q ⟨h1, h⟩ => ⟨h1, q _ _ h⟩) (nomark _) (h.imp fun d1 O1 h => h.imp fun d2 O2 ⟨i, j, e1, e2, q⟩ => by
    subst e1; subst e2
    intro v1 v2 σ H F r p1 p2
    cases p1
    cases p2
    have e : decide (V.int i = V.int j) = decide (i = j) := by simp
    exact ⟨rfl, by rw [e]; exact QV.same r (.bl _) ⟨_, rfl, q⟩⟩)

/-! ### texts and rows joined -/
def addD : D → D → Option D
  | .tup a, .tup b => if a.length + b.length ≤ 100000 then some (.tup (a ++ b)) else none
  | .str a, .str b => if a.length + b.length ≤ 100000 then some (.str (a ++ b)) else none
  | .lst a, .lst b => if a.length + b.length ≤ 100000 then some (.lst (a ++ b)) else none
  | _, _ => none
theorem mon_catA : Mon (rCatA X.K) := fun x y H Q Q' q ⟨a, b, xs, ys, h1, h2, h3, h4, h5, h6, h7, h8⟩ =>
  ⟨a, b, xs, ys, h1, h2, h3, h4, h5, fun z => q _ _ (h6 z), fun z z' => q _ _ (h7 z z'), fun z z' p hp => q _ _ (h8 z z' p hp)⟩
theorem RpL.nil_of {K : PySem.W.Frag} {F : Hp} {vs : List V} {ds : List D} (r : RpL K F vs ds) (h : vs = []) : ds = [] := by
  subst h; cases r; rfl
theorem ae_addT (h : AE X N a R O fun d1 O1 => AE X N b R O1 fun d2 O2 => ∃ xs ys, d1 = .tup xs ∧ d2 = .tup ys ∧ xs.length + ys.length ≤ 100000 ∧ Q (.tup (xs ++ ys)) O2) : AE X N (.BinOp a .Add b pos) R O Q :=
  ae_op op_catA mon_catA (h.imp fun d1 O1 h => h.imp fun d2 O2 ⟨xs, ys, e1, e2, hl, q⟩ => by
    subst e1; subst e2
    intro v1 v2 σ H F r p1 p2
    cases p1 with
    | tup h1 l1 =>
      cases p2 with
      | tup h2 l2 =>
        refine ⟨_, _, _, _, rfl, rfl, same_t r.o.ex h1, same_t r.o.ex h2, by rw [l1.len, l2.len]; exact le_line hl, fun z => ?_, fun z z' => ?_, fun z z' p hp => ?_⟩
        · have z1 := l1.nil_of z
          subst z1
          exact QV.same r (.tup h2 l2) q
        · have z1 := l2.nil_of z'
          subst z1
          rw [List.append_nil] at q
          exact QV.same r (.tup h1 l1) q
        · exact QV.frz r hp (.tup (SqT.of upd_same) ((l1.app l2).mono (same_new (r.o.fr hp) _))) q)
theorem ae_addL (h : AE X N a R O fun d1 O1 => AE X N b R O1 fun d2 O2 => ∃ xs ys, d1 = .lst xs ∧ d2 = .lst ys ∧ xs.length + ys.length ≤ 100000 ∧ Q (.lst (xs ++ ys)) O2) : AE X N (.BinOp a .Add b pos) R O Q :=
  ae_op op_cat (fun x y H Q Q' q ⟨l, b, xs, zs, h1, h2, h3, h4, h5, h6⟩ => ⟨l, b, xs, zs, h1, h2, h3, h4, h5, fun p hp => q _ _ (h6 p hp)⟩) (h.imp fun d1 O1 h => h.imp fun d2 O2 ⟨xs, ys, e1, e2, hl, q⟩ => by
    subst e1; subst e2
    intro v1 v2 σ H F r p1 p2
    cases p1 with
    | lst h1 l1 =>
      cases p2 with
      | lst h2 l2 =>
        exact ⟨_, _, _, _, rfl, rfl, r.o.ex _ _ h1, r.o.ex _ _ h2, by rw [l1.len, l2.len]; exact le_line hl, fun p hp => QV.frz r hp (.lst upd_same ((l1.app l2).mono (same_new (r.o.fr hp) _))) q⟩)
theorem ae_addS (h : AE X N a R O fun d1 O1 => AE X N b R O1 fun d2 O2 => ∃ s t : Str, d1 = .str s ∧ d2 = .str t ∧ s.length + t.length ≤ 100000 ∧ Q (.str (s ++ t)) O2) : AE X N (.BinOp a .Add b pos) R O Q :=
  ae_op op_add_str (fun x y H Q Q' q ⟨i, j, h1, h2, h3, h⟩ => ⟨i, j, h1, h2, h3, q _ _ h⟩) (h.imp fun d1 O1 h => h.imp fun d2 O2 ⟨s, t, e1, e2, hl, q⟩ => by
    subst e1; subst e2
    intro v1 v2 σ H F r p1 p2
    cases p1
    cases p2
    exact ⟨s, t, rfl, rfl, le_line hl, QV.same r (.str _) q⟩)
/-- [x] * n -/
theorem ae_rep (h : AE X N a R O fun d1 O1 => AE X N b R O1 fun d2 O2 => ∃ x i, d1 = .lst [x] ∧ d2 = .int i ∧ (-1000 ≤ i ∧ i ≤ 1000) ∧ Q (.lst (List.replicate i.toNat x)) O2) : AE X N (.BinOp a .Mult b pos) R O Q :=
  ae_op op_rep (fun x y H Q Q' q ⟨l, k, xs, h1, h2, h3, h4, h5, h6, h7⟩ => ⟨l, k, xs, h1, h2, h3, h4, h5, h6, fun p hp => q _ _ (h7 p hp)⟩) (h.imp fun d1 O1 h => h.imp fun d2 O2 ⟨x, i, e1, e2, ⟨hl, hl'⟩, q⟩ => by
    subst e1; subst e2
    intro v1 v2 σ H F r p1 p2
    cases p2
    cases p1 with
    | @lst _ xs _ h1 l1 =>
      cases l1 with
      | @cons v _ vs _ hv l1 =>
        cases l1
        refine ⟨_, i, _, rfl, rfl, r.o.ex _ _ h1, by omega, by omega, le_line (by show 1 * i.toNat ≤ _; omega), fun p hp => ?_⟩
        have e : (List.replicate i.toNat [v]).flatten = List.replicate i.toNat v := by
          have : ∀ n : Nat, (List.replicate n [v]).flatten = List.replicate n v := fun n => by
            induction n with
            | zero => rfl
            | succ n ih => rw [List.replicate_succ, List.flatten_cons, ih, List.replicate_succ] <;> rfl
          exact this _
        rw [e]
        exact QV.frz r hp (.lst upd_same ((RpL.rep hv _).mono (same_new (r.o.fr hp) _))) q)

/-! ### membership among texts -/
def strsD : List D → Option (List Str)
  | [] => some []
  | .str s :: r => (strsD r).map (s :: ·)
  | _ => none
theorem strs_vs {K : PySem.W.Frag} {F : Hp} : ∀ {vs : List V} {ds : List D} {l : List Str}, RpL K F vs ds → strsD ds = some l → vs = l.map V.str
  | _, [], _, .nil, h => by cases h; rfl
  | _, .str s :: ds, _, .cons h1 h2, h => by
    simp only [strsD, Option.map_eq_some_iff] at h
    obtain ⟨l, hl, e⟩ := h
    subst e
    cases h1
    rw [strs_vs h2 hl] <;> rfl
theorem inV_strs (s : Str) : ∀ l : List Str, inV (.str s) (l.map V.str) = decide (s ∈ l)
  | [] => rfl
  | t :: l => by
    have ih := inV_strs s l
    unfold inV at ih ⊢
    rw [List.map_cons, List.any_cons, ih]
    have e : eqV (V.str t) (V.str s) = decide (t = s) := by
      show (t == s) = _
      exact Bool.beq_eq_decide_eq _ _
    rw [e]
    by_cases h : t = s
    · subst h; simp
    · have h' : ¬ s = t := fun z => h z.symm
      simp [h, h']
theorem flat_strs : ∀ l : List Str, (l.map V.str).all flatV = true
  | [] => rfl
  | t :: l => by rw [List.map_cons, List.all_cons, flat_strs l] <;> rfl
theorem mon_in {neg : Bool} : Mon (rIn X.K neg) := fun x y H Q Q' q ⟨p, xs, h1, h2, h3, h4, h⟩ => ⟨p, xs, h1, h2, h3, h4, q _ _ h⟩
def inD (d1 d2 : D) (P : Str → List Str → Prop) : Prop := ∃ s ds l, d1 = .str s ∧ (d2 = .tup ds ∨ d2 = .lst ds) ∧ strsD ds = some l ∧ P s l
theorem ra_in {neg : Bool} (h : inD d1 d2 fun s l => Q (.bl (if neg then !decide (s ∈ l) else decide (s ∈ l))) O) : RA X N (rIn X.K neg) d1 d2 R O Q := fun v1 v2 σ H F r p1 p2 => by
  obtain ⟨s, ds, l, e1, e2, hs, q⟩ := h
  subst e1
  cases p1
  have q' : ∀ {vs : List V}, RpL X.K F vs ds → QV X N R σ F Q (V.bl (if neg then !inV (.str s) vs else inV (.str s) vs)) H ∧ vs.all flatV = true := fun {vs} l1 => by
    rw [strs_vs l1 hs, inV_strs]
    exact ⟨QV.same r (.bl _) q, flat_strs l⟩
  rcases e2 with e2 | e2
  · subst e2
    cases p2 with
    | tup h1 l1 => exact ⟨_, _, rfl, .inr (same_t r.o.ex h1), rfl, (q' l1).2, (q' l1).1⟩
  · subst e2
    cases p2 with
    | lst h1 l1 => exact ⟨_, _, rfl, .inl (SqL.of (r.o.ex _ _ h1)), rfl, (q' l1).2, (q' l1).1⟩
theorem at_in {Q : Bool → Os → Prop} (h : AE X N a R O fun d1 O1 => AE X N b R O1 fun d2 O2 => inD d1 d2 fun s l => Q (decide (s ∈ l)) O2) (hm : behindInMarks .In b = false := by rfl) : AT X N (.Compare a [.In] [b] pos) R O Q :=
  at_cmp op_in_seq mon_in hm (h.imp fun d1 O1 h => h.imp fun d2 O2 ⟨s, ds, l, h1, h2, h3, q⟩ => ra_in (neg := false) ⟨s, ds, l, h1, h2, h3, _, rfl, q⟩)
theorem at_ni {Q : Bool → Os → Prop} (h : AE X N a R O fun d1 O1 => AE X N b R O1 fun d2 O2 => inD d1 d2 fun s l => Q (!decide (s ∈ l)) O2) (hm : behindInMarks .NotIn b = false := by rfl) : AT X N (.Compare a [.NotIn] [b] pos) R O Q :=
  at_cmp op_notIn_seq mon_in hm (h.imp fun d1 O1 h => h.imp fun d2 O2 ⟨s, ds, l, h1, h2, h3, q⟩ => ra_in (neg := true) ⟨s, ds, l, h1, h2, h3, _, rfl, q⟩)
theorem ae_in (h : AE X N a R O fun d1 O1 => AE X N b R O1 fun d2 O2 => inD d1 d2 fun s l => Q (.bl (decide (s ∈ l))) O2) (hm : behindInMarks .In b = false := by rfl) : AE X N (.Compare a [.In] [b] pos) R O Q :=
  ae_cmp op_in_seq mon_in hm (h.imp fun d1 O1 h => h.imp fun d2 O2 ⟨s, ds, l, h1, h2, h3, q⟩ => ra_in (neg := false) ⟨s, ds, l, h1, h2, h3, q⟩)
theorem ae_ni (h : AE X N a R O fun d1 O1 => AE X N b R O1 fun d2 O2 => inD d1 d2 fun s l => Q (.bl (!decide (s ∈ l))) O2) (hm : behindInMarks .NotIn b = false := by rfl) : AE X N (.Compare a [.NotIn] [b] pos) R O Q :=
  ae_cmp op_notIn_seq mon_in hm (h.imp fun d1 O1 h => h.imp fun d2 O2 ⟨s, ds, l, h1, h2, h3, q⟩ => ra_in (neg := true) ⟨s, ds, l, h1, h2, h3, q⟩)
end
end K12
/-! A5: subscripts, slices, dicts, fields, built-ins. -/
namespace K12
open PySem PySem.Spec PyProof.Rows L2

def keyD : Key → D
  | .inl i => .int i
  | .inr s => .str s
theorem keyD_v {K : PySem.W.Frag} {F : Hp} {k : Key} {v : V} (r : Rp K F v (keyD k)) : v = kV k := by
  cases k with
  | inl i => cases r; rfl
  | inr s => cases r; rfl
theorem keyDs_v {K : PySem.W.Frag} {F : Hp} : ∀ {ks : List Key} {vs : List V}, RpL K F vs (ks.map keyD) → vs = ks.map kV
  | [], _, .nil => rfl
  | k :: ks, _, .cons h r => by rw [keyD_v h, keyDs_v r] <;> rfl

section
variable {X : Cx} {N : Ent} {R : Rho} {O O1 O' : Os} {Q : D → Os → Prop} {e a b o i : Expr} {es : List Expr} {pos p p2 apos cpos : Pos} {x : Str} {d d1 d2 : D}

/-! ### a subscript by a number -/
theorem RpL.at {K : PySem.W.Frag} {F : Hp} {vs : List V} {ds : List D} {z : Int} (r : RpL K F vs ds) (h : atI ds z = some d) : ∃ v, atI vs z = some v ∧ Rp K F v d := by
  unfold atI at h ⊢
  rw [r.len]
  cases e : ixN ds.length z with
  | none => rw [e] at h; cases h
  | some j =>
    rw [e] at h
    exact r.get h
/-- xs[z], xs a tuple, a list (that is never written, or one of the objects) -/
def ixD (O : Os) (d1 d2 : D) (P : D → Prop) : Prop := ∃ ds z d, (d1 = .tup ds ∨ d1 = .lst ds ∨ d1 = .arg ds ∨ ∃ a, d1 = .ref a ∧ (a, MO.lst ds) ∈ O) ∧ d2 = .int z ∧ atI ds z = some d ∧ P d
theorem mon_or {r r' : R2} (h : Mon r) (h' : Mon r') : Mon (fun x y H Q => r x y H Q ∨ r' x y H Q) := fun x y H Q Q' q h0 => h0.elim (fun z => .inl (h x y H Q Q' q z)) fun z => .inr (h' x y H Q Q' q z)
theorem mon_ixL : Mon (rIxL X.K) := fun x y H Q Q' q ⟨p, xs, i, v, h1, h2, h3, h4, h⟩ => ⟨p, xs, i, v, h1, h2, h3, h4, q _ _ h⟩
theorem mon_ixT : Mon (rIxT X.K) := fun x y H Q Q' q ⟨p, xs, i, v, h1, h2, h3, h4, h⟩ => ⟨p, xs, i, v, h1, h2, h3, h4, q _ _ h⟩
theorem ae_ixD (h : AE X N a R O fun d1 O1 => AE X N b R O1 fun d2 O2 => ixD O2 d1 d2 fun d => Q d O2) (hs : PlainIx b := by intro _ _; rfl) : AE X N (.Subscript a b pos) R O Q :=
  ae_ix (IxR.or ix_list ix_tup) (mon_or mon_ixL mon_ixT) hs (h.imp fun d1 O1 h => h.imp fun d2 O2 ⟨ds, z, d, e1, e2, e3, q⟩ => by
    subst e2
    intro v1 v2 σ H F r p1 p2
    cases p2
    rcases e1 with e1 | e1 | e1 | ⟨l, e1, hm⟩
    · subst e1
      cases p1 with
      | tup h1 l1 =>
        obtain ⟨v, hv, rv⟩ := l1.at e3
        exact .inr ⟨_, _, z, v, rfl, rfl, same_t r.o.ex h1, hv, QV.same r rv q⟩
    · subst e1
      cases p1 with
      | lst h1 l1 =>
        obtain ⟨v, hv, rv⟩ := l1.at e3
        exact .inl ⟨_, _, z, v, rfl, rfl, SqL.of (r.o.ex _ _ h1), hv, QV.same r rv q⟩
    · subst e1
      cases p1 with
      | arg h1 l1 =>
        obtain ⟨v, hv, rv⟩ := l1.at e3
        exact .inl ⟨_, _, z, v, rfl, rfl, r.o.ex.seq h1, hv, QV.same r rv q⟩
    · subst e1
      cases p1
      obtain ⟨xs, hx, l1⟩ := (r.o.ob _ hm).2
      obtain ⟨v, hv, rv⟩ := l1.at e3
      exact .inl ⟨_, _, z, v, rfl, rfl, SqL.of hx, hv, QV.same r rv q⟩)
/-- text[z] -/
theorem ae_ixS (h : AE X N a R O fun d1 O1 => AE X N b R O1 fun d2 O2 => ∃ (s : Str) (z : Int) (c : Nat), d1 = .str s ∧ d2 = .int z ∧ s.length ≤ 100000 ∧ atI s.cps.toList z = some c ∧ Q (.str ⟨#[c]⟩) O2) (hs : PlainIx b := by intro _ _; rfl) : AE X N (.Subscript a b pos) R O Q :=
  ae_ix ix_str (fun x y H Q Q' q ⟨z, i, c, h1, h2, h3, h4, h⟩ => ⟨z, i, c, h1, h2, h3, h4, q _ _ h⟩) hs (h.imp fun d1 O1 h => h.imp fun d2 O2 ⟨s, z, c, e1, e2, hl, hc, q⟩ => by
    subst e1; subst e2
    intro v1 v2 σ H F r p1 p2
    cases p1
    cases p2
    exact ⟨s, z, c, rfl, rfl, le_line hl, hc, QV.same r (.str _) q⟩)

/-! ### slices -/
def cutG {α : Type} (xs : List α) (lo hi : Option Int) : List α := (xs.drop (HT.sIx xs.length 0 lo)).take (HT.sIx xs.length xs.length hi - HT.sIx xs.length 0 lo)
theorem RpL.cut {K : PySem.W.Frag} {F : Hp} {vs : List V} {ds : List D} (lo hi : Option Int) (r : RpL K F vs ds) : RpL K F (cutV vs lo hi) (cutG ds lo hi) := by
  unfold cutV cutG
  rw [r.len]
  exact (r.drop _).take _
def AO (X : Cx) (N : Ent) (e : Option Expr) (R : Rho) (O : Os) (Q : Option Int → Os → Prop) : Prop := match e with
  | none => Q none O
  | some e => AE X N e R O fun d O1 => ∃ z, d = .int z ∧ Q (some z) O1
theorem po_ao {lo : Option Expr} {Q : Option Int → Os → Prop} (h : AO X N lo R O Q) : ∃ t, PO X lo t ∧ ∀ σ H F, RepS X N R O σ H F → t σ H fun z H' => ∃ O' F', Same F F' ∧ RepS X N R O' σ H' F' ∧ Q z O' := by
  cases lo with
  | none => exact ⟨tNoPart, po_none, fun σ H F r => ⟨O, F, Same.refl _, r, h⟩⟩
  | some e =>
    refine ⟨_, po_some peM, fun σ H F r => (h σ H F r).imp fun v H' ⟨d, O', F', s, r', p', z, ed, q⟩ => ?_⟩
    subst ed
    cases p'
    exact ⟨z, rfl, O', F', s, r', q⟩
def slD (d : D) (z z' : Option Int) (P : D → Prop) : Prop := (∃ ds, d = .tup ds ∧ P (.tup (cutG ds z z'))) ∨ ∃ ds, (d = .lst ds ∨ d = .arg ds) ∧ P (.lst (cutG ds z z'))
theorem cut_whole {xs : List D} {lo hi : Option Int} (h1 : HT.sIx xs.length 0 lo = 0) (h2 : HT.sIx xs.length xs.length hi = xs.length) : cutG xs lo hi = xs := by
  unfold cutG
  rw [h1, h2, List.drop_zero, Nat.sub_zero, List.take_length]
theorem ae_sl {lo hi : Option Expr} (h : AE X N a R O fun d O1 => AO X N lo R O1 fun z O2 => AO X N hi R O2 fun z' O3 => slD d z z' fun d' => Q d' O3) : AE X N (.Subscript a (.Slice lo hi none p2) pos) R O Q := by
  -- the parts' readings, chosen where they are run
  have hp : ∀ {e : Option Expr}, ∃ t : TO, PO X e t ∧ ∀ {O : Os} {Q : Option Int → Os → Prop} {σ : L2.St} {H F : Hp} {k : Option Int → Hp → Prop}, AO X N e R O Q → RepS X N R O σ H F → (∀ z H', (∃ O' F', Same F F' ∧ RepS X N R O' σ H' F' ∧ Q z O') → k z H') → t σ H k := by
    intro e
    cases e with
    | none => exact ⟨tNoPart, po_none, fun {O Q σ H F k} h r q => q _ _ ⟨O, F, Same.refl _, r, h⟩⟩
    | some e =>
      refine ⟨_, po_some peM, fun {O Q σ H F k} h r q => (h σ H F r).imp fun v H' ⟨d, O', F', s, r', p', z, ed, q'⟩ => ?_⟩
      subst ed
      cases p'
      exact ⟨z, rfl, q _ _ ⟨O', F', s, r', q'⟩⟩
  obtain ⟨tl, hl, kl⟩ := hp (e := lo)
  obtain ⟨th, hh, kh⟩ := hp (e := hi)
  intro σ H F r
  refine tM.of (pe_slice (SlR.or sl_tupA sl_list) peM hl hh) ((h σ H F r).imp fun v H1 ⟨d, O1, F1, s1, r1, p1, q1⟩ => ?_)
  refine kl q1 r1 fun z H2 ⟨O2, F2, s2, r2, q2⟩ => ?_
  refine kh q2 r2 fun z' H3 ⟨O3, F3, s3, r3, q3⟩ => ?_
  have p3 := p1.mono (s2.trans s3)
  rcases q3 with ⟨ds, ed, q⟩ | ⟨ds, ed, q⟩
  · subst ed
    cases p3 with
    | @tup a xs ds h1 l1 =>
      refine .inl ⟨_, _, rfl, same_t r3.o.ex h1, fun ⟨z1, z2⟩ => ?_, fun nz p hp => ?_⟩
      · have l := l1.len
        rw [l] at z1 z2
        rw [cut_whole z1 z2] at q
        exact QV.more ((s1.trans s2).trans s3) (QV.same r3 (.tup h1 l1) q)
      · exact QV.more ((s1.trans s2).trans s3) (QV.frz r3 hp (.tup (SqT.of upd_same) ((l1.cut _ _).mono (same_new (r3.o.fr hp) _))) q)
  · have q' : ∀ {a : Addr} {xs : List V}, SqL X.K H3 a xs → RpL X.K F3 xs ds → rSlL X.K (.ref a) z z' H3 (QV X N R σ F Q) := fun {a xs} h1 l1 =>
      ⟨_, _, rfl, h1, fun p hp => QV.more ((s1.trans s2).trans s3) (QV.frz r3 hp (.lst upd_same ((l1.cut _ _).mono (same_new (r3.o.fr hp) _))) q)⟩
    rcases ed with ed | ed
    · subst ed
      cases p3 with
      | lst h1 l1 => exact .inr (q' (SqL.of (r3.o.ex _ _ h1)) l1)
    · subst ed
      cases p3 with
      | arg h1 l1 => exact .inr (q' (r3.o.ex.seq h1) l1)

/-! ### built-ins -/
theorem ae_callB {id : String} {r : List V → Hp → VK → Prop} (hc : CallR X (.builtin id) r) (hg : Gl X x) (hm : X.mg x = none) (hv : bootBuiltins x = some (.builtin id)) (h : AA X N (e :: es) R O fun ds O1 => ∀ vs σ H F, RepS X N R O1 σ H F → RpL X.K F vs ds → r vs H (QV X N R σ F Q))
    (rm : ∀ xs H Q Q', (∀ v H', Q v H' → Q' v H') → r xs H Q → r xs H Q') (hn : x ≠ "__name__" := by decide) (hdb : (x == ("__debug__" : Str)) = false := by decide)
    (he : starEach (e :: es) X.env = (false, eval e X.env) :: starEach es X.env := by rfl) (hpl : (backTo pos (starEach es X.env)).any (·.1) = false := by rfl) : AE X N (.Call (.Name x p) (e :: es) [] pos) R O Q := fun σ H F r0 =>
  tM.of (pe_callB hc hg hm hv paM hn hdb he hpl) ((h σ H F r0).imp fun vs H1 ⟨ds, O1, F1, s1, r1, p1, q1⟩ => rm _ _ _ _ (fun _ _ q => QV.more s1 q) (q1 vs σ H1 F1 r1 p1))
theorem ae_callT {T : String} {r : List V → Hp → VK → Prop} (hc : CallR X (.type T) r) (hg : Gl X x) (hm : X.mg x = none) (hv : bootBuiltins x = some (.type T)) (h : AA X N (e :: es) R O fun ds O1 => ∀ vs σ H F, RepS X N R O1 σ H F → RpL X.K F vs ds → r vs H (QV X N R σ F Q))
    (rm : ∀ xs H Q Q', (∀ v H', Q v H' → Q' v H') → r xs H Q → r xs H Q') (hn : x ≠ "__name__" := by decide) (hdb : (x == ("__debug__" : Str)) = false := by decide)
    (he : starEach (e :: es) X.env = (false, eval e X.env) :: starEach es X.env := by rfl) (hpl : (backTo pos (starEach es X.env)).any (·.1) = false := by rfl) : AE X N (.Call (.Name x p) (e :: es) [] pos) R O Q := fun σ H F r0 =>
  tM.of (pe_callTy hc hg hm hv paM hn hdb he hpl) ((h σ H F r0).imp fun vs H1 ⟨ds, O1, F1, s1, r1, p1, q1⟩ => rm _ _ _ _ (fun _ _ q => QV.more s1 q) (q1 vs σ H1 F1 r1 p1))
def lenD (O : Os) (d : D) (n : Nat) : Prop := (∃ ds, (d = .tup ds ∨ d = .lst ds ∨ d = .arg ds ∨ ∃ a, d = .ref a ∧ (a, MO.lst ds) ∈ O) ∧ n = ds.length) ∨ ∃ s : Str, d = .str s ∧ s.length ≤ 100000 ∧ n = s.length
theorem ae_len (hm : X.mg "len" = none) (h : AE X N a R O fun d O1 => ∃ n : Nat, lenD O1 d n ∧ Q (.int n) O1) (hg : Gl X "len" := by rfl)
    (he : starEach (a :: []) X.env = (false, eval a X.env) :: starEach [] X.env := by rfl) (hpl : (backTo pos (starEach [] X.env)).any (·.1) = false := by rfl) : AE X N (.Call (.Name "len" p) [a] [] pos) R O Q :=
  ae_callB call_len hg hm PySem.boot_len (aa_cons (h.imp fun d O1 ⟨n, hn, q⟩ => aa_nil fun vs σ H F r pl => by
    cases pl with
    | @cons v _ _ _ pv pn =>
      cases pn
      refine ⟨v, n, rfl, ?_, QV.same r (.int _) q⟩
      rcases hn with ⟨ds, hd, en⟩ | ⟨s, hd, hl, en⟩
      · subst en
        rcases hd with hd | hd | hd | ⟨a, hd, hm⟩
        · subst hd
          cases pv with
          | tup h1 l1 => exact .inr ⟨_, same_t r.o.ex h1, l1.len.symm⟩
        · subst hd
          cases pv with
          | lst h1 l1 => exact .inl ⟨_, SqL.of (r.o.ex _ _ h1), l1.len.symm⟩
        · subst hd
          cases pv with
          | arg h1 l1 => exact .inl ⟨_, r.o.ex.seq h1, l1.len.symm⟩
        · subst hd
          cases pv
          obtain ⟨xs, hx, l1⟩ := (r.o.ob _ hm).2
          exact .inl ⟨_, SqL.of hx, l1.len.symm⟩
      · subst hd
        cases pv
        exact ⟨le_line hl, en⟩) he) (fun xs H Q Q' q ⟨x, n, h1, h2, h⟩ => ⟨x, n, h1, h2, q _ _ h⟩) (by decide) (by decide) he hpl
theorem ae_intB (hm : X.mg "int" = none) (h : AE X N a R O fun d O1 => ∃ c, d = .bl c ∧ Q (.int (if c then 1 else 0)) O1) (hg : Gl X "int" := by rfl)
    (he : starEach (a :: []) X.env = (false, eval a X.env) :: starEach [] X.env := by rfl) (hpl : (backTo pos (starEach [] X.env)).any (·.1) = false := by rfl) : AE X N (.Call (.Name "int" p) [a] [] pos) R O Q :=
  ae_callT call_int1 hg hm (by decide +kernel) (aa_cons (h.imp fun d O1 ⟨c, ed, q⟩ => aa_nil fun vs σ H F r pl => by
    subst ed
    cases pl with
    | cons pv pn =>
      cases pn
      cases pv
      exact .inr ⟨c, rfl, QV.same r (.int _) q⟩) he) (fun xs H Q Q' q h => h.elim (fun ⟨i, h1, h⟩ => .inl ⟨i, h1, q _ _ h⟩) fun ⟨i, h1, h⟩ => .inr ⟨i, h1, q _ _ h⟩) (by decide) (by decide) he hpl
/-- tuple(xs) -/
theorem ae_tupOf (hm : X.mg "tuple" = none) (h : AE X N a R O fun d O1 => ∃ ds, (d = .lst ds ∨ d = .tup ds) ∧ Q (.tup ds) O1) (hg : Gl X "tuple" := by rfl)
    (he : starEach (a :: []) X.env = (false, eval a X.env) :: starEach [] X.env := by rfl) (hpl : (backTo pos (starEach [] X.env)).any (·.1) = false := by rfl) : AE X N (.Call (.Name "tuple" p) [a] [] pos) R O Q :=
  ae_callT call_tuple_of hg hm (by decide +kernel) (aa_cons (h.imp fun d O1 ⟨ds, ed, q⟩ => aa_nil fun vs σ H F r pl => by
    cases pl with
    | cons pv pn =>
      cases pn
      rcases ed with ed | ed
      · subst ed
        cases pv with
        | lst h1 l1 => exact ⟨_, _, rfl, .inl ⟨SqL.of (r.o.ex _ _ h1), fun l hl => QV.frz r hl (.tup (SqT.of upd_same) (l1.mono (same_new (r.o.fr hl) _))) q⟩⟩
      · subst ed
        cases pv with
        | tup h1 l1 => exact ⟨_, _, rfl, .inr ⟨same_t r.o.ex h1, QV.same r (.tup h1 l1) q⟩⟩) he)
    (fun xs H Q Q' q ⟨p, ys, h1, h⟩ => ⟨p, ys, h1, h.elim (fun ⟨h2, h⟩ => .inl ⟨h2, fun l hl => q _ _ (h l hl)⟩) fun ⟨h2, h⟩ => .inr ⟨h2, q _ _ h⟩⟩) (by decide) (by decide) he hpl
/-- list(xs), never written -/
theorem ae_lstOf (hm : X.mg "list" = none) (h : AE X N a R O fun d O1 => ∃ ds, (d = .lst ds ∨ d = .tup ds) ∧ Q (.lst ds) O1) (hg : Gl X "list" := by rfl)
    (he : starEach (a :: []) X.env = (false, eval a X.env) :: starEach [] X.env := by rfl) (hpl : (backTo pos (starEach [] X.env)).any (·.1) = false := by rfl) : AE X N (.Call (.Name "list" p) [a] [] pos) R O Q :=
  ae_callT call_list_of hg hm (by decide +kernel) (aa_cons (h.imp fun d O1 ⟨ds, ed, q⟩ => aa_nil fun vs σ H F r pl => by
    cases pl with
    | cons pv pn =>
      cases pn
      rcases ed with ed | ed
      · subst ed
        cases pv with
        | lst h1 l1 => exact ⟨_, _, rfl, .inl (SqL.of (r.o.ex _ _ h1)), fun l hl => QV.frz r hl (.lst upd_same (l1.mono (same_new (r.o.fr hl) _))) q⟩
      · subst ed
        cases pv with
        | tup h1 l1 => exact ⟨_, _, rfl, .inr (same_t r.o.ex h1), fun l hl => QV.frz r hl (.lst upd_same (l1.mono (same_new (r.o.fr hl) _))) q⟩) he)
    (fun xs H Q Q' q ⟨p, ys, h1, h2, h⟩ => ⟨p, ys, h1, h2, fun l hl => q _ _ (h l hl)⟩) (by decide) (by decide) he hpl
/-- list(xs), to be written -/
theorem ae_lstOfm (hm : X.mg "list" = none) (h : AE X N a R O fun d O1 => ∃ ds, (d = .lst ds ∨ d = .tup ds) ∧ ∀ p, Q (.ref p) ((p, .lst ds) :: O1)) (hg : Gl X "list" := by rfl)
    (he : starEach (a :: []) X.env = (false, eval a X.env) :: starEach [] X.env := by rfl) (hpl : (backTo pos (starEach [] X.env)).any (·.1) = false := by rfl) : AE X N (.Call (.Name "list" p) [a] [] pos) R O Q :=
  ae_callT call_list_of hg hm (by decide +kernel) (aa_cons (h.imp fun d O1 ⟨ds, ed, q⟩ => aa_nil fun vs σ H F r pl => by
    cases pl with
    | cons pv pn =>
      cases pn
      rcases ed with ed | ed
      · subst ed
        cases pv with
        | lst h1 l1 => exact ⟨_, _, rfl, .inl (SqL.of (r.o.ex _ _ h1)), fun l hl => QV.mut (m := .lst ds) r hl ⟨_, upd_same, l1⟩ (q l)⟩
      · subst ed
        cases pv with
        | tup h1 l1 => exact ⟨_, _, rfl, .inr (same_t r.o.ex h1), fun l hl => QV.mut (m := .lst ds) r hl ⟨_, upd_same, l1⟩ (q l)⟩) he)
    (fun xs H Q Q' q ⟨p, ys, h1, h2, h⟩ => ⟨p, ys, h1, h2, fun l hl => q _ _ (h l hl)⟩) (by decide) (by decide) he hpl
/-- dict(d), a copy: to be written, or never -/
def dicD (O : Os) (d : D) (kvs : List (Key × D)) : Prop := d = .dic kvs ∨ ∃ a, d = .ref a ∧ (a, MO.dic kvs) ∈ O
theorem ae_dicOf (hm : X.mg "dict" = none) (h : AE X N a R O fun d O1 => ∃ kvs, dicD O1 d kvs ∧ ((∀ p, Q (.ref p) ((p, .dic kvs) :: O1)) ∨ Q (.dic kvs) O1)) (hg : Gl X "dict" := by rfl)
    (he : starEach (a :: []) X.env = (false, eval a X.env) :: starEach [] X.env := by rfl) (hpl : (backTo pos (starEach [] X.env)).any (·.1) = false := by rfl) : AE X N (.Call (.Name "dict" p) [a] [] pos) R O Q :=
  ae_callT call_dictD hg hm (by decide +kernel) (aa_cons (h.imp fun d O1 ⟨kvs, ed, q⟩ => aa_nil fun vs σ H F r pl => by
    cases pl with
    | cons pv pn =>
      cases pn
      have fin : ∀ {a : Addr} {ws : List (Key × V)}, H a = some (.dK ws) → RpA X.K F ws kvs → ∃ (a' : Addr) (ws' : List (Key × V)), [V.ref a] = [V.ref a'] ∧ Rd H a' (.dK ws') ∧ ∀ p, H p = none → QV X N R σ F Q (.ref p) (L2.upd H p (.dK ws')) := fun {a ws} h1 l1 =>
        ⟨a, ws, rfl, .inl h1, fun p hp => by
          rcases q with q | q
          · exact QV.mut (m := .dic kvs) r hp ⟨_, upd_same, l1⟩ (q p)
          · exact QV.frz r hp (.dic upd_same (l1.mono (same_new (r.o.fr hp) _))) q⟩
      rcases ed with ed | ⟨a, ed, hm⟩
      · subst ed
        cases pv with
        | dic h1 l1 => exact fin (r.o.ex _ _ h1) l1
      · subst ed
        cases pv
        obtain ⟨xs, hx, l1⟩ := (r.o.ob _ hm).2
        exact fin hx l1) he)
    (fun xs H Q Q' q ⟨a, kvs, h1, h2, h⟩ => ⟨a, kvs, h1, h2, fun l hl => q _ _ (h l hl)⟩) (by decide) (by decide) he hpl
theorem ae_max (hc : X.calm = true) (hm : X.mg "max" = none) (h : AA X N [a, b] R O fun ds O1 => ∃ i j, ds = [.int i, .int j] ∧ Q (.int (if j > i then j else i)) O1) (hg : Gl X "max" := by rfl)
    (he : starEach (a :: [b]) X.env = (false, eval a X.env) :: starEach [b] X.env := by rfl) (hpl : (backTo pos (starEach [b] X.env)).any (·.1) = false := by rfl) : AE X N (.Call (.Name "max" p) [a, b] [] pos) R O Q :=
  ae_callB (id := "max") (call_max2 hc) hg hm (by decide +kernel) (fun σ H F r0 => (h σ H F r0).imp fun vs H1 ⟨ds, O1, F1, s1, r1, p1, i, j, ed, q⟩ => ⟨ds, O1, F1, s1, r1, p1, fun vs σ H F r pl => by
    subst ed
    cases pl with
    | cons pv pn =>
      cases pn with
      | cons pw pn =>
        cases pn
        cases pv
        cases pw
        exact ⟨i, j, rfl, QV.same r (.int _) q⟩⟩) (fun xs H Q Q' q ⟨i, j, h1, h⟩ => ⟨i, j, h1, q _ _ h⟩) (by decide) (by decide) he hpl
theorem ae_min (hc : X.calm = true) (hm : X.mg "min" = none) (h : AA X N [a, b] R O fun ds O1 => ∃ i j, ds = [.int i, .int j] ∧ Q (.int (if j < i then j else i)) O1) (hg : Gl X "min" := by rfl)
    (he : starEach (a :: [b]) X.env = (false, eval a X.env) :: starEach [b] X.env := by rfl) (hpl : (backTo pos (starEach [b] X.env)).any (·.1) = false := by rfl) : AE X N (.Call (.Name "min" p) [a, b] [] pos) R O Q :=
  ae_callB (id := "min") (call_min2 hc) hg hm (by decide +kernel) (fun σ H F r0 => (h σ H F r0).imp fun vs H1 ⟨ds, O1, F1, s1, r1, p1, i, j, ed, q⟩ => ⟨ds, O1, F1, s1, r1, p1, fun vs σ H F r pl => by
    subst ed
    cases pl with
    | cons pv pn =>
      cases pn with
      | cons pw pn =>
        cases pn
        cases pv
        cases pw
        exact ⟨i, j, rfl, QV.same r (.int _) q⟩⟩) (fun xs H Q Q' q ⟨i, j, h1, h⟩ => ⟨i, j, h1, q _ _ h⟩) (by decide) (by decide) he hpl
end
end K12
/-! A6: dicts, fields, methods of lists. -/
namespace K12
open PySem PySem.Spec PyProof.Rows L2

section
variable {X : Cx} {N : Ent} {R : Rho} {O O1 O' : Os} {Q : D → Os → Prop} {e a b o i : Expr} {es : List Expr} {pos p p2 apos cpos : Pos} {x f : Str} {d d1 d2 : D}

/-! ### d[k], k in d -/
/-- what a dict says of a key: its own data, or one of the objects -/
def dgD (O : Os) (d1 d2 : D) (r : Option D) : Prop :=
  (∃ kvs k, dicD O d1 kvs ∧ d2 = keyD k ∧ r = getA kvs k)
theorem rp_dic {kvs : List (Key × D)} {v : V} {σ : L2.St} {H F : Hp} (r : RepS X N R O σ H F) (h : Rp X.K F v d) (hd : dicD O d kvs) : ∃ a ws, v = .ref a ∧ H a = some (.dK ws) ∧ RpA X.K F ws kvs := by
  rcases hd with e | ⟨a, e, hm⟩
  · subst e
    cases h with
    | dic h1 l1 => exact ⟨_, _, rfl, r.o.ex _ _ h1, l1⟩
  · subst e
    cases h
    obtain ⟨ws, h1, l1⟩ := (r.o.ob _ hm).2
    exact ⟨a, ws, rfl, h1, l1⟩
theorem rp_dget {r0 : Option D} {v1 v2 : V} {σ : L2.St} {H F : Hp} (r : RepS X N R O σ H F) (h1 : Rp X.K F v1 d1) (h2 : Rp X.K F v2 d2) (hd : dgD O d1 d2 r0) :
    ∃ a w, v1 = .ref a ∧ DGet H a v2 w ∧ ((w = none ∧ r0 = none) ∨ ∃ v d, w = some v ∧ r0 = some d ∧ Rp X.K F v d) := by
  obtain ⟨kvs, k, hdd, ek, er⟩ := hd
  subst ek
  obtain ⟨a, ws, e, hH, l⟩ := rp_dic r h1 hdd
  subst e
  have hv := keyD_v h2
  subst hv
  refine ⟨a, _, rfl, DGet.k hH, ?_⟩
  rw [er, getA_val]
  rcases l.get k with ⟨z1, z2⟩ | ⟨v, d, z1, z2, z3⟩
  · exact .inl ⟨z1, z2⟩
  · exact .inr ⟨v, d, z1, z2, z3⟩
theorem ae_dget (hu : X.A.units + 65 < cLine) (h : AE X N a R O fun d1 O1 => AE X N b R O1 fun d2 O2 => ∃ d, dgD O2 d1 d2 (some d) ∧ Q d O2) (hs : NoSl b := by intro _ _; rfl) : AE X N (.Subscript a b pos) R O Q := fun σ H F r0 =>
  tM.of (pe_dget (by omega) peM peM hs) ((h σ H F r0).imp fun v H1 ⟨d1, O1, F1, s1, r1, p1, q1⟩ => (q1 σ H1 F1 r1).imp fun u H2 ⟨d2, O2, F2, s2, r2, p2, d, hd, q⟩ => by
    obtain ⟨a, w, e, g, hw⟩ := rp_dget r2 (p1.mono s2) p2 hd
    rcases hw with ⟨_, z⟩ | ⟨v', d', z1, z2, z3⟩
    · cases z
    · cases z2
      subst z1
      exact ⟨a, v', e, g, QV.more (s1.trans s2) (QV.same r2 z3 q)⟩)
theorem at_din {Q : Bool → Os → Prop} (hu : X.A.units + 65 < cLine) (h : AE X N a R O fun d1 O1 => AE X N b R O1 fun d2 O2 => ∃ o, dgD O2 d2 d1 o ∧ Q o.isSome O2) (hm : behindInMarks .In b = false := by rfl) : AT X N (.Compare a [.In] [b] pos) R O Q := fun σ H F r0 =>
  tMt.of (pt_cmp (pc_din (by omega) peM peM) hm) ((h σ H F r0).imp fun v H1 ⟨d1, O1, F1, s1, r1, p1, q1⟩ => (q1 σ H1 F1 r1).imp fun u H2 ⟨d2, O2, F2, s2, r2, p2, o, hd, q⟩ => by
    obtain ⟨a, w, e, g, hw⟩ := rp_dget r2 p2 (p1.mono s2) hd
    refine ⟨a, w, e, g, w.isSome, rfl, O2, F2, s1.trans s2, r2, ?_⟩
    rcases hw with ⟨z1, z2⟩ | ⟨v', d', z1, z2, z3⟩
    · subst z1; subst z2; exact q
    · subst z1; subst z2; exact q)
theorem at_dni {Q : Bool → Os → Prop} (hu : X.A.units + 65 < cLine) (h : AE X N a R O fun d1 O1 => AE X N b R O1 fun d2 O2 => ∃ o, dgD O2 d2 d1 o ∧ Q (!o.isSome) O2) (hm : behindInMarks .NotIn b = false := by rfl) : AT X N (.Compare a [.NotIn] [b] pos) R O Q := fun σ H F r0 =>
  tMt.of (pt_cmp (pc_dnotin (by omega) peM peM) hm) ((h σ H F r0).imp fun v H1 ⟨d1, O1, F1, s1, r1, p1, q1⟩ => (q1 σ H1 F1 r1).imp fun u H2 ⟨d2, O2, F2, s2, r2, p2, o, hd, q⟩ => by
    obtain ⟨a, w, e, g, hw⟩ := rp_dget r2 p2 (p1.mono s2) hd
    refine ⟨a, w, e, g, !w.isSome, rfl, O2, F2, s1.trans s2, r2, ?_⟩
    rcases hw with ⟨z1, z2⟩ | ⟨v', d', z1, z2, z3⟩
    · subst z1; subst z2; exact q
    · subst z1; subst z2; exact q)
theorem ae_dni (hu : X.A.units + 65 < cLine) (h : AE X N a R O fun d1 O1 => AE X N b R O1 fun d2 O2 => ∃ o, dgD O2 d2 d1 o ∧ Q (.bl (!o.isSome)) O2) (hm : behindInMarks .NotIn b = false := by rfl) : AE X N (.Compare a [.NotIn] [b] pos) R O Q := fun σ H F r0 =>
  tM.of (pe_cmp (pc_dnotin (by omega) peM peM) hm) ((h σ H F r0).imp fun v H1 ⟨d1, O1, F1, s1, r1, p1, q1⟩ => (q1 σ H1 F1 r1).imp fun u H2 ⟨d2, O2, F2, s2, r2, p2, o, hd, q⟩ => by
    obtain ⟨a, w, e, g, hw⟩ := rp_dget r2 p2 (p1.mono s2) hd
    refine ⟨a, w, e, g, QV.more (s1.trans s2) (QV.same r2 (.bl _) ?_)⟩
    rcases hw with ⟨z1, z2⟩ | ⟨v', d', z1, z2, z3⟩
    · subst z1; subst z2; exact q
    · subst z1; subst z2; exact q)
/-- d.get(k, x) -/
theorem ae_dgetOr (hu : X.A.units + 65 < cLine) (h : AE X N o R O fun d1 O1 => (∃ kvs, dicD O1 d1 kvs) ∧ AE X N a R O1 fun d2 O2 => AE X N b R O2 fun d3 O3 => ∃ r, dgD O3 d1 d2 r ∧ Q (r.getD d3) O3)
    (m : M2 X o "get" apos a b cpos := by exact ⟨rfl, rfl, rfl, rfl⟩) : AE X N (.Call (.Attribute o "get" apos) [a, b] [] cpos) R O Q := fun σ H F r0 =>
  tM.of (pe_dget2 (by omega) peM peM peM m) ((h σ H F r0).imp fun v H1 ⟨d1, O1, F1, s1, r1, p1, ⟨kvs, hk⟩, q1⟩ => by
    obtain ⟨aa, ws, e, hH, l⟩ := rp_dic r1 p1 hk
    refine ⟨aa, e, .inl ⟨ws, .inl hH⟩, ?_⟩
    refine (q1 σ H1 F1 r1).imp fun u H2 ⟨d2, O2, F2, s2, r2, p2, q2⟩ => ?_
    refine (q2 σ H2 F2 r2).imp fun w H3 ⟨d3, O3, F3, s3, r3, p3, r', hr, q3⟩ => ?_
    obtain ⟨a', w', e', g, hw⟩ := rp_dget r3 (p1.mono (s2.trans s3)) (p2.mono s3) hr
    rw [e] at e'
    cases e'
    refine ⟨w', g, QV.more ((s1.trans s2).trans s3) ?_⟩
    rcases hw with ⟨z1, z2⟩ | ⟨v', d', z1, z2, z3⟩
    · subst z1; subst z2; exact QV.same r3 p3 q3
    · subst z1; subst z2; exact QV.same r3 z3 q3)

/-! ### keys that are tuples, written as such: d[k, ..] -/
def dctD (O : Os) (d : D) (kvs : List (List Key × D)) : Prop := d = .dct kvs ∨ ∃ a, d = .ref a ∧ (a, MO.dct kvs) ∈ O
theorem rp_dct {kvs : List (List Key × D)} {v : V} {σ : L2.St} {H F : Hp} (r : RepS X N R O σ H F) (h : Rp X.K F v d) (hd : dctD O d kvs) : ∃ a ws, v = .ref a ∧ H a = some (.dT ws) ∧ RpA X.K F ws kvs := by
  rcases hd with e | ⟨a, e, hm⟩
  · subst e
    cases h with
    | dct h1 l1 => exact ⟨_, _, rfl, r.o.ex _ _ h1, l1⟩
  · subst e
    cases h
    obtain ⟨ws, h1, l1⟩ := (r.o.ob _ hm).2
    exact ⟨a, ws, rfl, h1, l1⟩
theorem ae_dgetT {k} (hu : X.A.units + 65 < cLine) (h : AE X N a R O fun d1 O1 => AA X N es R O1 fun ds O2 => ds.length ≤ 100000 ∧ ∃ kvs ks d, dctD O2 d1 kvs ∧ ds = ks.map keyD ∧ getA kvs ks = some d ∧ Q d O2)
    (hs : NoSl (.Tuple es k p) := by intro _ _; rfl) : AE X N (.Subscript a (.Tuple es k p) pos) R O Q := fun σ H F r0 =>
  tM.of (pe_dget (by omega) peM (pe_tup paM) hs) ((h σ H F r0).imp fun v H1 ⟨d1, O1, F1, s1, r1, p1, q1⟩ => (q1 σ H1 F1 r1).imp fun us H2 ⟨ds, O2, F2, s2, r2, p2, hl, kvs, ks, d, hd, eds, hg, q⟩ => by
    refine ⟨by rw [p2.len]; exact le_line hl, fun pp hp => ?_⟩
    subst eds
    have hu := keyDs_v p2
    subst hu
    obtain ⟨a, ws, e, hH, l⟩ := rp_dct r2 (p1.mono s2) hd
    rcases l.get ks with ⟨z1, z2⟩ | ⟨v', d', z1, z2, z3⟩
    · rw [hg] at z2; cases z2
    · rw [hg] at z2
      cases z2
      have hH' : (L2.upd H2 pp (.tup (ks.map kV))) a = some (.dT ws) := same_new hp _ _ _ hH
      refine ⟨a, v', e, ?_, QV.more (s1.trans s2) ?_⟩
      · have g := DGet.t (k := ks) hH' (b := pp) upd_same
        rw [getA_val, z1] at g
        exact g
      · exact ⟨d, O2, L2.upd F2 pp (.tup (ks.map kV)), same_new (r2.o.fr hp) _, r2.go (r2.o.frz hp _) (same_new (r2.o.fr hp) _), z3.mono (same_new (r2.o.fr hp) _), q⟩)

/-! ### fields -/
theorem lookup_getA {α : Type} {fs : List (Str × α)} : fs.lookup f = getA fs f := by
  induction fs with
  | nil => rfl
  | cons q r ih =>
    obtain ⟨g, z⟩ := q
    by_cases h : g = f
    · subst h
      rw [getA_pos rfl]
      simp [List.lookup]
    · rw [getA_neg h, ← ih]
      have hb : (f == g) = false := by
        have h' : ¬ f = g := fun z => h z.symm
        simpa using h'
      simp [List.lookup, hb]
/-- an instance: its own data, or one of the objects -/
def insD (O : Os) (d : D) (C : Addr) (fs : List (Str × D)) : Prop := d = .ins C fs ∨ ∃ a, d = .ref a ∧ (a, MO.ins C fs) ∈ O
theorem rp_ins {C : Addr} {fs : List (Str × D)} {v : V} {σ : L2.St} {H F : Hp} (r : RepS X N R O σ H F) (h : Rp X.K F v d) (hd : insD O d C fs) : ∃ a dx ws, v = .ref a ∧ H a = some (.ins C dx ws) ∧ RpA X.K F ws fs := by
  rcases hd with e | ⟨a, e, hm⟩
  · subst e
    cases h with
    | ins h1 l1 => exact ⟨_, _, _, rfl, r.o.ex _ _ h1, l1⟩
  · subst e
    cases h
    obtain ⟨dx, ws, h1, l1⟩ := (r.o.ob _ hm).2
    exact ⟨a, dx, ws, rfl, h1, l1⟩
theorem ae_fld {C : Addr} (c : Cls X.K C) (n : NoAttr X.K C f) (h : AE X N a R O fun d1 O1 => ∃ fs d, insD O1 d1 C fs ∧ getA fs f = some d ∧ Q d O1)
    (hb : attributeBase a f X.env (eval a X.env) = eval a X.env := by rfl) : AE X N (.Attribute a f pos) R O Q := fun σ H F r0 =>
  tM.of (pe_fld peM hb) ((h σ H F r0).imp fun v H1 ⟨d1, O1, F1, s1, r1, p1, fs, d, hi, hg, q⟩ => by
    obtain ⟨a, dx, ws, e, hH, l⟩ := rp_ins r1 p1 hi
    rcases l.get f with ⟨z1, z2⟩ | ⟨v', d', z1, z2, z3⟩
    · rw [hg] at z2; cases z2
    · rw [hg] at z2
      cases z2
      exact ⟨a, C, dx, ws, v', e, hH, c, n, lookup_getA.trans z1, QV.more s1 (QV.same r1 z3 q)⟩)

/-! ### methods of lists -/
theorem ae_app (h : AE X N o R O fun d1 O1 => ∃ l, d1 = .ref l ∧ (∃ xs, (l, MO.lst xs) ∈ O1) ∧ AE X N a R O1 fun d2 O2 => ∃ xs O3, U O2 l (.lst xs) (.lst (xs ++ [d2])) O3 ∧ xs.length ≤ 100000 ∧ Q .non O3)
    (hbase : attributeBase o "append" X.env (eval o X.env) = eval o X.env := by rfl)
    (hfew : ((backTo cpos (starEach (a :: []) X.env)).all (fun x => !x.1) && (backToKw cpos (keywordEach [] X.env)).all (fun x => x.1.isSome)
      && decide ((a :: []).length + ([] : List Keyword).length + (if ([] : List Keyword).isEmpty then 0 else 1) < 30)) = true := by rfl)
    (hline : (apos.endLine == cpos.line) = true := by rfl) (hs : starEach (a :: []) X.env = (false, eval a X.env) :: starEach [] X.env := by rfl) (hplain : (backTo cpos (starEach [] X.env)).any (·.1) = false := by rfl) :
    AE X N (.Call (.Attribute o "append" apos) [a] [] cpos) R O Q := fun σ H F r0 =>
  tM.of (pe_bm PySem.F.plainAttrs_list PySem.F.slot_list_append PySem.F.type_list_append mt_append peM (pa_cons peM pa_nil hs) hbase hfew hline hs hplain) ((h σ H F r0).imp fun v H1 ⟨d1, O1, F1, s1, r1, p1, l, e1, ⟨xs0, hm⟩, q1⟩ => by
    subst e1
    cases p1
    obtain ⟨ws0, h0, _⟩ := (r1.o.ob _ hm).2
    refine ⟨.inl ⟨rfl, ws0, SqL.of h0⟩, (q1 σ H1 F1 r1).imp fun u H2 ⟨d2, O2, F2, s2, r2, p2, xs, O3, hu, hl, q⟩ => ?_⟩
    obtain ⟨ws, h2, l2⟩ := (r2.o.ob _ hu.mem).2
    refine ⟨l, ws, u, rfl, rfl, h2, by rw [l2.len]; exact lt_line hl, QV.more (s1.trans s2) ?_⟩
    have hm' : MR X.K F2 (L2.upd H2 l (.lst (ws ++ [u]))) l (.lst (xs ++ [d2])) := ⟨_, upd_same, l2.app (.cons p2 .nil)⟩
    exact QV.same (r2.go (r2.o.upd hu hm') (Same.refl _)) .non q)
theorem ae_ext (h : AE X N o R O fun d1 O1 => ∃ l, d1 = .ref l ∧ (∃ xs, (l, MO.lst xs) ∈ O1) ∧ AE X N a R O1 fun d2 O2 => ∃ xs ys O3, d2 = .lst ys ∧ U O2 l (.lst xs) (.lst (xs ++ ys)) O3 ∧ xs.length + ys.length ≤ 100000 ∧ Q .non O3)
    (hbase : attributeBase o "extend" X.env (eval o X.env) = eval o X.env := by rfl)
    (hfew : ((backTo cpos (starEach (a :: []) X.env)).all (fun x => !x.1) && (backToKw cpos (keywordEach [] X.env)).all (fun x => x.1.isSome)
      && decide ((a :: []).length + ([] : List Keyword).length + (if ([] : List Keyword).isEmpty then 0 else 1) < 30)) = true := by rfl)
    (hline : (apos.endLine == cpos.line) = true := by rfl) (hs : starEach (a :: []) X.env = (false, eval a X.env) :: starEach [] X.env := by rfl) (hplain : (backTo cpos (starEach [] X.env)).any (·.1) = false := by rfl) :
    AE X N (.Call (.Attribute o "extend" apos) [a] [] cpos) R O Q := fun σ H F r0 =>
  tM.of (pe_bm PySem.F.plainAttrs_list PySem.F.slot_list_extend PySem.F.type_list_extend mt_extend peM (pa_cons peM pa_nil hs) hbase hfew hline hs hplain) ((h σ H F r0).imp fun v H1 ⟨d1, O1, F1, s1, r1, p1, l, e1, ⟨xs0, hm⟩, q1⟩ => by
    subst e1
    cases p1
    obtain ⟨ws0, h0, _⟩ := (r1.o.ob _ hm).2
    refine ⟨.inl ⟨rfl, ws0, SqL.of h0⟩, (q1 σ H1 F1 r1).imp fun u H2 ⟨d2, O2, F2, s2, r2, p2, xs, ys, O3, e2, hu, hl, q⟩ => ?_⟩
    subst e2
    obtain ⟨ws, h2, l2⟩ := (r2.o.ob _ hu.mem).2
    cases p2 with
    | @lst b zs ys hb lb =>
      refine ⟨l, b, ws, zs, rfl, rfl, h2, r2.o.ex _ _ hb, by rw [l2.len, lb.len]; exact le_line hl, QV.more (s1.trans s2) ?_⟩
      have hm' : MR X.K F2 (L2.upd H2 l (.lst (ws ++ zs))) l (.lst (xs ++ ys)) := ⟨_, upd_same, l2.app lb⟩
      exact QV.same (r2.go (r2.o.upd hu hm') (Same.refl _)) .non q)
theorem RpL.dropLast {K : PySem.W.Frag} {F : Hp} : ∀ {vs : List V} {ds : List D}, RpL K F vs ds → RpL K F vs.dropLast ds.dropLast
  | _, _, .nil => .nil
  | _, _, .cons h .nil => .nil
  | _, _, .cons h (.cons h2 r) => .cons h (RpL.dropLast (.cons h2 r))
theorem ae_pop (h : AE X N o R O fun d1 O1 => ∃ l xs d O3, d1 = .ref l ∧ U O1 l (.lst xs) (.lst xs.dropLast) O3 ∧ xs[xs.length - 1]? = some d ∧ Q d O3)
    (hbase : attributeBase o "pop" X.env (eval o X.env) = eval o X.env := by rfl) (hline : (apos.endLine == cpos.line) = true := by rfl) :
    AE X N (.Call (.Attribute o "pop" apos) [] [] cpos) R O Q := fun σ H F r0 =>
  tM.of (pe_bm0 PySem.F.plainAttrs_list PySem.F.slot_list_pop PySem.F.type_list_pop mt_pop peM hbase (hline := hline)) ((h σ H F r0).imp fun v H1 ⟨d1, O1, F1, s1, r1, p1, l, xs, d, O3, e1, hu, hx, q⟩ => by
    subst e1
    cases p1
    obtain ⟨ws, h2, l2⟩ := (r1.o.ob _ hu.mem).2
    obtain ⟨w, hw, rw'⟩ := l2.get hx
    refine ⟨.inl ⟨rfl, ws, SqL.of h2⟩, l, ws, w, rfl, rfl, h2, by rw [l2.len]; exact hw, QV.more s1 ?_⟩
    have hm' : MR X.K F1 (L2.upd H1 l (.lst ws.dropLast)) l (.lst xs.dropLast) := ⟨_, upd_same, l2.dropLast⟩
    exact QV.same (r1.go (r1.o.upd hu hm') (Same.refl _)) rw' q)
end
end K12
/-! A7: statements, loops, defs and calls. -/
namespace K12
open PySem PySem.Spec PyProof.Rows L2

section
variable {X : Cx} {N : Ent} {R R' : Rho} {O O1 O' : Os} {E : AEnds} {st : Stmt} {rest : List Stmt} {e a b o i : Expr} {es : List Expr} {pos p p2 apos cpos : Pos} {x f : Str} {d d1 d2 : D}

/-! ### blocks -/
theorem QN.more {F F' : Hp} {Q : Rho → Os → Prop} {σ : L2.St} {H : Hp} (s : Same F F') (h : QN X N F' Q σ H) : QN X N F Q σ H := by
  obtain ⟨R', O', F2, s2, r2, q2⟩ := h
  exact ⟨R', O', F2, s.trans s2, r2, q2⟩
theorem QR.more {F F' : Hp} {Q : D → Os → Prop} {v : V} {H : Hp} (s : Same F F') (h : QR X.K N F' Q v H) : QR X.K N F Q v H := by
  obtain ⟨R', O', F2, s2, r2, q2⟩ := h
  exact ⟨R', O', F2, s.trans s2, r2, q2⟩
theorem tMb.imp {sts : List Stmt} {D D' : Ends} {σ : L2.St} {H : Hp} (h : tMb X sts D σ H) (hn : ∀ σ H, D.nx σ H → D'.nx σ H) (hr : ∀ v H, D.rt v H → D'.rt v H) (hb : ∀ σ H, D.bk σ H → D'.bk σ H) (hc : ∀ σ H, D.ct σ H → D'.ct σ H) : tMb X sts D' σ H := fun pins s I =>
  thn (h pins s I) fun f s' q => by
    cases f with
    | next => obtain ⟨σ', H', J, q⟩ := q; exact ⟨σ', H', J, hn _ _ q⟩
    | brk => obtain ⟨σ', H', J, q⟩ := q; exact ⟨σ', H', J, hb _ _ q⟩
    | cont => obtain ⟨σ', H', J, q⟩ := q; exact ⟨σ', H', J, hc _ _ q⟩
    | ret u => obtain ⟨v, σ', H', J, r, q⟩ := q; exact ⟨v, σ', H', J, r, hr _ _ q⟩
theorem tMs.imp {D D' : Ends} {σ : L2.St} {H : Hp} (h : tMs X st D σ H) (hn : ∀ σ H, D.nx σ H → D'.nx σ H) (hr : ∀ v H, D.rt v H → D'.rt v H) (hb : ∀ σ H, D.bk σ H → D'.bk σ H) (hc : ∀ σ H, D.ct σ H → D'.ct σ H) : tMs X st D' σ H := fun pins s I =>
  thn (h pins s I) fun f s' q => by
    cases f with
    | next => obtain ⟨σ', H', J, q⟩ := q; exact ⟨σ', H', J, hn _ _ q⟩
    | brk => obtain ⟨σ', H', J, q⟩ := q; exact ⟨σ', H', J, hb _ _ q⟩
    | cont => obtain ⟨σ', H', J, q⟩ := q; exact ⟨σ', H', J, hc _ _ q⟩
    | ret u => obtain ⟨v, σ', H', J, r, q⟩ := q; exact ⟨v, σ', H', J, r, hr _ _ q⟩
theorem tMb.more {sts : List Stmt} {σ : L2.St} {H F F' : Hp} (s : Same F F') (h : tMb X sts (conc X N F' E) σ H) : tMb X sts (conc X N F E) σ H :=
  h.imp (fun _ _ q => QN.more s q) (fun _ _ q => QR.more s q) (fun _ _ q => QN.more s q) (fun _ _ q => QN.more s q)
theorem ab_nil (q : E.nx R O) : ASs X N [] R O E := fun σ H F r => tMb.of pss_nil ⟨R, O, F, Same.refl _, r, q⟩
theorem ab_cons (h : AS X N st R O { E with nx := fun R1 O1 => ASs X N rest R1 O1 E }) : ASs X N (st :: rest) R O E := fun σ H F r =>
  tMb.of (pss_cons psM pssM) ((h σ H F r).imp (fun σ1 H1 ⟨R1, O1, F1, s1, r1, q1⟩ => tMb.more s1 (q1 σ1 H1 F1 r1)) (fun _ _ q => q) (fun _ _ q => q) (fun _ _ q => q))
theorem ab_one (h : AS X N st R O E) : ASs X N [st] R O E := fun σ H F r => tMb.of (pss_one psM) (h σ H F r)
theorem as_ret (h : AE X N e R O E.rt) : AS X N (.Return (some e) pos) R O E := fun σ H F r =>
  tMs.of (ps_ret peM) ((h σ H F r).imp fun v H1 ⟨d, O1, F1, s1, r1, p1, q1⟩ => ⟨d, O1, F1, s1, r1.o, p1, q1⟩)
theorem as_expr (h : AE X N e R O fun _ O1 => E.nx R O1) (hs : swapsWith e none pos.line X.env = pure false := by rfl) : AS X N (.Expr e pos) R O E := fun σ H F r =>
  tMs.of (ps_expr peM hs) ((h σ H F r).imp fun v H1 ⟨d, O1, F1, s1, r1, p1, q1⟩ => ⟨R, O1, F1, s1, r1, q1⟩)
theorem as_if {c : Expr} {bt be : List Stmt} (h : AT X N c R O fun k O1 => if k = true then ASs X N bt R O1 E else ASs X N be R O1 E) : AS X N (.If c bt be pos) R O E := fun σ H F r =>
  tMs.of (ps_if ptM pssM pssM) ((h σ H F r).imp fun c H1 ⟨O1, F1, s1, r1, q1⟩ => by
    cases c with
    | true =>
      rw [if_pos rfl] at q1 ⊢
      exact tMb.more s1 (q1 σ H1 F1 r1)
    | false =>
      rw [if_neg Bool.false_ne_true] at q1 ⊢
      exact tMb.more s1 (q1 σ H1 F1 r1))
theorem as_pass (q : E.nx R O) : AS X N (.Pass pos) R O E := fun σ H F r => tMs.of ps_pass ⟨R, O, F, Same.refl _, r, q⟩

/-! ### names that are set -/
inductive Put : Rho → Str → D → Rho → Prop
  | head {x : Str} {d : D} {o : Option D} {R : Rho} : Put ((x, o) :: R) x d ((x, some d) :: R)
  | tail {x : Str} {d : D} {q : Str × Option D} {R R' : Rho} : Put R x d R' → Put (q :: R) x d (q :: R')
theorem Put.ix (u : Put R x d R') : ∃ (i : Nat) (o : Option D), R[i]? = some (x, o) ∧ R' = R.set i (x, some d) := by
  induction u with
  | @head x d o R => exact ⟨0, o, rfl, rfl⟩
  | tail _ ih => obtain ⟨i, o, h, e⟩ := ih; exact ⟨i + 1, o, h, by rw [e]; rfl⟩
/-- what is asked of a name that is set -/
structure StX (X : Cx) (x : Str) : Prop where
  vis : VisX X x
  loc : Loc X.env.scope x
  fn : X.fn x = true ∨ X.env.scope.names.lookup x = some .local
theorem RepS.put {σ : L2.St} {H F : Hp} {v : V} {i : Nat} {o : Option D} (r : RepS X N R O σ H F) (nd : X.N.Nodup) (vx : VisX X x) (hi : R[i]? = some (x, o)) (h : Rp X.K F v d) : RepS X N (R.set i (x, some d)) O (σ.set i (some v)) H F := by
  have hlt : i < R.length := (List.getElem?_eq_some_iff.mp hi).1
  have hln : R.length = X.N.length := by rw [← r.names, List.length_map]
  refine ⟨r.o, ?_, by rw [List.length_set]; exact r.len, fun j y z q => ?_, fun y z q => ?_⟩
  · rw [List.map_set, r.names]
    have hN : X.N[i]? = some x := by rw [← r.names, List.getElem?_map, hi] <;> rfl
    refine List.ext_getElem? fun j => ?_
    by_cases e : i = j
    · subst e
      rw [List.getElem?_set_self (List.getElem?_eq_some_iff.mp hN).1, hN]
    · rw [List.getElem?_set_ne e]
  · by_cases e : j = i
    · subst e
      rw [List.getElem?_set_self hlt] at q
      cases q
      exact ⟨v, by rw [List.getElem?_set_self (by rw [r.len, ← hln]; exact hlt)], h⟩
    · rw [List.getElem?_set_ne (Ne.symm e)] at q
      obtain ⟨w, hw, rw'⟩ := r.sl j y z q
      exact ⟨w, by rw [List.getElem?_set_ne (Ne.symm e)]; exact hw, rw'⟩
  · obtain ⟨j, hj⟩ := List.getElem?_of_mem q
    by_cases e : j = i
    · subst e
      rw [List.getElem?_set_self hlt] at hj
      cases hj
      exact vx
    · rw [List.getElem?_set_ne (Ne.symm e)] at hj
      exact r.vis y z (List.mem_of_getElem? hj)
theorem as_set (nd : X.N.Nodup) (sx : StX X x) (h : AE X N e R O fun d O1 => ∃ R', Put R x d R' ∧ E.nx R' O1) (hs : swapsWith e (some (.Name x p)) pos.line X.env = pure false := by rfl) : AS X N (.Assign [.Name x p] e pos) R O E := fun σ H F r => by
  by_cases hx : ∃ (i : Nat) (o : Option D), R[i]? = some (x, o)
  · obtain ⟨i, o, hi⟩ := hx
    have hN : X.N[i]? = some x := by rw [← r.names, List.getElem?_map, hi] <;> rfl
    refine tMs.of (ps_set nd hN sx.loc peM hs sx.fn) ((h σ H F r).imp fun v H1 ⟨d, O1, F1, s1, r1, p1, R', hp, q1⟩ => ?_)
    obtain ⟨j, o', hj, e⟩ := hp.ix
    have hN' : X.N[j]? = some x := by rw [← r.names, List.getElem?_map, hj] <;> rfl
    have ij : j = i := nodup_ix nd hN' hN
    subst ij
    subst e
    exact ⟨_, O1, F1, s1, r1.put nd sx.vis hj p1, q1⟩
  · refine tMs.of (t := fun D σ H => tM X e σ H fun _ _ => False) ⟨fun pins s σ' H' D I q => ?_⟩ ((h σ H F r).imp fun v H1 ⟨d, O1, F1, s1, r1, p1, R', hp, q1⟩ => ?_)
    · exact wpAny_Assign_Name (thn (q pins s I) fun u s' ⟨v, H'', J, rr, z⟩ => z.elim) hs
    · obtain ⟨j, o', hj, e⟩ := hp.ix
      exact (hx ⟨j, o', hj⟩).elim

/-! ### targets -/
/-- target = d -/
def AG (X : Cx) (tg : Expr) (d : D) (R : Rho) (k : Rho → Prop) : Prop :=
  ∀ (N : Ent) (O : Os) pins s σ H F v u, RepS X N R O σ H F → Rp X.K F v d → Inv X pins σ H s → RelV v u →
    wpAny (model X.prog X.w) X.A (assign tg X.env u) (fun _ s' => ∃ σ' H', Inv X pins σ' H' s' ∧ H' = H ∧ ∃ R', RepS X N R' O σ' H F ∧ k R') X.xe s
def AGs (X : Cx) (tgs : List Expr) (ds : List D) (R : Rho) (k : Rho → Prop) : Prop :=
  ∀ (N : Ent) (O : Os) pins s σ H F vs us, RepS X N R O σ H F → RpL X.K F vs ds → Inv X pins σ H s → Vals vs us →
    wpAny (model X.prog X.w) X.A (assignInOrder ((assignEach tgs X.env).map (·.2)) us) (fun _ s' => ∃ σ' H', Inv X pins σ' H' s' ∧ H' = H ∧ ∃ R', RepS X N R' O σ' H F ∧ k R') X.xe s
theorem ag_n {k : Rho → Prop} (nd : X.N.Nodup) (sx : StX X x) (h : Put R x d R') (q : k R') : AG X (.Name x p) d R k := fun N O pins s σ H F v u r rp I rv => by
  obtain ⟨j, o', hj, e⟩ := h.ix
  have hN : X.N[j]? = some x := by rw [← r.names, List.getElem?_map, hj] <;> rfl
  subst e
  exact thn ((pg_name nd hN sx.loc sx.fn).run pins s σ H v u (fun σ' H' => H' = H ∧ ∃ R', RepS X N R' O σ' H F ∧ k R') I rv ⟨rfl, _, r.put nd sx.vis hj rp, q⟩) fun _ s' h => h
theorem ags_nil {k : Rho → Prop} (q : k R) : AGs X [] [] R k := fun N O pins s σ H F vs us r rp I rv => by
  cases rp
  cases rv
  exact assignInOrder_nil ⟨σ, H, I, rfl, R, r, q⟩
theorem ags_cons {tg : Expr} {tgs : List Expr} {ds : List D} {k : Rho → Prop} (h : AG X tg d R fun R1 => AGs X tgs ds R1 k)
    (hs : (assignEach (tg :: tgs) X.env).map (·.2) = assign tg X.env :: (assignEach tgs X.env).map (·.2) := by rfl) : AGs X (tg :: tgs) (d :: ds) R k := fun N O pins s σ H F vs us r rp I rv => by
  cases rp with
  | cons p1 pr =>
    cases rv with
    | cons r1 rr =>
      rw [hs]
      refine assignInOrder_cons (thn (h N O pins s σ H F _ _ r p1 I r1) fun _ s1 ⟨σ1, H1, I1, e1, R1, rp1, q1⟩ => ?_)
      subst e1
      exact q1 N O pins s1 σ1 H1 F _ _ rp1 pr I1 rr
theorem ag_tup {tgs : List Expr} {ds : List D} {j : Nat} {k : Rho → Prop} (hc : X.calm = true) (h : AGs X tgs ds R k) (hl : ds.length = tgs.length)
    (hn : (assignEach tgs X.env).length = tgs.length := by rfl) (hst : (assignEach tgs X.env).findIdx? (·.1) = none := by rfl) : AG X (.Tuple tgs j pos) (.tup ds) R k := fun N O pins s σ H F v u r rp I rv => by
  cases rp with
  | @tup a xs ds hs lr =>
    cases rv
    obtain ⟨its, rv', ht, hz⟩ := I.tuple (same_t r.o.ex hs)
    have l1 := lr.len
    have l2 := rv'.length
    refine assign_Tuple_tuple (I.ok.hd hc) ht (by simp [hn]; omega) hst fun h' hx => ?_
    have I1 : Inv X pins σ H { s with heap := h' } := I.kept (t' := s.toks) fun b o e => hx b o (Nat.ne_of_lt (Heap.lt_size e)) e
    exact h N O pins _ σ H F xs _ r lr I1 (by simpa using rv')
theorem ag_lst {tgs : List Expr} {ds : List D} {j : Nat} {k : Rho → Prop} (hc : X.calm = true) (h : AGs X tgs ds R k) (hl : ds.length = tgs.length)
    (hn : (assignEach tgs X.env).length = tgs.length := by rfl) (hst : (assignEach tgs X.env).findIdx? (·.1) = none := by rfl) : AG X (.Tuple tgs j pos) (.lst ds) R k := fun N O pins s σ H F v u r rp I rv => by
  cases rp with
  | @lst a xs ds hs lr =>
    -- by the layer's rule for a list unpacked
    let K : PGs X tgs (fun vs' σ' H' Q => vs' = xs ∧ σ' = σ ∧ H' = H ∧ ∀ σ'' R', RepS X N R' O σ'' H F → k R' → Q σ'' H) := ⟨fun pins2 s2 σ2 H2 vs2 us2 Q2 I2 rv2 ⟨e1, e2, e3, q⟩ => by
      rw [e1] at rv2
      rw [e2, e3] at I2
      exact thn (h N O pins2 s2 σ H F xs us2 r lr I2 rv2) fun _ s1 ⟨σ1, H1, I1, e1, R1, rp1, q1⟩ => by
        subst e1
        exact ⟨σ1, _, I1, q σ1 R1 rp1 q1⟩⟩
    have P := pg_unl (X := X) (pos := pos) (k := j) (n := tgs.length) hc K hn hst
    exact thn (P.run pins s σ H (.ref a) u (fun σ' H' => H' = H ∧ ∃ R', RepS X N R' O σ' H F ∧ k R') I rv ⟨a, xs, rfl, SqL.of (r.o.ex _ _ hs), by rw [lr.len, hl], rfl, rfl, rfl, fun σ'' R' rr kk => ⟨rfl, R', rr, kk⟩⟩) fun _ s' z => z
theorem as_asg {tg : Expr} (h : AE X N e R O fun d O1 => AG X tg d R fun R' => E.nx R' O1) (hs : swapsWithSole [tg] e pos.line X.env = pure false := by rfl) (hw : swappedStores [tg] e X.env = pure none := by rfl)
    (h1 : (assignEach [tg] X.env).map (·.2) = [assign tg X.env] := by rfl) : AS X N (.Assign [tg] e pos) R O E := fun σ H F r pins s I => by
  refine wpAny_Assign_stores (thn (h σ H F r pins s I) fun v s1 ⟨x, H1, I1, r1, d, O1, F1, s2, r2, p2, q⟩ => ?_) hs hw
  rw [h1]
  exact thn (q N O1 pins s1 σ H1 F1 x v r2 p2 I1 r1) fun _ s2' ⟨σ', H', I', e', R', rr, kk⟩ => by
    subst e'
    exact ⟨σ', _, I', R', O1, F1, s2, rr, kk⟩
end
end K12
/-! A8: defs and calls. -/
namespace K12
open PySem PySem.Spec PyProof.Rows L2

abbrev ASp := List D → Os → (D → Os → Prop) → (Addr → List (Str × D) → Os → Prop) → Prop
/-- an exception of the entry N -/
def XA (K : PySem.W.Frag) (N : Ent) : XK := fun cls d H' => ∃ C dd fs fvs O' F', cls = .ref C ∧ d = some dd ∧ H' dd = some (.xd fvs) ∧ RpA K F' fvs fs ∧ RepO K N O' H' F' ∧ N.EX C fs O'
def TkA (X : Cx) (N : Ent) : Prop := Takes X (fun cls d _ H => XA X.K N cls d H)
def PsA (X : Cx) (N : Ent) : Prop := Passes (L2.CX X.prog X.w) X (XA X.K N)
theorem TkA.ps {X : Cx} {N : Ent} (t : TkA X N) : PsA X N := passes_call t fun _ _ _ _ h => h
def lift (K : PySem.W.Frag) (S : ASp) : Sp := fun vs H Q E => ∃ (F : Hp) (ds : List D) (O : Os) (QA : D → Os → Prop) (EA : Addr → List (Str × D) → Os → Prop),
  Same F H ∧ RpL K F vs ds ∧ (∀ p ∈ O, F p.1 = none ∧ MR K F H p.1 p.2) ∧ (dom O).Nodup ∧ S ds O QA EA ∧
  (∀ v H', QR K ⟨O, F, H, EA⟩ F QA v H' → Q v H') ∧ (∀ cls d H', XA K ⟨O, F, H, EA⟩ cls d H' → E cls d H')
def startR : List Str → List D → Rho
  | n :: ns, d :: ds => (n, some d) :: startR ns ds
  | n :: ns, [] => (n, none) :: startR ns []
  | [], _ => []
theorem startR_names : ∀ (ns : List Str) (ds : List D), (startR ns ds).map (·.1) = ns
  | [], _ => rfl
  | n :: ns, [] => congrArg (n :: ·) (startR_names ns [])
  | n :: ns, d :: ds => congrArg (n :: ·) (startR_names ns ds)
theorem startR_at : ∀ {ns : List Str} {ds : List D} {i : Nat} {x : Str} {d : D}, (startR ns ds)[i]? = some (x, some d) → ds[i]? = some d ∧ ns[i]? = some x
  | [], _, _, _, _, h => by simp [startR] at h
  | n :: ns, [], i, x, d, h => by
    cases i with
    | zero => simp [startR] at h
    | succ i =>
      have h' : (startR ns [])[i]? = some (x, some d) := by simpa [startR] using h
      obtain ⟨q, _⟩ := startR_at h'
      simp at q
  | n :: ns, e :: ds, 0, x, d, h => by
    simp [startR] at h
    exact ⟨by simp [h.2], by simp [h.1]⟩
  | n :: ns, e :: ds, i + 1, x, d, h => by
    have h' : (startR ns ds)[i]? = some (x, some d) := by simpa [startR] using h
    obtain ⟨q1, q2⟩ := startR_at h'
    exact ⟨by simpa using q1, by simpa using q2⟩

section
variable {P : Program} {w : World} {K : PySem.W.Frag} {mg : Str → Option Value} {base : Heap}
/-- a def keeps its abstract promise -/
theorem fnA {x qual : Str} {st : Stmt} {f : Addr} {fd : FuncData} {Ns ps : List Str} {k : Nat} {S : ASp} (Fn : Fun K x qual st f fd) (sc : FnScope Ns ps (defScope st)) (len : ∀ ds O QA EA, S ds O QA EA → ds.length = ps.length)
    (dbg : ∀ y ∈ ps, (y == ("__debug__" : Str)) = false ∧ (y == ("__classdict__" : Str)) = false)
    (body : ∀ (cdv : Value) (A : Around) (outer : List Env) (s : Shared) (H : Hp) (E : XK), Room k (A.deeper (envOfC qual (defScope st) s.heap.objs.size f cdv)) → ∀ (ds : List D) (O : Os) (QA : D → Os → Prop) (EA : Addr → List (Str × D) → Os → Prop) (F : Hp), S ds O QA EA →
      TkA (cxOf (L2.CX P w) P w K mg base Ns qual (defScope st) f cdv A outer s H E) ⟨O, F, H, EA⟩ →
      ASs (cxOf (L2.CX P w) P w K mg base Ns qual (defScope st) f cdv A outer s H E) ⟨O, F, H, EA⟩ (defBody st) (startR Ns ds) O { nx := fun _ O' => QA .non O', rt := QA }) :
    FnOk P w K mg base (L2.CX P w) (k + 1) f fd ps (lift K S) := by
  refine Fn.okX sc (fun vs H Q E h => ?_) (fun cdv A outer s H vs Q E hr h => ?_)
  · obtain ⟨F, ds, O, QA, EA, _, rl, _, _, hs, _⟩ := h
    rw [rl.len, len _ _ _ _ hs]
  · obtain ⟨F, ds, O, QA, EA, sF, rl, ob, nd, hs, hq, hx⟩ := h
    have hl := len _ _ _ _ hs
    have tk : TkA (cxOf (L2.CX P w) P w K mg base Ns qual (defScope st) f cdv A outer s H E) ⟨O, F, H, EA⟩ :=
      (takes_of (E := E) rfl rfl rfl rfl).imp fun cls d σ H' z => hx cls d H' z
    have b := body cdv A outer s H E hr ds O QA EA F hs tk
    have r0 : RepO K ⟨O, F, H, EA⟩ O H F := ⟨sF, ob, nd, Same.refl _, fun a o q _ => q, fun a o q => .inl q, fun p hp => .inl (List.mem_map.mpr ⟨p, hp, rfl⟩)⟩
    have hpl : ps.length ≤ Ns.length := by have := congrArg List.length sc.pre; rw [List.length_take] at this; omega
    refine ⟨_, pssM, fun pins s' I => ?_⟩
    have rs : RepS (cxOf (L2.CX P w) P w K mg base Ns qual (defScope st) f cdv A outer s H E) ⟨O, F, H, EA⟩ (startR Ns ds) O (start Ns vs) H F := by
      refine ⟨r0, startR_names _ _, ?_, fun i y d q => ?_, fun y d q => ?_⟩
      · unfold L2.start
        rw [List.length_append, List.length_map, List.length_replicate, rl.len]
        show _ = Ns.length
        omega
      · obtain ⟨q1, q2⟩ := startR_at q
        obtain ⟨v, hv, rv⟩ := rl.get q1
        refine ⟨v, ?_, rv⟩
        unfold L2.start
        have hi : i < vs.length := (List.getElem?_eq_some_iff.mp hv).1
        rw [List.getElem?_append_left (by simpa using hi), List.getElem?_map, hv] <;> rfl
      · obtain ⟨i, hi⟩ := List.getElem?_of_mem q
        obtain ⟨q1, q2⟩ := startR_at hi
        have hi' : i < ds.length := (List.getElem?_eq_some_iff.mp q1).1
        have hp : y ∈ ps := by
          have e : ps[i]? = some y := by rw [← sc.pre, List.getElem?_take_of_lt (by omega)]; exact q2
          exact List.mem_of_getElem? e
        exact ⟨(sc.par y hp).elim .inl (fun z => .inr (.inl z)), dbg y hp⟩
    refine thn (b (start Ns vs) H F rs pins s' I) fun fl s'' q => ?_
    cases fl with
    | next =>
      obtain ⟨σ', H', J, R', O', F', s1, r1, q1⟩ := q
      exact ⟨σ', H', J, hq _ _ ⟨.non, O', F', s1, r1.o, .non, q1⟩⟩
    | brk => obtain ⟨σ', H', J, R', O', F', s1, r1, q1⟩ := q; exact q1.elim
    | cont => obtain ⟨σ', H', J, R', O', F', s1, r1, q1⟩ := q; exact q1.elim
    | ret u =>
      obtain ⟨v, σ', H', J, r, q1⟩ := q
      exact ⟨v, σ', H', J, r, hq _ _ q1⟩
end

/-! ### objects handed to a callee, and back -/
inductive Take : Addr → MO → Os → Os → Prop
  | head {a : Addr} {m : MO} {O : Os} : Take a m ((a, m) :: O) O
  | tail {a : Addr} {m : MO} {p : Addr × MO} {O O' : Os} : Take a m O O' → Take a m (p :: O) (p :: O')
inductive Sel : Os → Os → Prop
  | nil {O : Os} : Sel O []
  | cons {a : Addr} {m : MO} {O O1 Oc : Os} : Take a m O O1 → Sel O1 Oc → Sel O ((a, m) :: Oc)
inductive Pk : Os → Os → Os → Os → Prop
  | new {O Ex : Os} : Pk O [] Ex (Ex ++ O)
  | step {O O1 O2 Oc Oc' : Os} {a : Addr} {m m' : MO} : U O a m m' O1 → Pk O1 Oc Oc' O2 → Pk O ((a, m) :: Oc) ((a, m') :: Oc') O2
theorem Take.sub {a : Addr} {m : MO} {O O' : Os} (t : Take a m O O') : (a, m) ∈ O ∧ (∀ q ∈ O', q ∈ O) ∧ ((dom O).Nodup → (dom O').Nodup ∧ a ∉ dom O') := by
  induction t with
  | head => exact ⟨List.mem_cons_self, fun q h => List.mem_cons_of_mem _ h, fun nd => ⟨(List.nodup_cons.mp nd).2, (List.nodup_cons.mp nd).1⟩⟩
  | @tail p O O' t ih =>
    obtain ⟨h1, h2, h3⟩ := ih
    refine ⟨List.mem_cons_of_mem _ h1, fun q h => ?_, fun nd => ?_⟩
    · rcases List.mem_cons.mp h with e | h
      · rw [e]; exact List.mem_cons_self
      · exact List.mem_cons_of_mem _ (h2 q h)
    · obtain ⟨n1, n2⟩ := List.nodup_cons.mp nd
      obtain ⟨m1, m2⟩ := h3 n2
      refine ⟨List.nodup_cons.mpr ⟨fun z => n1 ?_, m1⟩, fun z => ?_⟩
      · obtain ⟨q, hq, e⟩ := List.mem_map.mp z
        exact List.mem_map.mpr ⟨q, h2 q hq, e⟩
      · rcases List.mem_cons.mp z with e | z
        · exact n1 (List.mem_map.mpr ⟨(a, m), h1, e⟩)
        · exact m2 z
theorem Sel.sub {O Oc : Os} (t : Sel O Oc) : (∀ q ∈ Oc, q ∈ O) ∧ ((dom O).Nodup → (dom Oc).Nodup) := by
  induction t with
  | nil => exact ⟨(fun q h => nomatch h), (fun _ => List.nodup_nil)⟩
  | @cons a m O O1 Oc t s ih =>
    obtain ⟨h1, h2, h3⟩ := t.sub
    obtain ⟨i1, i2⟩ := ih
    refine ⟨fun q h => ?_, fun nd => ?_⟩
    · rcases List.mem_cons.mp h with e | h
      · rw [e]; exact h1
      · exact h2 q (i1 q h)
    · obtain ⟨m1, m2⟩ := h3 nd
      refine List.nodup_cons.mpr ⟨fun z => m2 ?_, i2 m1⟩
      obtain ⟨q, hq, e⟩ := List.mem_map.mp z
      exact List.mem_map.mpr ⟨q, i1 q hq, e⟩
theorem Pk.mem {O Oc Oc' O2 : Os} (t : Pk O Oc Oc' O2) : (dom O).Nodup → ∀ q ∈ O2, q ∈ Oc' ∨ (q ∈ O ∧ q.1 ∉ dom Oc) := by
  induction t with
  | @new O Ex =>
    intro nd q hq
    rcases List.mem_append.mp hq with h | h
    · exact .inl h
    · exact .inr ⟨h, fun z => nomatch z⟩
  | @step O O1 O2 Oc Oc' a m m' u p ih =>
    intro nd q hq
    rcases ih (by rw [u.doms]; exact nd) q hq with h | ⟨h1, h2⟩
    · exact .inl (List.mem_cons_of_mem _ h)
    · rcases u.of nd q h1 with e | ⟨h3, h4⟩
      · rw [e]; exact .inl List.mem_cons_self
      · exact .inr ⟨h3, fun z => (List.mem_cons.mp z).elim h4 h2⟩
theorem Pk.doms {O Oc Oc' O2 : Os} (t : Pk O Oc Oc' O2) : ∃ Ex : Os, dom Oc' = dom Oc ++ dom Ex ∧ dom O2 = dom Ex ++ dom O ∧ ∀ p ∈ Ex, p ∈ Oc' := by
  induction t with
  | @new O Ex => exact ⟨Ex, rfl, by unfold dom; rw [List.map_append], fun p h => h⟩
  | @step O O1 O2 Oc Oc' a m m' u p ih =>
    obtain ⟨Ex, h1, h2, h3⟩ := ih
    exact ⟨Ex, by show a :: dom Oc' = a :: dom Oc ++ dom Ex; rw [h1] <;> rfl, by rw [h2, u.doms], fun p h => List.mem_cons_of_mem _ (h3 p h)⟩
section
variable {K : PySem.W.Frag} {N : Ent} {O Oc Oc' O2 : Os} {H H' F F' : Hp} {EA : Addr → List (Str × D) → Os → Prop}
/-- behind a callee -/
theorem RepO.comp (r : RepO K N O H F) (s : Sel O Oc) (c : RepO K ⟨Oc, F, H, EA⟩ Oc' H' F') (t : Pk O Oc Oc' O2) : RepO K N O2 H' F' where
  ex := c.ex
  ob := fun q hq => by
    rcases t.mem r.nd q hq with h | ⟨h1, h2⟩
    · exact c.ob q h
    · obtain ⟨z1, z2⟩ := r.ob q h1
      obtain ⟨o, ho⟩ := z2.some
      have k := c.keep q.1 o ho h2
      refine ⟨?_, z2.mono c.grow (k.trans ho.symm)⟩
      cases e : F' q.1 with
      | none => rfl
      | some u =>
        rcases c.newF q.1 u e with w | w | w
        · have w' : F q.1 = some u := w
          rw [z1] at w'; cases w'
        · have w' : H q.1 = none := w
          rw [ho] at w'; cases w'
        · exact absurd w h2
  nd := by
    obtain ⟨Ex, e1, e2, h3⟩ := t.doms
    rw [e2]
    have n1 := c.nd
    rw [e1] at n1
    obtain ⟨_, n2, n3⟩ := List.nodup_append.mp n1
    refine List.nodup_append.mpr ⟨n2, r.nd, fun a ha b hb e => ?_⟩
    subst e
    obtain ⟨p, hp, ep⟩ := List.mem_map.mp ha
    obtain ⟨q, hq, eq⟩ := List.mem_map.mp hb
    rcases c.newO p (h3 p hp) with z | z
    · exact n3 p.1 z a ha ep
    · obtain ⟨o, ho⟩ := (r.ob q hq).2.some
      have z' : H p.1 = none := z
      rw [ep] at z'
      rw [eq, z'] at ho
      cases ho
  grow := r.grow.trans c.grow
  keep := fun a o q ha => by
    have h1 := r.keep a o q ha
    refine c.keep a o h1 fun z => ?_
    obtain ⟨p, hp, ep⟩ := List.mem_map.mp z
    rcases r.newO p (s.sub.1 p hp) with w | w
    · exact ha (ep ▸ w)
    · rw [ep] at w
      rw [w] at q
      cases q
  newF := fun a o q => by
    rcases c.newF a o q with w | w | w
    · exact r.newF a o w
    · exact .inr (r.old w)
    · obtain ⟨p, hp, ep⟩ := List.mem_map.mp w
      rcases r.newO p (s.sub.1 p hp) with w | w
      · exact .inr (.inr (ep ▸ w))
      · exact .inr (.inl (ep ▸ w))
  newO := fun q hq => by
    rcases t.mem r.nd q hq with h | ⟨h1, h2⟩
    · rcases c.newO q h with w | w
      · obtain ⟨p, hp, ep⟩ := List.mem_map.mp w
        have := r.newO p (s.sub.1 p hp)
        rw [ep] at this
        exact this
      · exact (r.old w).symm
    · exact r.newO q h1
end

/-- a def of the module, by its name -/
structure FnA (P : Program) (w : World) (K : PySem.W.Frag) (mg : Str → Option Value) (base : Heap) (k : Nat) (x : Str) (S : ASp) : Prop where
  to : ∃ f fd ps, FnOk P w K mg base (L2.CX P w) k f fd ps (lift K S) ∧ mg x = some (.ref f) ∧ PySem.W.keepIn K (.ref f) = true ∧ Binds K fd ps []
theorem FnA.mono {P : Program} {w : World} {K : PySem.W.Frag} {mg : Str → Option Value} {base : Heap} {j k : Nat} {x : Str} {S : ASp} (h : FnA P w K mg base j x S) (hk : j ≤ k) : FnA P w K mg base k x S := by
  obtain ⟨f, fd, ps, h1, h2⟩ := h.to
  exact ⟨f, fd, ps, h1.mono hk, h2⟩
/-- a method of the class at C -/
structure MtA (P : Program) (w : World) (K : PySem.W.Frag) (mg : Str → Option Value) (base : Heap) (k : Nat) (C : Addr) (m : Str) (S : ASp) : Prop where
  to : ∃ f fd ps, FnOk P w K mg base (L2.CX P w) k f fd ps (lift K S) ∧ Meth K C m f ∧ Cls K C ∧ Binds K fd ps []
theorem MtA.mono {P : Program} {w : World} {K : PySem.W.Frag} {mg : Str → Option Value} {base : Heap} {j k : Nat} {C : Addr} {x : Str} {S : ASp} (h : MtA P w K mg base j C x S) (hk : j ≤ k) : MtA P w K mg base k C x S := by
  obtain ⟨f, fd, ps, h1, h2⟩ := h.to
  exact ⟨f, fd, ps, h1.mono hk, h2⟩
/-- a class that is called -/
structure MkA (P : Program) (w : World) (K : PySem.W.Frag) (mg : Str → Option Value) (base : Heap) (k : Nat) (x : Str) (C : Addr) (S : ASp) : Prop where
  to : ∃ f fd ps, FnOk P w K mg base (L2.CX P w) k f fd ps (lift K S) ∧ Mk K C f ∧ mg x = some (.ref C) ∧ Binds K fd ps []

section
variable {X : Cx} {N : Ent} {R : Rho} {O O1 O' : Os} {Q : D → Os → Prop} {e a b o i : Expr} {es : List Expr} {pos p p2 apos cpos : Pos} {x f m : Str} {d d1 d2 : D} {k : Nat} {S : ASp}
/-- what a call asks: some of the objects are handed in -/
def CallS (N : Ent) (S : ASp) (ds : List D) (O : Os) (Q : D → Os → Prop) : Prop :=
  ∃ Oc, Sel O Oc ∧ S ds Oc (fun d Oc' => ∃ O2, Pk O Oc Oc' O2 ∧ Q d O2) (fun C fs Oc' => ∃ O2, Pk O Oc Oc' O2 ∧ N.EX C fs O2)
theorem call_core {σ : L2.St} {H F F0 : Hp} {vs : List V} {ds : List D} (s0 : Same F0 F) (r : RepS X N R O σ H F) (rl : RpL X.K F vs ds) (h : CallS N S ds O Q) : lift X.K S vs H (QV X N R σ F0 Q) (XA X.K N) := by
  obtain ⟨Oc, hs, hq⟩ := h
  refine ⟨F, ds, Oc, _, _, r.o.ex, rl, fun p hp => r.o.ob p (hs.sub.1 p hp), hs.sub.2 r.o.nd, hq, fun v H' ⟨d, Oc', F', s1, c, rv, O2, t, q⟩ => ?_, fun cls d H' ⟨C, dd, fs, fvs, Oc', F', e1, e2, e3, ra, c, O2, t, q⟩ => ?_⟩
  · exact ⟨d, O2, F', s0.trans s1, r.go (r.o.comp hs c t) s1, rv, q⟩
  · exact ⟨C, dd, fs, fvs, O2, F', e1, e2, e3, ra, r.o.comp hs c t, q⟩
theorem ae_call (G : FnA X.prog X.w X.K X.mg X.base k x S) (hr : Room k X.A) (ps : PsA X N) (h : AA X N (e :: es) R O fun ds O1 => CallS N S ds O1 Q) (hg : Gl X x := by rfl)
    (hdb : (x == ("__debug__" : Str)) = false := by decide) (he : starEach (e :: es) X.env = (false, eval e X.env) :: starEach es X.env := by rfl) (hpl : (backTo pos (starEach es X.env)).any (·.1) = false := by rfl) :
    AE X N (.Call (.Name x p) (e :: es) [] pos) R O Q := fun σ H F r => by
  obtain ⟨f, fd, ps', h1, h2, h3, h4⟩ := G.to
  refine tM.of (pe_call h1 hr hg h2 h3 h4 .nil ps paM hdb he hpl) ((h σ H F r).imp fun vs H1 ⟨ds, O1, F1, s1, r1, p1, q1⟩ => ?_)
  rw [List.append_nil]
  exact call_core s1 r1 p1 q1
theorem ae_meth {pl : Sem Bool} {C : Addr} (G : MtA X.prog X.w X.K X.mg X.base k C m S) (hr : Room k X.A) (ps : PsA X N) (h : AE X N o R O fun d1 O1 => (∃ fs, insD O1 d1 C fs ∧ getA fs m = none) ∧ AA X N (e :: es) R O1 fun ds O2 => CallS N S (d1 :: ds) O2 Q)
    (hst : starEach (e :: es) X.env = (false, eval e X.env) :: starEach es X.env := by rfl) (hpl : (backTo pos (starEach es X.env)).any (·.1) = false := by rfl)
    (ht : eval (.Call (.Attribute o m apos) (e :: es) [] pos) X.env = (do
      let ov ← eval o X.env
      standAt apos.atName
      let (f, first) ← holding [ov] (getMethod ov m pl)
      callWith pos f first (backTo pos (starEach (e :: es) X.env)) (backToKw pos (keywordEach [] X.env))) := by rfl) :
    AE X N (.Call (.Attribute o m apos) (e :: es) [] pos) R O Q := fun σ H F r => by
  obtain ⟨f, fd, ps', h1, h2, h3, h4⟩ := G.to
  refine tM.of (pe_meth peM h3 h2 h1 hr h4 .nil ps paM hst hpl ht) ((h σ H F r).imp fun v H1 ⟨d1, O1, F1, s1, r1, p1, ⟨fs, hi, hn⟩, q1⟩ => ?_)
  obtain ⟨a, dx, ws, e1, hH, l⟩ := rp_ins r1 p1 hi
  refine ⟨a, dx, ws, e1, hH, ?_, (q1 σ H1 F1 r1).imp fun vs H2 ⟨ds, O2, F2, s2, r2, p2, q2⟩ => ?_⟩
  · rw [lookup_getA]
    rcases l.get m with ⟨z1, z2⟩ | ⟨v', d', z1, z2, z3⟩
    · exact z1
    · rw [hn] at z2; cases z2
  · rw [List.append_nil]
    exact call_core (s1.trans s2) r2 (.cons (p1.mono s2) p2) q2
theorem ae_meth0 {pl : Sem Bool} {C : Addr} (G : MtA X.prog X.w X.K X.mg X.base k C m S) (hr : Room k X.A) (ps : PsA X N) (h : AE X N o R O fun d1 O1 => (∃ fs, insD O1 d1 C fs ∧ getA fs m = none) ∧ CallS N S [d1] O1 Q)
    (ht : eval (.Call (.Attribute o m apos) [] [] pos) X.env = (do
      let ov ← eval o X.env
      standAt apos.atName
      let (f, first) ← holding [ov] (getMethod ov m pl)
      callWith pos f first (backTo pos (starEach [] X.env)) (backToKw pos (keywordEach [] X.env))) := by rfl) :
    AE X N (.Call (.Attribute o m apos) [] [] pos) R O Q := fun σ H F r => by
  obtain ⟨f, fd, ps', h1, h2, h3, h4⟩ := G.to
  refine tM.of (pe_meth0 peM h3 h2 h1 hr h4 .nil ps ht) ((h σ H F r).imp fun v H1 ⟨d1, O1, F1, s1, r1, p1, ⟨fs, hi, hn⟩, q1⟩ => ?_)
  obtain ⟨a, dx, ws, e1, hH, l⟩ := rp_ins r1 p1 hi
  refine ⟨a, dx, ws, e1, hH, ?_, ?_⟩
  · rw [lookup_getA]
    rcases l.get m with ⟨z1, z2⟩ | ⟨v', d', z1, z2, z3⟩
    · exact z1
    · rw [hn] at z2; cases z2
  · exact call_core s1 r1 (.cons p1 .nil) q1
/-- a new untracked thing -/
theorem RepO.oth {K : PySem.W.Frag} {H F : Hp} {p : Addr} {o : HO} (r : RepO K N O H F) (h : H p = none) : RepO K N O (L2.upd H p o) F where
  ex := r.ex.trans (same_new h o)
  ob := fun q hq => ⟨(r.ob q hq).1, (r.ob q hq).2.mono (Same.refl _) (upd_ne (r.ne h hq))⟩
  nd := r.nd
  grow := r.grow
  keep := fun a u q ha => same_new h o _ _ (r.keep a u q ha)
  newF := r.newF
  newO := r.newO
theorem ae_make {C : Addr} (G : MkA X.prog X.w X.K X.mg X.base k x C S) (hr : Room (k + 1) X.A) (ps : PsA X N)
    (h : AA X N (e :: es) R O fun ds O1 => ∀ y, CallS N S (.ref y :: ds) ((y, .ins C []) :: O1) fun d O2 => Q (.ref y) O2) (hg : Gl X x := by rfl)
    (hdb : (x == ("__debug__" : Str)) = false := by decide) (he : starEach (e :: es) X.env = (false, eval e X.env) :: starEach es X.env := by rfl) (hpl : (backTo pos (starEach es X.env)).any (·.1) = false := by rfl)
    (hn : ∀ ds O1 QA EA, S ds O1 QA EA → ∀ QA' : D → Os → Prop, (∀ d O', d = .non → QA d O' → QA' d O') → S ds O1 QA' EA) :
    AE X N (.Call (.Name x p) (e :: es) [] pos) R O Q := fun σ H F r => by
  obtain ⟨f, fd, ps', h1, h2, h3, h4⟩ := G.to
  refine tM.of (pe_make h2 h1 hr hg h3 h4 .nil ps paM hdb he hpl) ((h σ H F r).imp fun vs H1 ⟨ds, O1, F1, s1, r1, p1, q1⟩ => ?_)
  intro y dx hy hdx hne
  rw [List.append_nil]
  have h2' : (L2.upd H1 dx (.own y)) y = none := by rw [upd_ne (Ne.symm hne)]; exact hy
  have ro := (r1.o.oth (o := .own y) hdx).mut (o := .ins C dx []) (m := .ins C []) h2' ⟨dx, [], upd_same, .nil⟩
  have r2 : RepS X N R ((y, .ins C []) :: O1) σ (L2.upd (L2.upd H1 dx (.own y)) y (.ins C dx [])) F1 := r1.go ro (Same.refl _)
  obtain ⟨Oc, hs, hq⟩ := q1 y
  have hq' := hn _ _ _ _ hq (fun d Oc' => d = .non ∧ ∃ O2, Pk ((y, .ins C []) :: O1) Oc Oc' O2 ∧ Q (.ref y) O2) (fun d O' e1 e2 => ⟨e1, e2⟩)
  refine ⟨F1, .ref y :: ds, Oc, _, _, r2.o.ex, .cons (.ref y) p1, fun p hp => r2.o.ob p (hs.sub.1 p hp), hs.sub.2 r2.o.nd, hq', fun v H' ⟨d, Oc', F', s2, c, rv, ed, O2, t, q⟩ => ?_, fun cls d H' ⟨C, dd, fs, fvs, Oc', F', e1, e2, e3, ra, c, O2, t, q⟩ => ?_⟩
  · subst ed
    cases rv
    exact ⟨rfl, .ref y, O2, F', s1.trans s2, r2.go (r2.o.comp hs c t) s2, .ref y, q⟩
  · exact ⟨C, dd, fs, fvs, O2, F', e1, e2, e3, ra, r2.o.comp hs c t, q⟩
end
end K12
/-! A9: what a loop walks. -/
namespace K12
open PySem PySem.Spec PyProof.Rows L2

/-! ### enumerate and zip over a list or a tuple each -/
def SqA (t : Bool) (K : PySem.W.Frag) (H : Hp) (a : Addr) (xs : List V) : Prop := match t with
  | true => SqT K H a xs
  | false => SqL K H a xs
def ItA (t : Bool) (h : Heap) (it a : Addr) (i : Nat) : Prop := match t with
  | true => h.IsTupleIter it a i
  | false => h.IsListIter it a i
def IsA (t : Bool) (h : Heap) (a : Addr) (its : Array Value) : Prop := match t with
  | true => h.IsTuple a its
  | false => h.IsList a its
def obA (t : Bool) (a : Addr) : Obj := match t with
  | true => { cls := .type "tuple_iterator", data := .fields #[.ref a, .int 0 0] }
  | false => { cls := .type "list_iterator", data := .fields #[.ref a, .int 0 0] }
theorem begA (t : Bool) (a : Addr) (its : Array Value) : Begins (.ref a) (obA t a) fun h => IsA t h a its := by
  cases t
  · exact begins_list a its
  · exact begins_tuple a its
theorem drawsA {prog : Program} {w : World} {A : Around} (hh : A.handled = none) (t : Bool) (it a : Addr) (hne : a ≠ it) (its : Array Value) :
    Draws prog w A it [it, a] its.size (fun i v => its[i]? = some v) (fun i h => ItA t h it a i ∧ IsA t h a its) := by
  cases t
  · exact Draws.list hh it a hne its
  · exact Draws.tuple hh it a hne its
theorem ItA.obj {t : Bool} {h : Heap} {it a : Addr} {i : Nat} (x : ItA t h it a i) : ∃ o, h.get? it = some o ∧ ∀ v, o.data ≠ .cell v := by
  cases t
  · obtain ⟨o, e, c, d⟩ := x
    exact ⟨o, e, fun v z => by rw [d] at z; cases z⟩
  · obtain ⟨o, e, c, d⟩ := x
    exact ⟨o, e, fun v z => by rw [d] at z; cases z⟩
theorem ItA.at {t : Bool} {h h' : Heap} {it a : Addr} {i : Nat} (x : ItA t h it a i) (k : ∀ o, h.get? it = some o → h'.get? it = some o) : ItA t h' it a i := by
  cases t
  · exact Heap.IsListIter.at x k
  · exact Heap.IsTupleIter.at x k
theorem ItA.start {t : Bool} {h : Heap} {it a : Addr} (x : h.get? it = some (obA t a)) : ItA t h it a 0 := by
  cases t
  · exact ⟨_, x, rfl, rfl⟩
  · exact ⟨_, x, rfl, rfl⟩
section
variable {X : Cx} {pins : List (Addr × Obj)} {σ : L2.St} {H : Hp} {s : Shared} {t : Bool} {a : Addr} {xs ys : List V}
theorem sqa_of (I : Inv X pins σ H s) (h : SqA t X.K H a xs) : ∃ its : List Value, Vals xs its ∧ IsA t s.heap a its.toArray := by
  cases t
  · obtain ⟨its, rv, p, _⟩ := I.list h
    exact ⟨its, rv, p.isList⟩
  · obtain ⟨its, rv, p, _⟩ := I.tuple h
    exact ⟨its, rv, p⟩
theorem sqa_inj (I : Inv X pins σ H s) (h : SqA t X.K H a xs) (h' : SqA t X.K H a ys) : xs = ys := by
  cases t
  · exact I.list_inj h h'
  · exact I.tuple_inj h h'
end
theorem meets_enum1 {v : Value} {o : Obj} {H : Heap → Prop} (B : Begins v o H) :
    Meets (Builtin.«enumerate.__new__» ⟨[.type "enumerate", v], []⟩) (fun _ R s => H s.heap ∧
      R (.ok (.ret (.ref (s.heap.push o).objs.size))) { s with heap := (s.heap.push o).push { cls := .type "enumerate", data := .fields #[.none, .bool false, .ref s.heap.objs.size, rawInt 0, .none, .none] } }) :=
  .of_wp fun prog w A R s h => by
    obtain ⟨hp, g, d, tk, os⟩ := s; obtain ⟨h1, h⟩ := h
    have hsub := sub_enumerate
    have q1 : ∀ {A' : Around} {E : Value → Shared → Prop} {Q : Value → Shared → Prop}, Q (.ref hp.objs.size) ⟨hp.push o, g, d, tk, os⟩ → wpAny (model prog w) A' (pyIter v) Q E ⟨hp, g, d, tk, os⟩ :=
      fun q => B.iter prog w _ _ ⟨hp, g, d, tk, os⟩ _ h1 q
    wp_walk using q1
    refine wpAny_stack_any fun st => wpAny_pure ?_
    split
    · rename_i c _ _ _ _ _
      cases (c == Value.type "enumerate")
      · wp_walk using q1
        exact ⟨_, rfl, h⟩
      · wp_walk using q1
        exact ⟨_, rfl, h⟩
    · wp_walk using q1
      exact ⟨_, rfl, h⟩
theorem enum1 {prog : Program} {w : World} {A : Around} {E : Value → Shared → Prop} {s : Shared} {v : Value} {o : Obj} {H : Heap → Prop} {Q : Value → Shared → Prop} (B : Begins v o H) (h1 : H s.heap)
    (h : ∀ h', IsEnum h' (s.heap.objs.size + 1) s.heap.objs.size 0 .none → h'.get? s.heap.objs.size = some o → h'.objs.size = s.heap.objs.size + 2 →
      (∀ b o, s.heap.get? b = some o → h'.get? b = some o) → Q (.ref (s.heap.objs.size + 1)) { s with heap := h' }) :
    wpAny (model prog w) A (call (.type "enumerate") [v]) Q E s := by
  refine callType_new F.called_enumerate (by decide) (F.typeCall_enumerate_1 _) (F.newCall_enumerate_1 _) (fun obj => F.args_object_init_2 obj _) F.entry_enumerate_new
    (meets_enum1 B) ⟨h1, ?_⟩
  have hz : (s.heap.push o).objs.size = s.heap.objs.size + 1 := Heap.size_push ..
  show _ ∧ _
  rw [hz]
  have he : IsEnum ((s.heap.push o).push { cls := .type "enumerate", data := .fields #[.none, .bool false, .ref s.heap.objs.size, rawInt 0, .none, .none] }) (s.heap.objs.size + 1) s.heap.objs.size 0 .none := by
    have := Heap.get?_push_size (s.heap.push o) (o := { cls := .type "enumerate", data := .fields #[.none, .bool false, .ref s.heap.objs.size, rawInt 0, .none, .none] }) rfl
    rw [hz] at this; exact this
  exact ⟨⟨_, he, rfl⟩, h _ he (Heap.get?_push_of_some _ (Heap.get?_push_size _ B.free)) (by rw [Heap.size_push, hz]) fun b o x => Heap.get?_push_of_some _ (Heap.get?_push_of_some _ x)⟩

def ItE (t : Bool) (K : PySem.W.Frag) (a : Addr) : It :=
  ⟨fun i H => ∃ (xs : List V) (x : V), SqA t K H a xs ∧ xs[i]? = some x, fun i H v H' => ∃ T x, v = .ref T ∧ H T = none ∧ H' = L2.upd H T (.tup [.int (i : Nat), x]) ∧ ∀ xs, SqA t K H a xs → xs[i]? = some x, fun i H => ∃ xs : List V, SqA t K H a xs ∧ i = xs.length⟩
theorem turnE {P : Program} {w : World} {K : PySem.W.Frag} {elts : List Expr} {kk : Nat} {tpos : Pos} (t : Bool) (a e it : Addr) (hea : a ≠ e) (hia : a ≠ it) :
    Turn P w K (.Tuple elts kk tpos) (ItE t K a) [e, it] e (fun i h => (∃ old, IsEnum h e it ((i : Nat) : Int) old) ∧ ItA t h it a i ∧ e ≠ it) where
  mem := by simp
  obj := fun i h st b hb => by
    obtain ⟨⟨old, he⟩, hit, _⟩ := st
    obtain ⟨o, ho, hd⟩ := hit.obj
    have e' : b = e ∨ b = it := by simpa using hb
    rcases e' with z | z
    · rw [z]; exact ⟨_, he, fun v q => nomatch q⟩
    · rw [z]; exact ⟨o, ho, hd⟩
  keep := fun i h h' st k => let ⟨⟨old, he⟩, hi, hne⟩ := st; ⟨⟨old, k e (by simp) _ he⟩, hi.at fun o q => k it (by simp) o q, hne⟩
  item := by
    intro X hP hw hK hc i pins s σ H E I hf st hg
    subst hP hw hK
    obtain ⟨⟨old, he⟩, hit, hne⟩ := st
    obtain ⟨xs, x, hq, hx⟩ := hg
    obtain ⟨its, rv, p⟩ := sqa_of I hq
    obtain ⟨u, hu, ru⟩ := rv.get hx
    have hel : e < s.heap.objs.size := Heap.lt_size he
    have hil : it < s.heap.objs.size := by obtain ⟨_, q, _⟩ := hit.obj; exact Heap.lt_size q
    have hlt : i < its.toArray.size := by
      have := (List.getElem?_eq_some_iff.mp hu).1
      simpa using this
    refine wpAny_pyNext_enum_itemC (drawsA (A := X.A.in1) (I.ok.hd hc) t it a hia its.toArray) he ⟨hit, p⟩ hlt hne (by simp [hne, Ne.symm hea]) fun x1 h' tk hP1 ho hst' hT hsz hk => ?_
    have hx1 : x1 = u := by
      have q : its[i]? = some x1 := by simpa using hP1
      rw [hu] at q
      exact (Option.some.inj q).symm
    subst hx1
    refine ⟨_, rfl, wpAny_letOwnedTupleGo_enum (s := { s with heap := h', toks := tk + 1 }) ho fun h'' he' sb => ?_⟩
    have hT2 : h''.get? s.heap.objs.size = some { cls := .type "tuple", data := .seq #[.int i tk, x1] } := (sb.2 _ (Nat.ne_of_gt hel)).trans hT
    have new : ObjOk X.prog X.w (L2.upd H s.heap.objs.size (.tup [.int (i : Nat), x])) h'' s.heap.objs.size (.tup [.int (i : Nat), x]) :=
      ⟨by show 2 ≤ sizeLine; decide, [.int i tk, x1], .cons ⟨_, rfl⟩ (.cons ru .nil), ⟨_, hT2, rfl, _, rfl⟩⟩
    have I1 : Inv X pins σ (L2.upd H s.heap.objs.size (.tup [.int (i : Nat), x])) { s with heap := h'', toks := tk + 1 } :=
      I.turnedNew (ch := [e, it]) (fun b ob hb q => (sb.2 b (fun z => hb (by simp [z]))).trans (hk b ob (fun z => hb (by simp [z])) (fun z => hb (by simp [z])) q)) hf (Nat.le_refl _) new
    refine ⟨.ref s.heap.objs.size, _, I1, rfl, ⟨_, x, rfl, I.hok.fresh (Nat.le_refl _), rfl, fun ys hy => by rw [sqa_inj I hy hq]; exact hx⟩, ⟨⟨x1, ?_⟩, hst'.1.at fun o q => (sb.2 it (Ne.symm hne)).trans q, hne⟩, fun b hb => ?_⟩
    · have e1 : ((i + 1 : Nat) : Int) = (i : Int) + 1 := by omega
      rw [e1]; exact he'
    · have hb' : b < s.heap.objs.size := by
        have e' : b = e ∨ b = it := by simpa using hb
        rcases e' with z | z
        · rw [z]; exact hel
        · rw [z]; exact hil
      rw [upd_ne (Nat.ne_of_lt hb')]
      exact (hf b hb).1
  done := by
    intro X hP hw hK hc i pins s σ H E I hf st hg
    subst hP hw hK
    obtain ⟨⟨old, he⟩, hit, hne⟩ := st
    obtain ⟨xs, hq, hx⟩ := hg
    obtain ⟨its, rv, p⟩ := sqa_of I hq
    obtain ⟨f0, f1, f2, f3, f4, f5⟩ := hf it (by simp)
    have hl := rv.length
    have hn : i = its.toArray.size := by simp; omega
    subst hn
    exact wpAny_pyNext_enum_endD (drawsA (A := X.A.in1) (I.ok.hd hc) t it a hia its.toArray) he ⟨hit, p⟩ fun h' eb => ⟨rfl, I.turned (t' := s.toks) (fun b o hb q => eb b o hb q) f0 f1 f3 f4 f5⟩
  self := fun A i s Q E st h => let ⟨⟨_, he⟩, _⟩ := st; wpAny_pyIter_enum he h
theorem IsA.lt {t : Bool} {h : Heap} {a : Addr} {its : Array Value} (x : IsA t h a its) : a < h.objs.size := by
  cases t
  · obtain ⟨o, e, _⟩ := x; exact Heap.lt_size e
  · obtain ⟨o, e, _⟩ := x; exact Heap.lt_size e
def iEn (K : PySem.W.Frag) (ta : TA) : TI := fun σ H R => ta σ H fun vs H1 => ∃ t a xs, vs = [.ref a] ∧ SqA t K H1 a xs ∧ R (ItE t K a) H1
theorem pi_en {X : Cx} {e : Expr} {ta : TA} {p pos tpos : Pos} {elts : List Expr} {kk : Nat} (hg : Gl X "enumerate") (hm : X.mg "enumerate" = none) (ha : PA X [e] ta) (hs : starEach [e] X.env = [(false, eval e X.env)] := by rfl) :
    PI X (.Tuple elts kk tpos) (.Call (.Name "enumerate" p) [e] [] pos) (iEn X.K ta) := by
  refine ⟨fun pins s σ H R I h => ?_⟩
  refine Call_ (ld_blt I hg hm boot_enumerate (PyProof.Rows.callWith_type1 (thn (ha.run pos pins s σ H _ I h) fun us s1 ⟨vs, H1, I1, r1, q1⟩ => ?_) hs rfl))
  obtain ⟨t, a, xs, ex, hq, q⟩ := q1
  subst ex
  cases r1 with
  | cons r rr =>
    cases rr
    cases r
    obtain ⟨its, rv, p'⟩ := sqa_of I1 hq
    have hal : a < s1.heap.objs.size := p'.lt
    refine enum1 (begA t a its.toArray) p' fun h' he hit hsz hk => wpAny_pyIter_enum he ?_
    have I2 : Inv X pins σ H1 { s1 with heap := h' } := I1.kept (t' := s1.toks) hk
    refine ⟨s1.heap.objs.size + 1, [s1.heap.objs.size + 1, s1.heap.objs.size], _, _, H1, rfl, I2, turnE t a (s1.heap.objs.size + 1) s1.heap.objs.size (Nat.ne_of_lt (Nat.lt_succ_of_lt hal)) (Nat.ne_of_lt hal), ⟨⟨.none, he⟩, ItA.start hit, Nat.succ_ne_self _⟩, fun b hb => ?_, q⟩
    have e' : b = s1.heap.objs.size + 1 ∨ b = s1.heap.objs.size := by simpa using hb
    have hle : s1.heap.objs.size ≤ b := by
      rcases e' with z | z
      · rw [z]; exact Nat.le_add_right _ _
      · rw [z]; exact Nat.le_refl _
    exact I1.fpOk hle (I1.hok.fresh hle)

def ItZ2 (t1 t2 : Bool) (K : PySem.W.Frag) (a b : Addr) : It :=
  ⟨fun i H => ∃ (xs ys : List V) (x y : V), SqA t1 K H a xs ∧ SqA t2 K H b ys ∧ xs[i]? = some x ∧ ys[i]? = some y,
    fun i H v H' => ∃ T x y, v = .ref T ∧ H T = none ∧ H' = L2.upd H T (.tup [x, y]) ∧ (∀ xs, SqA t1 K H a xs → xs[i]? = some x) ∧ ∀ ys, SqA t2 K H b ys → ys[i]? = some y,
    fun i H => ∃ xs ys : List V, SqA t1 K H a xs ∧ SqA t2 K H b ys ∧ i ≤ xs.length ∧ i ≤ ys.length ∧ (i = xs.length ∨ i = ys.length)⟩
theorem turnZ {P : Program} {w : World} {K : PySem.W.Frag} {elts : List Expr} {kk : Nat} {tpos : Pos} (t1 t2 : Bool) {a b z TI TO i1 i2 : Addr} (D : ZipSep2 z TI TO i1 i2 [i1, a] [i2, b]) (h1a : a ≠ i1) (h2b : b ≠ i2) :
    Turn P w K (.Tuple elts kk tpos) (ItZ2 t1 t2 K a b) [z, TI, TO, i1, i2] z (fun i h => IsZip h z TI TO .none ∧ IsTupOf2 h TI (.ref i1) (.ref i2) ∧ (∃ x y, IsTupOf2 h TO x y) ∧ ItA t1 h i1 a i ∧ ItA t2 h i2 b i) where
  mem := by simp
  obj := fun i h st c hc => by
    obtain ⟨hz, hTI, ⟨x, y, hTO⟩, q1, q2⟩ := st
    obtain ⟨o1, e1, d1⟩ := q1.obj
    obtain ⟨o2, e2, d2⟩ := q2.obj
    have e' : c = z ∨ c = TI ∨ c = TO ∨ c = i1 ∨ c = i2 := by simpa using hc
    rcases e' with q | q | q | q | q
    · rw [q]; exact ⟨_, hz, fun v q => nomatch q⟩
    · rw [q]; exact ⟨_, hTI, fun v q => nomatch q⟩
    · rw [q]; exact ⟨_, hTO, fun v q => nomatch q⟩
    · rw [q]; exact ⟨o1, e1, d1⟩
    · rw [q]; exact ⟨o2, e2, d2⟩
  keep := fun i h h' st k => by
    obtain ⟨hz, hTI, ⟨x, y, hTO⟩, h1, h2⟩ := st
    exact ⟨k z (by simp) _ hz, k TI (by simp) _ hTI, ⟨x, y, k TO (by simp) _ hTO⟩, h1.at fun o q => k i1 (by simp) o q, h2.at fun o q => k i2 (by simp) o q⟩
  item := by
    intro X hP hw hK hc i pins s σ H E I hf st hg
    subst hP hw hK
    obtain ⟨hz, hTI, ⟨x0, y0, hTO⟩, h1, h2⟩ := st
    obtain ⟨xs, ys, x, y, hqx, hqy, hx, hy⟩ := hg
    obtain ⟨its, rv, p⟩ := sqa_of I hqx
    obtain ⟨its2, rv2, p2⟩ := sqa_of I hqy
    obtain ⟨u, hu, ru⟩ := rv.get hx
    obtain ⟨u2, hu2, ru2⟩ := rv2.get hy
    have hzl : z < s.heap.objs.size := Heap.lt_size hz
    have l1 : i < its.toArray.size := by
      have := (List.getElem?_eq_some_iff.mp hu).1
      simpa using this
    have l2 : i < its2.toArray.size := by
      have := (List.getElem?_eq_some_iff.mp hu2).1
      simpa using this
    refine wpAny_pyNext_zipD2_item D (drawsA (A := X.A.in1) (I.ok.hd hc) t1 i1 a h1a its.toArray) (drawsA (A := X.A.in1) (I.ok.hd hc) t2 i2 b h2b its2.toArray) hz hTI hTO ⟨h1, p⟩ ⟨h2, p2⟩ l1 l2 fun x1 x2 h' tk e1 e2 z' TO' st1 st2 hT hsz hk => ?_
    have q1 : x1 = u := by
      have q : its[i]? = some x1 := by simpa using e1
      rw [hu] at q
      exact (Option.some.inj q).symm
    have q2 : x2 = u2 := by
      have q : its2[i]? = some x2 := by simpa using e2
      rw [hu2] at q
      exact (Option.some.inj q).symm
    subst q1 q2
    refine ⟨_, rfl, wpAny_letOwnedTupleGo_zip (s := { s with heap := h', toks := tk }) z' fun h'' z'' sb => ?_⟩
    have hT2 : h''.get? s.heap.objs.size = some { cls := .type "tuple", data := .seq #[x1, x2] } := (sb.2 _ (Nat.ne_of_gt hzl)).trans hT
    have new : ObjOk X.prog X.w (L2.upd H s.heap.objs.size (.tup [x, y])) h'' s.heap.objs.size (.tup [x, y]) :=
      ⟨by show 2 ≤ sizeLine; decide, [x1, x2], .cons ru (.cons ru2 .nil), ⟨_, hT2, rfl, _, rfl⟩⟩
    have kk : ∀ c o, c ≠ z → c ≠ TO → c ≠ i1 → c ≠ i2 → s.heap.get? c = some o → h''.get? c = some o := fun c o n1 n2 n3 n4 q => (sb.2 c n1).trans (hk c o n1 n2 n3 n4 q)
    have I1 : Inv X pins σ (L2.upd H s.heap.objs.size (.tup [x, y])) { s with heap := h'', toks := tk } :=
      I.turnedNew (ch := [z, TI, TO, i1, i2]) (fun c o hb q => kk c o (fun q' => hb (by simp [q'])) (fun q' => hb (by simp [q'])) (fun q' => hb (by simp [q'])) (fun q' => hb (by simp [q'])) q) hf (Nat.le_refl _) new
    refine ⟨.ref s.heap.objs.size, _, I1, rfl, ⟨_, x, y, rfl, I.hok.fresh (Nat.le_refl _), rfl, fun l hl => by rw [sqa_inj I hl hqx]; exact hx, fun l hl => by rw [sqa_inj I hl hqy]; exact hy⟩, ⟨z'', ?_, ⟨x1, x2, ?_⟩, ?_, ?_⟩, fun c hcm => ?_⟩
    · exact kk _ _ D.TIz D.TITO D.TIi1 D.TIi2 hTI
    · exact (sb.2 _ D.TOz).trans TO'
    · exact st1.1.at fun o q => (sb.2 _ (Ne.symm D.zi1)).trans q
    · exact st2.1.at fun o q => (sb.2 _ (Ne.symm D.zi2)).trans q
    · have hlt : c < s.heap.objs.size := by
        have e' : c = z ∨ c = TI ∨ c = TO ∨ c = i1 ∨ c = i2 := by simpa using hcm
        rcases e' with q | q | q | q | q
        · rw [q]; exact hzl
        · rw [q]; exact Heap.lt_size hTI
        · rw [q]; exact Heap.lt_size hTO
        · rw [q]; obtain ⟨_, e1, _⟩ := h1.obj; exact Heap.lt_size e1
        · rw [q]; obtain ⟨_, e2, _⟩ := h2.obj; exact Heap.lt_size e2
      rw [upd_ne (Nat.ne_of_lt hlt)]
      exact (hf c hcm).1
  done := by
    intro X hP hw hK hc i pins s σ H E I hf st hg
    subst hP hw hK
    obtain ⟨hz, hTI, ⟨x0, y0, hTO⟩, h1, h2⟩ := st
    obtain ⟨xs, ys, hqx, hqy, le1, le2, hend⟩ := hg
    obtain ⟨its, rv, p⟩ := sqa_of I hqx
    obtain ⟨its2, rv2, p2⟩ := sqa_of I hqy
    have l1 := rv.length
    have l2 := rv2.length
    refine wpAny_pyNext_zipD2_end D (drawsA (A := X.A.in1) (I.ok.hd hc) t1 i1 a h1a its.toArray) (drawsA (A := X.A.in1) (I.ok.hd hc) t2 i2 b h2b its2.toArray) hz hTI hTO ⟨h1, p⟩ ⟨h2, p2⟩ (by simp; omega) (by simp; omega) (by simp; omega) fun h' tk hk => ⟨rfl, I.turnedL (t' := tk) (ch := [z, TI, TO, i1, i2]) (fun c o hb q =>
      hk c o (fun q' => hb (by simp [q'])) (fun q' => hb (by simp [q'])) (fun q' => hb (by simp [q'])) (fun q' => hb (by simp [q'])) q) hf⟩
  self := fun A i s Q E st h => wpAny_pyIter_zip st.1 h
def iZp (K : PySem.W.Frag) (ta : TA) : TI := fun σ H R => ta σ H fun vs H1 => ∃ t1 t2 a b xs ys, vs = [.ref a, .ref b] ∧ SqA t1 K H1 a xs ∧ SqA t2 K H1 b ys ∧ R (ItZ2 t1 t2 K a b) H1
theorem pi_zp {X : Cx} {e e2 : Expr} {ta : TA} {p pos tpos : Pos} {elts : List Expr} {kk : Nat} (hg : Gl X "zip") (hm : X.mg "zip" = none) (ha : PA X [e, e2] ta)
    (hs : starEach [e, e2] X.env = (false, eval e X.env) :: starEach [e2] X.env := by rfl) (hpl : (backTo pos (starEach [e2] X.env)).any (·.1) = false := by rfl) :
    PI X (.Tuple elts kk tpos) (.Call (.Name "zip" p) [e, e2] [] pos) (iZp X.K ta) := by
  refine ⟨fun pins s σ H R I h => ?_⟩
  refine Call_ (ld_blt I hg hm PyProof.Rows.boot_zip (PyProof.Rows.callWith_type1 (thn (ha.run pos pins s σ H _ I h) fun us s1 ⟨vs, H1, I1, r1, q1⟩ => ?_) hs hpl))
  obtain ⟨t1, t2, a, b, xs, ys, ex, hqx, hqy, q⟩ := q1
  subst ex
  cases r1 with
  | cons r rr =>
    cases rr with
    | cons r' rr =>
      cases rr
      cases r
      cases r'
      have fresh5 : ∀ c, c ∈ [s1.heap.objs.size + 4, s1.heap.objs.size + 2, s1.heap.objs.size + 3, s1.heap.objs.size, s1.heap.objs.size + 1] → FpOk X pins H1 c := fun c hcm => by
        have e' : c = s1.heap.objs.size + 4 ∨ c = s1.heap.objs.size + 2 ∨ c = s1.heap.objs.size + 3 ∨ c = s1.heap.objs.size ∨ c = s1.heap.objs.size + 1 := by simpa using hcm
        have hle : s1.heap.objs.size ≤ c := by
          rcases e' with z | z | z | z | z
          · rw [z]; exact Nat.le_add_right _ _
          · rw [z]; exact Nat.le_add_right _ _
          · rw [z]; exact Nat.le_add_right _ _
          · rw [z]; exact Nat.le_refl _
          · rw [z]; exact Nat.le_add_right _ _
        exact I1.fpOk hle (I1.hok.fresh hle)
      obtain ⟨its, rv, p1⟩ := sqa_of I1 hqx
      obtain ⟨its2, rv2, p2⟩ := sqa_of I1 hqy
      have ha1 := p1.lt
      have hb1 := p2.lt
      refine zip_begins2 (begA t1 a its.toArray) (begA t2 b its2.toArray) p1 p2 fun h' hz hTI hTO h1 h2 hsz hk => wpAny_pyIter_zip hz ?_
      have I2 : Inv X pins σ H1 { s1 with heap := h' } := I1.kept (t' := s1.toks) hk
      exact ⟨s1.heap.objs.size + 4, [s1.heap.objs.size + 4, s1.heap.objs.size + 2, s1.heap.objs.size + 3, s1.heap.objs.size, s1.heap.objs.size + 1], _, _, H1, rfl, I2,
        turnZ t1 t2 (zip_sep2 (fp1 := [a]) (fp2 := [b]) (by intro c hc; simp at hc; rw [hc]; exact ha1) (by intro c hc; simp at hc; rw [hc]; exact hb1)) (Nat.ne_of_lt ha1) (Nat.ne_of_lt (Nat.lt_succ_of_lt hb1)),
        ⟨hz, hTI, ⟨_, _, hTO⟩, ItA.start h1, ItA.start h2⟩, fresh5, q⟩
end K12
/-! A10: loops, stores. -/
namespace K12
open PySem PySem.Spec PyProof.Rows L2

/-- what an iterator gives -/
def Src (K : PySem.W.Frag) (J : It) (ds : List D) (F1 : Hp) : Prop :=
  ∀ (N : Ent) (O : Os) (H F : Hp), RepO K N O H F → Same F1 F → ∀ i : Nat, (∀ d, ds[i]? = some d → J.go i H ∧ ∀ x H', J.yld i H x H' → ∃ F', Same F F' ∧ RepO K N O H' F' ∧ Rp K F' x d) ∧ (i = ds.length → J.stop i H)
def AI (X : Cx) (N : Ent) (tg iter : Expr) (R : Rho) (O : Os) (k : List D → Os → Prop) : Prop := ∀ σ H F, RepS X N R O σ H F →
  ∀ Rw : It → Hp → Prop, (∀ J H1 ds O1 F1, Same F F1 → RepS X N R O1 σ H1 F1 → Src X.K J ds F1 → k ds O1 → Rw J H1) → ∃ wi, PI X tg iter wi ∧ wi σ H Rw
section
variable {X : Cx} {N : Ent} {R R' : Rho} {O O1 O' : Os} {E : AEnds} {tg e e2 a b o i : Expr} {body rest : List Stmt} {es : List Expr} {pos p p2 apos cpos : Pos} {x f : Str} {d d1 d2 : D} {k : List D → Os → Prop}

theorem src_list {K : PySem.W.Frag} {a : Addr} {xs : List V} {ds : List D} {F1 : Hp} (h : F1 a = some (.lst xs)) (r : RpL K F1 xs ds) : Src K (Itl K a) ds F1 := fun N O H F ro sF i => by
  have hq : SqL K H a xs := SqL.of (ro.ex _ _ (sF _ _ h))
  refine ⟨fun d hd => ?_, fun e => ⟨xs, hq, by rw [r.len, e]; exact Nat.le_refl _⟩⟩
  obtain ⟨v, hv, rv⟩ := r.get hd
  refine ⟨⟨xs, v, hq, hv⟩, fun x H' y => ?_⟩
  obtain ⟨e, y⟩ := y
  subst e
  have q := y xs hq
  rw [hv] at q
  cases q
  exact ⟨F, Same.refl _, ro, rv.mono sF⟩
theorem src_tup {K : PySem.W.Frag} {a : Addr} {xs : List V} {ds : List D} {F1 : Hp} (h : SqT K F1 a xs) (r : RpL K F1 xs ds) : Src K (Itt K a) ds F1 := fun N O H F ro sF i => by
  have hq : SqT K H a xs := same_t (sF.trans ro.ex) h
  refine ⟨fun d hd => ?_, fun e => ⟨xs, hq, by rw [r.len, e]; exact Nat.le_refl _⟩⟩
  obtain ⟨v, hv, rv⟩ := r.get hd
  refine ⟨⟨xs, v, hq, hv⟩, fun x H' y => ?_⟩
  obtain ⟨e, y⟩ := y
  subst e
  have q := y xs hq
  rw [hv] at q
  cases q
  exact ⟨F, Same.refl _, ro, rv.mono sF⟩
/-- over a list (never written again), a tuple -/
theorem ai_lst (h : AE X N e R O fun d O1 => ∃ ds, d = .lst ds ∧ k ds O1) : AI X N tg e R O k := fun σ H F r Rw hR =>
  ⟨_, pi_list peM, (h σ H F r).imp fun v H1 ⟨d, O1, F1, s1, r1, p1, ds, ed, q⟩ => by
    subst ed
    cases p1 with
    | lst h1 l1 => exact ⟨_, rfl, ⟨_, SqL.of (r1.o.ex _ _ h1)⟩, hR _ _ ds O1 F1 s1 r1 (src_list h1 l1) q⟩⟩
theorem ai_tup (h : AE X N e R O fun d O1 => ∃ ds, d = .tup ds ∧ k ds O1) : AI X N tg e R O k := fun σ H F r Rw hR =>
  ⟨_, pi_tup peM, (h σ H F r).imp fun v H1 ⟨d, O1, F1, s1, r1, p1, ds, ed, q⟩ => by
    subst ed
    cases p1 with
    | tup h1 l1 => exact ⟨_, rfl, ⟨_, same_t r1.o.ex h1⟩, hR _ _ ds O1 F1 s1 r1 (src_tup h1 l1) q⟩⟩
def chars (x : Str) : List D := x.cps.toList.map fun c => .str ⟨#[c]⟩
theorem ai_str {x : Str} (h : AE X N e R O fun d O1 => d = .str x ∧ k (chars x) O1) : AI X N tg e R O k := fun σ H F r Rw hR =>
  ⟨_, pi_str peM, (h σ H F r).imp fun v H1 ⟨d, O1, F1, s1, r1, p1, ed, q⟩ => by
    subst ed
    cases p1
    refine ⟨x, rfl, hR _ _ (chars x) O1 F1 s1 r1 (fun N' O' H' F' ro sF i => ⟨fun d hd => ?_, fun e => ?_⟩) q⟩
    · unfold chars at hd
      rw [List.getElem?_map] at hd
      obtain ⟨c, hc, ed⟩ := Option.map_eq_some_iff.mp hd
      have hc' : x.cps[i]? = some c := by rw [← Array.getElem?_toList]; exact hc
      refine ⟨(Array.getElem?_eq_some_iff.mp hc').1, fun w H'' ⟨e1, c', h1, h2⟩ => ?_⟩
      rw [hc'] at h1
      cases h1
      subst e1 h2 ed
      exact ⟨F', Same.refl _, ro, .str _⟩
    · unfold chars at e
      rw [List.length_map, Array.length_toList] at e
      exact Nat.le_of_eq e.symm⟩
def nats (n : Nat) : List D := (List.range n).map fun i => .int (i : Nat)
theorem src_range {K : PySem.W.Frag} {n : Nat} {F1 : Hp} : Src K (Itr 0 n) (nats n) F1 := fun N O H F ro sF i => by
  refine ⟨fun d hd => ?_, fun e => ?_⟩
  · unfold nats at hd
    rw [List.getElem?_map] at hd
    obtain ⟨c, hc, ed⟩ := Option.map_eq_some_iff.mp hd
    have hlt : i < n := by
      have := (List.getElem?_eq_some_iff.mp hc).1
      simpa using this
    have ec : c = i := by
      rw [List.getElem?_range hlt] at hc
      exact (Option.some.inj hc).symm
    subst ec
    refine ⟨hlt, fun x H' ⟨e1, e2⟩ => ?_⟩
    subst e1 e2 ed
    have e3 : (0 : Int) + (c : Nat) = (c : Nat) := Int.zero_add _
    rw [e3]
    exact ⟨F, Same.refl _, ro, .int _⟩
  · unfold nats at e
    rw [List.length_map, List.length_range] at e
    exact Nat.le_of_eq e.symm
theorem ai_range {n : Nat} (hg : Gl X "range") (hm : X.mg "range" = none) (h : AE X N e R O fun d O1 => d = .int (n : Nat) ∧ n < 4611686018427387904 ∧ k (nats n) O1) (hs : starEach [e] X.env = (false, eval e X.env) :: starEach [] X.env := by rfl) :
    AI X N tg (.Call (.Name "range" p) [e] [] pos) R O k := fun σ H F r Rw hR =>
  ⟨_, pi_range1 hg hm (pa_cons peM pa_nil hs) hs, (h σ H F r).imp fun v H1 ⟨d, O1, F1, s1, r1, p1, ed, hn, q⟩ => by
    subst ed
    cases p1
    exact ⟨(n : Int), rfl, by omega, by omega, hR _ _ (nats n) O1 F1 s1 r1 src_range q⟩⟩
theorem sq_a {t : Bool} {K : PySem.W.Frag} {H F : Hp} {v : V} {d : D} {ds : List D} (r : Same F H) (h : Rp K F v d) (hd : d = .lst ds ∨ d = .tup ds) : ∃ t a xs, v = .ref a ∧ SqA t K F a xs ∧ RpL K F xs ds ∧ ∀ H, Same F H → SqA t K H a xs := by
  rcases hd with e | e
  · subst e
    cases h with
    | lst h1 l1 => exact ⟨false, _, _, rfl, SqL.of h1, l1, fun H e => SqL.of (e _ _ h1)⟩
  · subst e
    cases h with
    | tup h1 l1 => exact ⟨true, _, _, rfl, h1, l1, fun H e => same_t e h1⟩
/-- pairs of places and items -/
def enums : Nat → List D → List D
  | _, [] => []
  | n, d :: ds => .tup [.int (n : Nat), d] :: enums (n + 1) ds
theorem enums_len : ∀ {n : Nat} {ds : List D}, (enums n ds).length = ds.length
  | _, [] => rfl
  | n, _ :: ds => congrArg (· + 1) (enums_len (n := n + 1) (ds := ds))
theorem enums_get : ∀ {n i : Nat} {ds : List D} {d : D}, (enums n ds)[i]? = some d → ∃ y, ds[i]? = some y ∧ d = .tup [.int ((n + i : Nat) : Int), y]
  | _, _, [], _, h => by simp [enums] at h
  | n, 0, y :: ds, d, h => by
    simp [enums] at h
    exact ⟨y, rfl, by rw [← h]; rfl⟩
  | n, i + 1, _ :: ds, d, h => by
    obtain ⟨y, h1, h2⟩ := enums_get (n := n + 1) (i := i) (ds := ds) (d := d) (by simpa [enums] using h)
    refine ⟨y, by simpa using h1, ?_⟩
    rw [h2]
    have e : n + 1 + i = n + (i + 1) := by omega
    rw [e]
theorem ai_enum {elts : List Expr} {kk : Nat} {tpos : Pos} (hg : Gl X "enumerate") (hm : X.mg "enumerate" = none) (h : AE X N e R O fun d O1 => ∃ ds, (d = .lst ds ∨ d = .tup ds) ∧ k (enums 0 ds) O1) (hs : starEach [e] X.env = (false, eval e X.env) :: starEach [] X.env := by rfl) :
    AI X N (.Tuple elts kk tpos) (.Call (.Name "enumerate" p) [e] [] pos) R O k := fun σ H F r Rw hR =>
  ⟨_, pi_en hg hm (pa_cons peM pa_nil hs) hs, (h σ H F r).imp fun v H1 ⟨d, O1, F1, s1, r1, p1, ds, hd, q⟩ => by
    obtain ⟨t, a, xs, ev, h1, l1, hH⟩ := sq_a (t := true) r1.o.ex p1 hd
    subst ev
    refine ⟨t, a, xs, rfl, hH _ r1.o.ex, hR _ _ (enums 0 ds) O1 F1 s1 r1 (fun N' O' H' F' ro sF i => ⟨fun d hd => ?_, fun e => ?_⟩) q⟩
    · obtain ⟨y, hy, ed⟩ := enums_get hd
      obtain ⟨w, hw, rw'⟩ := l1.get hy
      have hq := hH H' (sF.trans ro.ex)
      refine ⟨⟨xs, w, hq, hw⟩, fun z H'' ⟨T, x, e1, e2, e3, e4⟩ => ?_⟩
      have e5 := e4 xs hq
      rw [hw] at e5
      cases e5
      subst e1 e3 ed
      refine ⟨_, same_new (ro.fr e2) _, ro.frz e2 _, .tup (SqT.of upd_same) ?_⟩
      rw [Nat.zero_add]
      exact .cons (.int _) (.cons ((rw'.mono sF).mono (same_new (ro.fr e2) _)) .nil)
    · rw [enums_len] at e
      exact ⟨xs, hH H' (sF.trans ro.ex), by rw [l1.len, e]⟩⟩
def zips : List D → List D → List D
  | x :: xs, y :: ys => .tup [x, y] :: zips xs ys
  | _, _ => []
theorem zips_get : ∀ {xs ys : List D} {i : Nat} {d : D}, (zips xs ys)[i]? = some d → ∃ x y, xs[i]? = some x ∧ ys[i]? = some y ∧ d = .tup [x, y]
  | [], _, _, _, h => by simp [zips] at h
  | _ :: _, [], _, _, h => by simp [zips] at h
  | x :: xs, y :: ys, 0, d, h => by
    simp [zips] at h
    exact ⟨x, y, rfl, rfl, h.symm⟩
  | _ :: xs, _ :: ys, i + 1, d, h => by
    obtain ⟨x, y, h1, h2, h3⟩ := zips_get (xs := xs) (ys := ys) (i := i) (d := d) (by simpa [zips] using h)
    exact ⟨x, y, by simpa using h1, by simpa using h2, h3⟩
theorem zips_len : ∀ {xs ys : List D}, (zips xs ys).length ≤ xs.length ∧ (zips xs ys).length ≤ ys.length ∧ ((zips xs ys).length = xs.length ∨ (zips xs ys).length = ys.length)
  | [], _ => ⟨Nat.le_refl _, Nat.zero_le _, .inl rfl⟩
  | _ :: _, [] => ⟨Nat.zero_le _, Nat.le_refl _, .inr rfl⟩
  | _ :: xs, _ :: ys => by
    obtain ⟨h1, h2, h3⟩ := zips_len (xs := xs) (ys := ys)
    simp only [zips, List.length_cons]
    omega
theorem ai_zip {elts : List Expr} {kk : Nat} {tpos : Pos} (hg : Gl X "zip") (hm : X.mg "zip" = none) (h : AE X N e R O fun d1 O1 => AE X N e2 R O1 fun d2 O2 => ∃ ds es, (d1 = .lst ds ∨ d1 = .tup ds) ∧ (d2 = .lst es ∨ d2 = .tup es) ∧ k (zips ds es) O2)
    (hs : starEach [e, e2] X.env = (false, eval e X.env) :: starEach [e2] X.env := by rfl) (hs2 : starEach [e2] X.env = (false, eval e2 X.env) :: starEach [] X.env := by rfl) (hpl : (backTo pos (starEach [e2] X.env)).any (·.1) = false := by rfl) :
    AI X N (.Tuple elts kk tpos) (.Call (.Name "zip" p) [e, e2] [] pos) R O k := fun σ H F r Rw hR =>
  ⟨_, pi_zp hg hm (pa_cons peM (pa_cons peM pa_nil hs2) hs) hs hpl, (h σ H F r).imp fun v H1 ⟨d1, O1, F1, s1, r1, p1, q1⟩ => (q1 σ H1 F1 r1).imp fun u H2 ⟨d2, O2, F2, s2, r2, p2, ds, es, hd1, hd2, q⟩ => by
    obtain ⟨t, a, xs, ev, h1, l1, hH⟩ := sq_a (t := true) r2.o.ex (p1.mono s2) hd1
    obtain ⟨t', a', xs', ev', h1', l1', hH'⟩ := sq_a (t := true) r2.o.ex p2 hd2
    subst ev ev'
    refine ⟨t, t', a, a', xs, xs', rfl, hH _ r2.o.ex, hH' _ r2.o.ex, hR _ _ (zips ds es) O2 F2 (s1.trans s2) r2 (fun N' O' H' F' ro sF i => ⟨fun d hd => ?_, fun e => ?_⟩) q⟩
    · obtain ⟨x, y, hx, hy, ed⟩ := zips_get hd
      obtain ⟨w, hw, rw'⟩ := l1.get hx
      obtain ⟨w2, hw2, rw2⟩ := l1'.get hy
      have hq := hH H' (sF.trans ro.ex)
      have hq2 := hH' H' (sF.trans ro.ex)
      refine ⟨⟨xs, xs', w, w2, hq, hq2, hw, hw2⟩, fun z H'' ⟨T, x, y, e1, e2, e3, e4, e5⟩ => ?_⟩
      have e6 := e4 xs hq
      have e7 := e5 xs' hq2
      rw [hw] at e6
      rw [hw2] at e7
      cases e6
      cases e7
      subst e1 e3 ed
      exact ⟨_, same_new (ro.fr e2) _, ro.frz e2 _, .tup (SqT.of upd_same) (.cons ((rw'.mono sF).mono (same_new (ro.fr e2) _)) (.cons ((rw2.mono sF).mono (same_new (ro.fr e2) _)) .nil))⟩
    · obtain ⟨z1, z2, z3⟩ := zips_len (xs := ds) (ys := es)
      have g1 := l1.len
      have g2 := l1'.len
      exact ⟨xs, xs', hH H' (sF.trans ro.ex), hH' H' (sF.trans ro.ex), by omega, by omega, by omega⟩⟩

/-! ### for -/
def gM (X : Cx) (tg : Expr) : TG := fun v σ H Q => ∀ pins s u, Inv X pins σ H s → RelV v u → wpAny (model X.prog X.w) X.A (assign tg X.env u) (fun _ s' => ∃ σ' H', Inv X pins σ' H' s' ∧ Q σ' H') X.xe s
theorem pgM : PG X tg (gM X tg) := ⟨fun pins s σ H v u Q I r h => h pins s u I r⟩
theorem AG.run {d : D} {k : Rho → Prop} (h : AG X tg d R k) {σ : L2.St} {H F : Hp} {v : V} (r : RepS X N R O σ H F) (rp : Rp X.K F v d) : gM X tg v σ H fun σ' H' => H' = H ∧ ∃ R', RepS X N R' O σ' H F ∧ k R' := fun pins s u I rv =>
  thn (h N O pins s σ H F v u r rp I rv) fun _ s' ⟨σ', H', I', e, R', r', q⟩ => ⟨σ', H', I', e, R', r', q⟩
/-- the turns of a loop, one by one -/
def LoopA (X : Cx) (N : Ent) (tg : Expr) (body : List Stmt) (E : AEnds) : List D → Rho → Os → Prop
  | [], R, O => E.nx R O
  | d :: ds, R, O => AG X tg d R fun R1 => ASs X N body R1 O { nx := fun R2 O2 => LoopA X N tg body E ds R2 O2, rt := E.rt, bk := E.nx, ct := fun R2 O2 => LoopA X N tg body E ds R2 O2 }
theorem as_for (hp : PassesOwn (model X.prog X.w) X.A X.env X.xe) (hc : X.calm = true) (h : AI X N tg e R O fun ds O1 => LoopA X N tg body E ds R O1)
    (hs : ∀ x, foldedSetIterable e X.env x = pure x := by intro _; rfl) : AS X N (.For tg e body [] pos) R O E := fun σ H F r => by
  refine tMs.of (t := fun E' σ' H' => ∃ wi, PI X tg e wi ∧ tFor wi (gM X tg) (tMb X body) E' σ' H') ⟨fun pins s σ' H' D' I ⟨wi, hi, q⟩ => (ps_for hp hc hi pgM pssM hs).run pins s σ' H' D' I q⟩ (h σ H F r _ fun J H1 ds O1 F1 s1 r1 src q => ?_)
  refine ⟨fun i m σ' H' => ∃ R' O' F', Same F1 F' ∧ RepS X N R' O' σ' H' F' ∧ m = ds.length - i ∧ i ≤ ds.length ∧ LoopA X N tg body E (ds.drop i) R' O', ⟨ds.length, R, O1, F1, Same.refl _, r1, rfl, Nat.zero_le _, q⟩, ?_⟩
  rintro i m σ' H' ⟨R', O', F', s2, r2, rfl, hi, q2⟩
  by_cases hlt : i < ds.length
  · have hd : ds[i]? = some ds[i] := List.getElem?_eq_getElem hlt
    obtain ⟨go, hy⟩ := (src N O' H' F' r2.o s2 i).1 _ hd
    refine .inr ⟨go, fun σ3 H3 => ∃ R3 O3 F3, Same F1 F3 ∧ RepS X N R3 O3 σ3 H3 F3 ∧ LoopA X N tg body E (ds.drop (i + 1)) R3 O3, fun σ3 H3 ⟨R3, O3, F3, s3, r3, q3⟩ => ⟨ds.length - (i + 1), by omega, R3, O3, F3, s3, r3, rfl, hlt, q3⟩, fun x H3 y => ?_⟩
    obtain ⟨F3, s3, ro3, rp3⟩ := hy x H3 y
    have r3 : RepS X N R' O' σ' H3 F3 := r2.go ro3 s3
    rw [List.drop_eq_getElem_cons hlt] at q2
    intro pins st u I rv
    refine thn (AG.run q2 r3 rp3 pins st u I rv) fun _ st' ⟨σ4, H4, I4, e4, R4, r4, q4⟩ => ⟨σ4, H4, I4, ?_⟩
    subst e4
    refine (q4 σ4 _ F3 r4).imp (fun σ5 H5 ⟨R5, O5, F5, s5, r5, q5⟩ => ⟨R5, O5, F5, (s2.trans s3).trans s5, r5, q5⟩) (fun v H5 z => QR.more ((s1.trans s2).trans s3) z) (fun σ5 H5 z => QN.more ((s1.trans s2).trans s3) z) (fun σ5 H5 ⟨R5, O5, F5, s5, r5, q5⟩ => ⟨R5, O5, F5, (s2.trans s3).trans s5, r5, q5⟩)
  · have e : i = ds.length := by omega
    subst e
    rw [List.drop_length] at q2
    exact .inl ⟨(src N O' H' F' r2.o s2 _).2 rfl, R', O', F', s1.trans s2, r2, q2⟩
/-! ### while -/
/-- with a measure -/
theorem as_while {c : Expr} (W : Nat → Rho → Os → Prop) (n : Nat) (hp : PassesOwn (model X.prog X.w) X.A X.env X.xe) (h0 : W n R O)
    (h : ∀ n R O, W n R O → AT X N c R O fun k O1 => if k = true then ASs X N body R O1 { nx := fun R2 O2 => ∃ m, m < n ∧ W m R2 O2, rt := E.rt, bk := E.nx, ct := fun R2 O2 => ∃ m, m < n ∧ W m R2 O2 } else E.nx R O1) :
    AS X N (.While c body [] pos) R O E := fun σ H F r => by
  refine tMs.of (ps_while hp ptM pssM) ⟨fun m σ' H' => ∃ R' O' F', Same F F' ∧ RepS X N R' O' σ' H' F' ∧ W m R' O', ⟨n, R, O, F, Same.refl _, r, h0⟩, ?_⟩
  rintro m σ' H' ⟨R', O', F', s1, r1, w⟩
  refine (h m R' O' w σ' H' F' r1).imp fun b H2 ⟨O2, F2, s2, r2, q2⟩ => ?_
  cases b with
  | true =>
    rw [if_pos rfl] at q2 ⊢
    refine ⟨fun σ3 H3 => ∃ m' R3 O3 F3, m' < m ∧ Same F F3 ∧ RepS X N R3 O3 σ3 H3 F3 ∧ W m' R3 O3, fun σ3 H3 ⟨m', R3, O3, F3, l, s3, r3, w3⟩ => ⟨m', l, R3, O3, F3, s3, r3, w3⟩, ?_⟩
    exact (q2 σ' H2 F2 r2).imp (fun σ3 H3 ⟨R3, O3, F3, s3, r3, m', l, w3⟩ => ⟨m', R3, O3, F3, l, (s1.trans s2).trans s3, r3, w3⟩) (fun v H5 z => QR.more (s1.trans s2) z) (fun σ5 H5 z => QN.more (s1.trans s2) z) (fun σ3 H3 ⟨R3, O3, F3, s3, r3, m', l, w3⟩ => ⟨m', R3, O3, F3, l, (s1.trans s2).trans s3, r3, w3⟩)
  | false =>
    rw [if_neg Bool.false_ne_true] at q2 ⊢
    exact ⟨R', O2, F2, s1.trans s2, r2, q2⟩
end
end K12
/-! A11: stores; an object that is never written again. -/
namespace K12
open PySem PySem.Spec PyProof.Rows L2

/-! ### fields -/
def putA {α : Type} (f : Str) (v : α) : List (Str × α) → List (Str × α)
  | [] => [(f, v)]
  | (g, x) :: r => if g = f then (g, v) :: r else (g, x) :: putA f v r
theorem putA_put {f : Str} {v : V} : ∀ {fs : List (Str × V)}, putF f v fs = putA f v fs
  | [] => rfl
  | (g, x) :: r => by unfold putF putA; rw [putA_put]
theorem putA_len {α : Type} {f : Str} {v : α} : ∀ {fs : List (Str × α)}, (putA f v fs).length ≤ fs.length + 1
  | [] => Nat.le_refl _
  | (g, x) :: r => by
    unfold putA
    split
    · exact Nat.le_succ _
    · exact Nat.succ_le_succ putA_len
theorem RpA.putF {K : PySem.W.Frag} {F : Hp} {f : Str} {v : V} {d : D} (h : Rp K F v d) : ∀ {fs : List (Str × V)} {ds : List (Str × D)}, RpA K F fs ds → RpA K F (putA f v fs) (putA f d ds)
  | _, _, .nil => .cons h .nil
  | _, _, @RpA.cons _ _ _ g x y vs ds q r => by
    unfold putA
    by_cases e : g = f
    · rw [if_pos e, if_pos e]; exact .cons h r
    · rw [if_neg e, if_neg e]; exact .cons q (RpA.putF h r)

section
variable {X : Cx} {N : Ent} {R R' : Rho} {O O1 O' : Os} {E : AEnds} {tg e e2 a b o i v : Expr} {body rest : List Stmt} {es : List Expr} {pos pos' p p2 apos cpos tpos : Pos} {x f : Str} {d d1 d2 : D}

theorem as_fld (hv : AE X N v R O fun d1 O1 => AE X N o R O1 fun d2 O2 => ∃ a C fs O3, d2 = .ref a ∧ Cls X.K C ∧ NoAttr X.K C f ∧ U O2 a (.ins C fs) (.ins C (putA f d1 fs)) O3 ∧ fs.length < 1000 ∧ E.nx R O3)
    (hs : swapsWith v (some (.Attribute o f pos')) pos.line X.env = pure false := by rfl) : AS X N (.Assign [.Attribute o f pos'] v pos) R O E := fun σ H F r =>
  tMs.of (ps_fld peM peM hs) ((hv σ H F r).imp fun w H1 ⟨d1, O1, F1, s1, r1, p1, q1⟩ => (q1 σ H1 F1 r1).imp fun u H2 ⟨d2, O2, F2, s2, r2, p2, a, C, fs, O3, e2, c, n, hu, hl, q⟩ => by
    subst e2
    cases p2
    obtain ⟨dx, ws, h2, l2⟩ := (r2.o.ob _ hu.mem).2
    refine ⟨a, C, dx, ws, rfl, h2, c, n, by rw [l2.len]; exact hl, R, O3, F2, s1.trans s2, r2.go (r2.o.upd hu ?_) (Same.refl _), q⟩
    refine ⟨dx, _, upd_same, ?_⟩
    rw [putA_put]
    exact l2.putF (p1.mono s2))
/-- o.f += e, whole numbers -/
theorem as_fldadd (h : AE X N o R O fun d1 O1 => ∃ a C fs i, d1 = .ref a ∧ (a, MO.ins C fs) ∈ O1 ∧ Cls X.K C ∧ NoAttr X.K C f ∧ getA fs f = some (.int i) ∧
      AE X N v R O1 fun d2 O2 => ∃ j fs' O3, d2 = .int j ∧ U O2 a (.ins C fs') (.ins C (putA f (.int (i + j)) fs')) O3 ∧ fs'.length < 1000 ∧ E.nx R O3) :
    AS X N (.AugAssign (.Attribute o f tpos) .Add v pos) R O E := fun σ H F r =>
  tMs.of (ps_fldaug peM peM in_add) ((h σ H F r).imp fun w H1 ⟨d1, O1, F1, s1, r1, p1, a, C, fs, i, e1, hm, c, n, hg, q1⟩ => by
    subst e1
    cases p1
    obtain ⟨dx, ws, h2, l2⟩ := (r1.o.ob _ hm).2
    rcases l2.get f with ⟨z1, z2⟩ | ⟨v', d', z1, z2, z3⟩
    · rw [hg] at z2; cases z2
    rw [hg] at z2
    cases z2
    cases z3
    refine ⟨a, C, dx, ws, .int i, rfl, h2, c, n, lookup_getA.trans z1, (q1 σ H1 F1 r1).imp fun u H2 ⟨d2, O2, F2, s2, r2, p2, j, fs', O3, e2, hu, hl, q⟩ => ?_⟩
    subst e2
    cases p2
    obtain ⟨dx', ws', h3, l3⟩ := (r2.o.ob _ hu.mem).2
    refine ⟨i, j, rfl, rfl, dx', ws', h3, by rw [l3.len]; exact hl, R, O3, F2, s1.trans s2, r2.go (r2.o.upd hu ?_) (Same.refl _), q⟩
    refine ⟨dx', _, upd_same, ?_⟩
    rw [putA_put]
    exact l3.putF (.int _))

/-! ### d[k] = v -/
theorem as_dput (hu : X.A.units + 65 < cLine) (hv : AE X N v R O fun d1 O1 => AE X N o R O1 fun d2 O2 => AE X N i R O2 fun d3 O3 => ∃ a kvs k O4, d2 = .ref a ∧ d3 = keyD k ∧ U O3 a (.dic kvs) (.dic (setA kvs k d1)) O4 ∧ kvs.length ≤ 100000 ∧ E.nx R O4)
    (hs : swapsWith v (some (.Subscript o i pos')) pos.line X.env = pure false := by rfl) : AS X N (.Assign [.Subscript o i pos'] v pos) R O E := fun σ H F r =>
  tMs.of (ps_dput (by omega) peM peM peM hs) ((hv σ H F r).imp fun w H1 ⟨d1, O1, F1, s1, r1, p1, q1⟩ => (q1 σ H1 F1 r1).imp fun u H2 ⟨d2, O2, F2, s2, r2, p2, q2⟩ => (q2 σ H2 F2 r2).imp fun y H3 ⟨d3, O3, F3, s3, r3, p3, a, kvs, k, O4, e2, e3, hu, hl, q⟩ => by
    subst e2
    subst e3
    cases p2
    have hy := keyD_v p3
    subst hy
    obtain ⟨ws, h3, l3⟩ := (r3.o.ob _ hu.mem).2
    refine ⟨a, _, rfl, DPut.k h3 (by rw [l3.len]; exact lt_line hl), R, O4, F3, (s1.trans s2).trans s3, r3.go (r3.o.upd hu ?_) (Same.refl _), q⟩
    exact ⟨_, upd_same, RpA.set k (p1.mono (s2.trans s3)) l3⟩)
/-- d[k, ..] = v -/
theorem as_dputT {kk : Nat} (hu : X.A.units + 65 < cLine) (hv : AE X N v R O fun d1 O1 => AE X N o R O1 fun d2 O2 => AA X N es R O2 fun ds O3 => ds.length ≤ 100000 ∧ ∃ a kvs ks O4, d2 = .ref a ∧ ds = ks.map keyD ∧ U O3 a (.dct kvs) (.dct (setA kvs ks d1)) O4 ∧ kvs.length ≤ 100000 ∧ E.nx R O4)
    (hs : swapsWith v (some (.Subscript o (.Tuple es kk p) pos')) pos.line X.env = pure false := by rfl) : AS X N (.Assign [.Subscript o (.Tuple es kk p) pos'] v pos) R O E := fun σ H F r =>
  tMs.of (ps_dput (by omega) peM (pe_tup paM) peM hs) ((hv σ H F r).imp fun w H1 ⟨d1, O1, F1, s1, r1, p1, q1⟩ => (q1 σ H1 F1 r1).imp fun u H2 ⟨d2, O2, F2, s2, r2, p2, q2⟩ => (q2 σ H2 F2 r2).imp fun ys H3 ⟨ds, O3, F3, s3, r3, p3, hn, a, kvs, ks, O4, e2, e3, hu, hl, q⟩ => by
    refine ⟨by rw [p3.len]; exact le_line hn, fun pp hp => ?_⟩
    subst e2
    subst e3
    cases p2
    have hy := keyDs_v p3
    subst hy
    have sp := same_new (r3.o.fr hp) (HO.tup (ks.map kV))
    have r4 : RepS X N R O3 σ (L2.upd H3 pp (.tup (ks.map kV))) (L2.upd F3 pp (.tup (ks.map kV))) := r3.go (r3.o.frz hp _) sp
    obtain ⟨ws, h3, l3⟩ := (r4.o.ob _ hu.mem).2
    refine ⟨a, _, rfl, DPut.t h3 upd_same (by rw [l3.len]; exact lt_line hl), R, O4, _, ((s1.trans s2).trans s3).trans sp, r4.go (r4.o.upd hu ?_) (Same.refl _), q⟩
    exact ⟨_, upd_same, RpA.set ks ((p1.mono (s2.trans s3)).mono sp) l3⟩)
/-- xs[i] = v -/
theorem as_lput (hv : AE X N v R O fun d1 O1 => AE X N o R O1 fun d2 O2 => AE X N i R O2 fun d3 O3 => ∃ a xs k j O4, d2 = .ref a ∧ d3 = .int k ∧ U O3 a (.lst xs) (.lst (xs.set j d1)) O4 ∧ ixN xs.length k = some j ∧ E.nx R O4)
    (hs : swapsWithSole [.Subscript o i pos'] v pos.line X.env = pure false := by rfl) (hw : swappedStores [.Subscript o i pos'] v X.env = pure none := by rfl)
    (h1 : (assignEach [.Subscript o i pos'] X.env).map (·.2) = [assign (.Subscript o i pos') X.env] := by rfl)
    (ha : ∀ v, assign (.Subscript o i pos') X.env v = (do
      let ov ← holding [v] (eval o X.env)
      let iv ← holding [v, ov] (eval i X.env)
      standAt pos'
      holding [v, ov, iv] (setItem ov iv v)
      release [v, ov, iv] []) := by intro _; rfl) : AS X N (.Assign [.Subscript o i pos'] v pos) R O E := fun σ H F r =>
  tMs.of (ps_asg peM (pg_sub peM peM set_list ha) hs hw h1) ((hv σ H F r).imp fun w H1 ⟨d1, O1, F1, s1, r1, p1, q1⟩ => (q1 σ H1 F1 r1).imp fun u H2 ⟨d2, O2, F2, s2, r2, p2, q2⟩ => (q2 σ H2 F2 r2).imp fun y H3 ⟨d3, O3, F3, s3, r3, p3, a, xs, k, j, O4, e2, e3, hu, hj, q⟩ => by
    subst e2
    subst e3
    cases p2
    cases p3
    obtain ⟨ws, h3, l3⟩ := (r3.o.ob _ hu.mem).2
    refine ⟨a, ws, k, j, rfl, rfl, h3, by rw [l3.len]; exact hj, R, O4, F3, (s1.trans s2).trans s3, r3.go (r3.o.upd hu ?_) (Same.refl _), q⟩
    exact ⟨_, upd_same, RpL.set (p1.mono (s2.trans s3)) j l3⟩)
/-- name += e, whole numbers -/
theorem as_aug (nd : X.N.Nodup) (sx : StX X x) {z : Int} (g : Get R x (.int z)) (h : AE X N e R O fun d O1 => ∃ j R', d = .int j ∧ Put R x (.int (z + j)) R' ∧ E.nx R' O1) :
    AS X N (.AugAssign (.Name x p) .Add e pos) R O E := fun σ H F r => by
  obtain ⟨i, hi⟩ := g.ix
  have hN : X.N[i]? = some x := by rw [← r.names, List.getElem?_map, hi] <;> rfl
  obtain ⟨v, hv, rp⟩ := r.sl i x _ hi
  cases rp
  refine tMs.of (ps_aug nd hN sx.loc peM ip_add sx.fn) ⟨.int z, hv, (h σ H F r).imp fun w H1 ⟨d, O1, F1, s1, r1, p1, j, R', ed, hp, q⟩ => ?_⟩
  subst ed
  cases p1
  refine ⟨z, j, rfl, rfl, ?_⟩
  obtain ⟨i', o', hi', e⟩ := hp.ix
  have hN' : X.N[i']? = some x := by rw [← r.names, List.getElem?_map, hi'] <;> rfl
  have ij : i' = i := nodup_ix nd hN' hN
  subst ij
  subst e
  exact ⟨_, O1, F1, s1, r1.put nd sx.vis hi' (.int _), q⟩
/-- x, y = a, b -/
theorem as_par {y : Str} {px py pt : Pos} {kt k2 pt2} (hc : X.calm = true) (nd : X.N.Nodup) (sx : StX X x) (sy : StX X y) (hxy : x ≠ y)
    (hx : X.env.scope.names.lookup x = some .local) (hy : X.env.scope.names.lookup y = some .local) {o1 o2 : Option D} (g1 : (x, o1) ∈ R) (g2 : (y, o2) ∈ R)
    (h : AA X N [a, b] R O fun ds O1 => ∃ d1 d2 R1 R2, ds = [d1, d2] ∧ Put R x d1 R1 ∧ Put R1 y d2 R2 ∧ E.nx R2 O1)
    (hw : swappedStores [.Tuple [.Name x px, .Name y py] kt pt] (.Tuple [a, b] k2 pt2) X.env = pure (some [x, y]) := by rfl)
    (hs : swapsWithSole [.Tuple [.Name x px, .Name y py] kt pt] (.Tuple [a, b] k2 pt2) pos.line X.env = pure false := by rfl) :
    AS X N (.Assign [.Tuple [.Name x px, .Name y py] kt pt] (.Tuple [a, b] k2 pt2) pos) R O E := fun σ H F r => by
  obtain ⟨i, hi⟩ := List.getElem?_of_mem g1
  obtain ⟨j, hj⟩ := List.getElem?_of_mem g2
  have hNi : X.N[i]? = some x := by rw [← r.names, List.getElem?_map, hi] <;> rfl
  have hNj : X.N[j]? = some y := by rw [← r.names, List.getElem?_map, hj] <;> rfl
  have hij : i ≠ j := fun e => by rw [e, hNj] at hNi; exact hxy (Option.some.inj hNi).symm
  refine tMs.of (ps_par hc nd hNi hNj hij hx hy paM hw hs) ((h σ H F r).imp fun vs H1 ⟨ds, O1, F1, s1, r1, p1, d1, d2, R1, R2, ed, u1, u2, q⟩ => ?_)
  subst ed
  cases p1 with
  | cons rp1 pr =>
    cases pr with
    | cons rp2 pr =>
      cases pr
      obtain ⟨i', o', hi', e⟩ := u1.ix
      have hN' : X.N[i']? = some x := by rw [← r.names, List.getElem?_map, hi'] <;> rfl
      have ij : i' = i := nodup_ix nd hN' hNi
      subst ij
      subst e
      have ra := r1.put nd sx.vis hi' rp1
      obtain ⟨j', o'', hj', e'⟩ := u2.ix
      have hN'' : X.N[j']? = some y := by rw [← ra.names, List.getElem?_map, hj'] <;> rfl
      have jj : j' = j := nodup_ix nd hN'' hNj
      subst jj
      subst e'
      exact ⟨_, _, rfl, _, O1, F1, s1, ra.put nd sy.vis hj' rp2, q⟩
/-- x, y, z = a, b, c -/
theorem as_par3 {y z : Str} {c : Expr} {px py pz pt : Pos} {kt k2 pt2} (hc : X.calm = true) (nd : X.N.Nodup) (sx : StX X x) (sy : StX X y) (sz : StX X z) (hxy : x ≠ y) (hxz : x ≠ z) (hyz : y ≠ z)
    (hx : X.env.scope.names.lookup x = some .local) (hy : X.env.scope.names.lookup y = some .local) (hz : X.env.scope.names.lookup z = some .local) {o1 o2 o3 : Option D} (g1 : (x, o1) ∈ R) (g2 : (y, o2) ∈ R) (g3 : (z, o3) ∈ R)
    (h : AA X N [a, b, c] R O fun ds O1 => ∃ d1 d2 d3 R1 R2 R3, ds = [d1, d2, d3] ∧ Put R x d1 R1 ∧ Put R1 y d2 R2 ∧ Put R2 z d3 R3 ∧ E.nx R3 O1)
    (hw : swappedStores [.Tuple [.Name x px, .Name y py, .Name z pz] kt pt] (.Tuple [a, b, c] k2 pt2) X.env = pure (some [x, y, z]) := by rfl)
    (hs : swapsWithSole [.Tuple [.Name x px, .Name y py, .Name z pz] kt pt] (.Tuple [a, b, c] k2 pt2) pos.line X.env = pure false := by rfl) :
    AS X N (.Assign [.Tuple [.Name x px, .Name y py, .Name z pz] kt pt] (.Tuple [a, b, c] k2 pt2) pos) R O E := fun σ H F r => by
  obtain ⟨i, hi⟩ := List.getElem?_of_mem g1
  obtain ⟨j, hj⟩ := List.getElem?_of_mem g2
  obtain ⟨l, hl⟩ := List.getElem?_of_mem g3
  have hNi : X.N[i]? = some x := by rw [← r.names, List.getElem?_map, hi] <;> rfl
  have hNj : X.N[j]? = some y := by rw [← r.names, List.getElem?_map, hj] <;> rfl
  have hNl : X.N[l]? = some z := by rw [← r.names, List.getElem?_map, hl] <;> rfl
  have hij : i ≠ j := fun e => by rw [e, hNj] at hNi; exact hxy (Option.some.inj hNi).symm
  have hil : i ≠ l := fun e => by rw [e, hNl] at hNi; exact hxz (Option.some.inj hNi).symm
  have hjl : j ≠ l := fun e => by rw [e, hNl] at hNj; exact hyz (Option.some.inj hNj).symm
  refine tMs.of (ps_par3 hc nd hNi hNj hNl hij hil hjl hx hy hz paM hw hs) ((h σ H F r).imp fun vs H1 ⟨ds, O1, F1, s1, r1, p1, d1, d2, d3, R1, R2, R3, ed, u1, u2, u3, q⟩ => ?_)
  subst ed
  cases p1 with
  | cons rp1 pr =>
    cases pr with
    | cons rp2 pr =>
      cases pr with
      | cons rp3 pr =>
        cases pr
        obtain ⟨i', o', hi', e⟩ := u1.ix
        have hN' : X.N[i']? = some x := by rw [← r.names, List.getElem?_map, hi'] <;> rfl
        have ij : i' = i := nodup_ix nd hN' hNi
        subst ij
        subst e
        have ra := r1.put nd sx.vis hi' rp1
        obtain ⟨j', o'', hj', e'⟩ := u2.ix
        have hN'' : X.N[j']? = some y := by rw [← ra.names, List.getElem?_map, hj'] <;> rfl
        have jj : j' = j := nodup_ix nd hN'' hNj
        subst jj
        subst e'
        have rb := ra.put nd sy.vis hj' rp2
        obtain ⟨l', o''', hl', e''⟩ := u3.ix
        have hN3 : X.N[l']? = some z := by rw [← rb.names, List.getElem?_map, hl'] <;> rfl
        have ll : l' = l := nodup_ix nd hN3 hNl
        subst ll
        subst e''
        exact ⟨_, _, _, rfl, _, O1, F1, s1, rb.put nd sz.vis hl' rp3, q⟩
end

/-! ### an object that is never written again -/
def MO.d : MO → D
  | .lst xs => .lst xs
  | .dic xs => .dic xs
  | .dct xs => .dct xs
  | .ins C fs => .ins C fs
inductive RlD (a : Addr) (d' : D) : D → D → Prop
  | same {d : D} : RlD a d' d d
  | here : RlD a d' (.ref a) d'
inductive RlL (a : Addr) (d' : D) : List D → List D → Prop
  | nil : RlL a d' [] []
  | cons {d e : D} {ds es : List D} : RlD a d' d e → RlL a d' ds es → RlL a d' (d :: ds) (e :: es)
inductive RlA (a : Addr) (d' : D) {κ : Type} : List (κ × D) → List (κ × D) → Prop
  | nil : RlA a d' [] []
  | cons {k : κ} {d e : D} {ds es : List (κ × D)} : RlD a d' d e → RlA a d' ds es → RlA a d' ((k, d) :: ds) ((k, e) :: es)
inductive RlM (a : Addr) (d' : D) : MO → MO → Prop
  | same {m : MO} : RlM a d' m m
  | lst {ds es : List D} : RlL a d' ds es → RlM a d' (.lst ds) (.lst es)
  | dic {ds es : List (Key × D)} : RlA a d' ds es → RlM a d' (.dic ds) (.dic es)
  | ins {C : Addr} {ds es : List (Str × D)} : RlA a d' ds es → RlM a d' (.ins C ds) (.ins C es)
inductive RlO (a : Addr) (d' : D) : Os → Os → Prop
  | nil : RlO a d' [] []
  | cons {b : Addr} {m m' : MO} {O O' : Os} : RlM a d' m m' → RlO a d' O O' → RlO a d' ((b, m) :: O) ((b, m') :: O')
inductive RlR (a : Addr) (d' : D) : Rho → Rho → Prop
  | nil : RlR a d' [] []
  | cons {x : Str} {d e : D} {R R' : Rho} : RlD a d' d e → RlR a d' R R' → RlR a d' ((x, some d) :: R) ((x, some e) :: R')
  | skip {x : Str} {o : Option D} {R R' : Rho} : RlR a d' R R' → RlR a d' ((x, o) :: R) ((x, none) :: R')
section
variable {K : PySem.W.Frag} {N : Ent} {O O1 O2 : Os} {H F : Hp} {a : Addr} {m : MO} {d' : D} {R R2 : Rho}
theorem RlD.rp {v : V} {d e : D} (h : RlD a d' d e) (r : Rp K F v d) (r' : Rp K F (.ref a) d') : Rp K F v e := by
  cases h with
  | same => exact r
  | here => cases r; exact r'
theorem RlL.rp {vs : List V} {ds es : List D} (h : RlL a d' ds es) (r : RpL K F vs ds) (r' : Rp K F (.ref a) d') : RpL K F vs es := by
  induction h generalizing vs with
  | nil => exact r
  | cons q _ ih => cases r with | cons r1 r2 => exact .cons (q.rp r1 r') (ih r2)
theorem RlA.rp {κ : Type} {vs : List (κ × V)} {ds es : List (κ × D)} (h : RlA a d' ds es) (r : RpA K F vs ds) (r' : Rp K F (.ref a) d') : RpA K F vs es := by
  induction h generalizing vs with
  | nil => exact r
  | cons q _ ih => cases r with | cons r1 r2 => exact .cons (q.rp r1 r') (ih r2)
theorem RlM.rp {b : Addr} {m m' : MO} (h : RlM a d' m m') (r : MR K F H b m) (r' : Rp K F (.ref a) d') : MR K F H b m' := by
  cases h with
  | same => exact r
  | lst q => obtain ⟨xs, e, l⟩ := r; exact ⟨xs, e, q.rp l r'⟩
  | dic q => obtain ⟨xs, e, l⟩ := r; exact ⟨xs, e, q.rp l r'⟩
  | ins q => obtain ⟨dx, xs, e, l⟩ := r; exact ⟨dx, xs, e, q.rp l r'⟩
theorem RlO.doms (h : RlO a d' O O1) : dom O1 = dom O := by
  induction h with
  | nil => rfl
  | cons _ _ ih => exact congrArg (_ :: ·) ih
theorem RlO.mem (h : RlO a d' O O1) : ∀ q ∈ O1, ∃ m, (q.1, m) ∈ O ∧ RlM a d' m q.2 := by
  induction h with
  | nil => intro q hq; cases hq
  | cons hm _ ih =>
    intro q hq
    rcases List.mem_cons.mp hq with e | hq
    · subst e; exact ⟨_, List.mem_cons_self, hm⟩
    · obtain ⟨m, h1, h2⟩ := ih q hq
      exact ⟨m, List.mem_cons_of_mem _ h1, h2⟩
theorem RepO.still (r : RepO K N O H F) (t : Take a m O O1) (ro : RlO a m.d O1 O2) : ∃ o, H a = some o ∧ F a = none ∧ Rp K (L2.upd F a o) (.ref a) m.d ∧ RepO K N O2 H (L2.upd F a o) := by
  obtain ⟨t1, t2, t3⟩ := t.sub
  obtain ⟨n1, n2⟩ := t3 r.nd
  obtain ⟨fa, hm⟩ := r.ob _ t1
  have key : ∃ o, H a = some o ∧ Rp K (L2.upd F a o) (.ref a) m.d := by
    cases m with
    | lst ds => obtain ⟨xs, e, l⟩ := hm; exact ⟨_, e, .lst upd_same (l.mono (same_new fa _))⟩
    | dic ds => obtain ⟨xs, e, l⟩ := hm; exact ⟨_, e, .dic upd_same (l.mono (same_new fa _))⟩
    | dct ds => obtain ⟨xs, e, l⟩ := hm; exact ⟨_, e, .dct upd_same (l.mono (same_new fa _))⟩
    | ins C ds => obtain ⟨dx, xs, e, l⟩ := hm; exact ⟨_, e, .ins upd_same (l.mono (same_new fa _))⟩
  obtain ⟨o, ho, rp⟩ := key
  refine ⟨o, ho, fa, rp, ⟨fun b u q => ?_, fun q hq => ?_, by rw [ro.doms]; exact n1, r.grow.trans (same_new fa _), r.keep, fun b u q => ?_, fun q hq => ?_⟩⟩
  · by_cases e : b = a
    · subst e; rw [upd_same] at q; cases q; exact ho
    · rw [upd_ne e] at q; exact r.ex b u q
  · obtain ⟨m0, h1, h2⟩ := ro.mem q hq
    have ne : q.1 ≠ a := fun e => n2 (List.mem_map.mpr ⟨_, h1, e⟩)
    obtain ⟨f1, z⟩ := r.ob _ (t2 _ h1)
    exact ⟨by rw [upd_ne ne]; exact f1, h2.rp (z.mono (same_new fa _) rfl) rp⟩
  · by_cases e : b = a
    · subst e
      rcases r.newO _ t1 with z | z
      · exact .inr (.inr z)
      · exact .inr (.inl z)
    · rw [upd_ne e] at q; exact r.newF b u q
  · obtain ⟨m0, h1, _⟩ := ro.mem q hq
    exact r.newO (q.1, m0) (t2 _ h1)
theorem RlR.names (h : RlR a d' R R2) : R2.map (·.1) = R.map (·.1) := by
  induction h with
  | nil => rfl
  | cons _ _ ih => exact congrArg (_ :: ·) ih
  | skip _ ih => exact congrArg (_ :: ·) ih
theorem RlR.get (h : RlR a d' R R2) : ∀ {i : Nat} {x : Str} {e : D}, R2[i]? = some (x, some e) → ∃ d, R[i]? = some (x, some d) ∧ RlD a d' d e := by
  induction h with
  | nil => intro i x e q; simp at q
  | cons hd _ ih =>
    intro i x e q
    cases i with
    | zero => simp at q; obtain ⟨q1, q2⟩ := q; subst q1 q2; exact ⟨_, rfl, hd⟩
    | succ i => exact ih (by simpa using q)
  | skip _ ih =>
    intro i x e q
    cases i with
    | zero => simp at q
    | succ i => exact ih (by simpa using q)
theorem RepS.still {X : Cx} {σ : L2.St} (r : RepS X N R O σ H F) (t : Take a m O O1) (ro : RlO a m.d O1 O2) (rr : RlR a m.d R R2) : ∃ F', Same F F' ∧ RepS X N R2 O2 σ H F' := by
  obtain ⟨o, h1, h2, h3, h4⟩ := r.o.still t ro
  refine ⟨_, same_new h2 o, h4, by rw [rr.names]; exact r.names, r.len, fun i x d q => ?_, fun x d q => ?_⟩
  · obtain ⟨d0, q1, q2⟩ := rr.get q
    obtain ⟨v, hv, rv⟩ := r.sl i x d0 q1
    exact ⟨v, hv, q2.rp (rv.mono (same_new h2 o)) h3⟩
  · obtain ⟨i, hi⟩ := List.getElem?_of_mem q
    obtain ⟨d0, q1, q2⟩ := rr.get hi
    exact r.vis x d0 (List.mem_of_getElem? q1)
variable {X : Cx} {E : AEnds} {st : List Stmt} {s1 : Stmt} {e : Expr} {Q : D → Os → Prop}
theorem ab_still (t : Take a m O O1) (ro : RlO a m.d O1 O2) (rr : RlR a m.d R R2) (h : ASs X N st R2 O2 E) : ASs X N st R O E := fun σ H F r => by
  obtain ⟨F', s, r'⟩ := r.still t ro rr
  exact tMb.more s (h σ H F' r')
theorem as_still (t : Take a m O O1) (ro : RlO a m.d O1 O2) (rr : RlR a m.d R R2) (h : AS X N s1 R2 O2 E) : AS X N s1 R O E := fun σ H F r => by
  obtain ⟨F', s, r'⟩ := r.still t ro rr
  exact (h σ H F' r').imp (fun _ _ q => QN.more s q) (fun _ _ q => QR.more s q) (fun _ _ q => QN.more s q) (fun _ _ q => QN.more s q)
end
end K12
/-! A12: list comprehensions, an error may leave them. -/
namespace K12
open PySem PySem.Spec PyProof.Rows L2

/-- behind a part that began at H, F -/
theorem RepO.next {K : PySem.W.Frag} {N : Ent} {O O2 : Os} {H H2 F F2 : Hp} {EA : Addr → List (Str × D) → Os → Prop} (r : RepO K N O H F) (c : RepO K ⟨O, F, H, EA⟩ O2 H2 F2) : RepO K N O2 H2 F2 where
  ex := c.ex
  ob := c.ob
  nd := c.nd
  grow := r.grow.trans c.grow
  keep := fun a o q ha => c.keep a o (r.keep a o q ha) fun z => by
    obtain ⟨p, hp, ep⟩ := List.mem_map.mp z
    rcases r.newO p hp with w | w
    · exact ha (ep ▸ w)
    · rw [ep] at w
      rw [w] at q
      cases q
  newF := fun a o q => by
    rcases c.newF a o q with w | w | w
    · exact r.newF a o w
    · exact .inr (r.old w)
    · obtain ⟨p, hp, ep⟩ := List.mem_map.mp w
      rcases r.newO p hp with w | w
      · exact .inr (.inr (ep ▸ w))
      · exact .inr (.inl (ep ▸ w))
  newO := fun q hq => by
    rcases c.newO q hq with w | w
    · obtain ⟨p, hp, ep⟩ := List.mem_map.mp w
      have := r.newO p hp
      rw [ep] at this
      exact this
    · exact (r.old w).symm
theorem RepO.here {K : PySem.W.Frag} {N : Ent} {O : Os} {H F : Hp} {EA : Addr → List (Str × D) → Os → Prop} (r : RepO K N O H F) : RepO K ⟨O, F, H, EA⟩ O H F :=
  ⟨r.ex, r.ob, r.nd, Same.refl _, fun _ _ q _ => q, fun _ _ q => .inl q, fun p hp => .inl (List.mem_map.mpr ⟨p, hp, rfl⟩)⟩
theorem XA.next {K : PySem.W.Frag} {N : Ent} {O : Os} {H F : Hp} (r : RepO K N O H F) {cls : Value} {d : Option Addr} {H' : Hp} (x : XA K ⟨O, F, H, N.EX⟩ cls d H') : XA K N cls d H' := by
  obtain ⟨C, dd, fs, fvs, O', F', h1, h2, h3, h4, h5, h6⟩ := x
  exact ⟨C, dd, fs, fvs, O', F', h1, h2, h3, h4, r.next h5, h6⟩

/-- the block's slots: known ones that it sees -/
inductive RbOk (own : List Nat) (V : Str → Prop) : Nat → Rho → Rho → Prop
  | nil {n : Nat} : RbOk own V n [] []
  | keep {n : Nat} {x : Str} {d : D} {R Rb : Rho} : V x → n ∉ own → RbOk own V (n + 1) R Rb → RbOk own V n ((x, some d) :: R) ((x, some d) :: Rb)
  | drop {n : Nat} {x : Str} {o : Option D} {R Rb : Rho} : RbOk own V (n + 1) R Rb → RbOk own V n ((x, o) :: R) ((x, none) :: Rb)
/-- fewer known slots -/
inductive SubR : Rho → Rho → Prop
  | nil : SubR [] []
  | same {p : Str × Option D} {R Rb : Rho} : SubR R Rb → SubR (p :: R) (p :: Rb)
  | skip {x : Str} {o : Option D} {R Rb : Rho} : SubR R Rb → SubR ((x, o) :: R) ((x, none) :: Rb)
theorem RbOk.names {own : List Nat} {V : Str → Prop} {n : Nat} {R Rb : Rho} (h : RbOk own V n R Rb) : Rb.map (·.1) = R.map (·.1) := by
  induction h with
  | nil => rfl
  | keep _ _ _ ih => exact congrArg (_ :: ·) ih
  | drop _ ih => exact congrArg (_ :: ·) ih
theorem RbOk.get {own : List Nat} {V : Str → Prop} {n : Nat} {R Rb : Rho} (h : RbOk own V n R Rb) : ∀ {i : Nat} {x : Str} {d : D}, Rb[i]? = some (x, some d) → R[i]? = some (x, some d) ∧ n + i ∉ own ∧ V x := by
  induction h with
  | nil => intro i x d q; simp at q
  | @keep n y e R Rb hv hn _ ih =>
    intro i x d q
    cases i with
    | zero => simp at q; obtain ⟨q1, q2⟩ := q; subst q1 q2; exact ⟨rfl, hn, hv⟩
    | succ i =>
      obtain ⟨h1, h2, h3⟩ := ih (by simpa using q)
      exact ⟨by simpa using h1, by rw [← (show n + 1 + i = n + (i + 1) by omega)]; exact h2, h3⟩
  | @drop n y o R Rb _ ih =>
    intro i x d q
    cases i with
    | zero => simp at q
    | succ i =>
      obtain ⟨h1, h2, h3⟩ := ih (by simpa using q)
      exact ⟨by simpa using h1, by rw [← (show n + 1 + i = n + (i + 1) by omega)]; exact h2, h3⟩
theorem SubR.names {R Rb : Rho} (h : SubR R Rb) : Rb.map (·.1) = R.map (·.1) := by
  induction h with
  | nil => rfl
  | same _ ih => exact congrArg (_ :: ·) ih
  | skip _ ih => exact congrArg (_ :: ·) ih
theorem SubR.get {R Rb : Rho} (h : SubR R Rb) : ∀ {i : Nat} {x : Str} {d : D}, Rb[i]? = some (x, some d) → R[i]? = some (x, some d) := by
  induction h with
  | nil => intro i x d q; simp at q
  | same _ ih =>
    intro i x d q
    cases i with
    | zero => simpa using q
    | succ i => exact ih (by simpa using q)
  | skip _ ih =>
    intro i x d q
    cases i with
    | zero => simp at q
    | succ i => exact ih (by simpa using q)
theorem RepS.less {X : Cx} {N : Ent} {R Rb : Rho} {O : Os} {σ : L2.St} {H F : Hp} (r : RepS X N R O σ H F) (h : SubR R Rb) : RepS X N Rb O σ H F :=
  ⟨r.o, by rw [h.names]; exact r.names, r.len, fun i x d q => r.sl i x d (h.get q), fun x d q => by
    obtain ⟨i, hi⟩ := List.getElem?_of_mem q
    exact r.vis x d (List.mem_of_getElem? (h.get hi))⟩

/-- an error of the block's calls -/
def xeB (X : Cx) (N : Ent) (xr : Bool) (Xb : Cx) : Value → Shared → Prop := fun e s' => xr = true ∧ ∃ pins σ H s O F Ht, RepO X.K N O Ht F ∧ Inv Xb pins σ H s ∧ L2.CX X.prog X.w X.stack H s (XA X.K ⟨O, F, Ht, N.EX⟩) e s'
/-- the context of a comprehension's block, and the entry of a turn -/
structure Bk (X : Cx) (N : Ent) (scope : Scope) (xr : Bool) (Xb : Cx) (N' : Ent) : Prop where
  to : ∃ s H C cl fp xe, Xb = (X.blk s H scope (compEnvC scope cl C X.env) fp).wish xe
  ex : N'.EX = N.EX
  ps : xr = true → PsA Xb N'
/-- the tests of a clause: none, or one -/
def AIfs (X : Cx) (N : Ent) : List Expr → Rho → Os → (Bool → Os → Prop) → Prop
  | [], _, O, Q => Q true O
  | [c], R, O, Q => AT X N c R O Q
  | _, _, _, _ => False
theorem AIfs.run {X : Cx} {N : Ent} {ifs : List Expr} {R : Rho} {O : Os} {Q : Bool → Os → Prop} (h : AIfs X N ifs R O Q) {σ : L2.St} {H F : Hp} (r : RepS X N R O σ H F) {pins : List (Addr × Obj)} {s : Shared} (I : Inv X pins σ H s) :
    wpAny (model X.prog X.w) X.A (forIn ifs true fun c r => if r = true then do let ok ← isTrue c X.env (eval c X.env); pure (ForInStep.yield ok) else pure (ForInStep.yield r)) (TP X pins σ (QB X N R σ F Q)) X.xe s := by
  match ifs, h with
  | [], h => exact wpAny_tests_nil ⟨H, I, O, F, Same.refl _, r, h⟩
  | [c], h => exact wpAny_tests_one (h σ H F r pins s I)
def CompA (B : Cx → Ent → Prop) (tg : Expr) (ifs : List Expr) (elt : Expr) (Rb : Rho) (Q : D → Os → Prop) : List D → List D → Os → Prop
  | [], acc, O => Q (.lst acc) O
  | d :: ds, acc, O => acc.length ≤ 100000 ∧ ∀ Xb N', B Xb N' → AG Xb tg d Rb fun R1 => SubR R1 Rb ∧ AIfs Xb N' ifs R1 O fun b O1 =>
      if b = true then AE Xb N' elt R1 O1 fun y O2 => CompA B tg ifs elt Rb Q ds (acc ++ [y]) O2 else CompA B tg ifs elt Rb Q ds acc O1

theorem wipe_keep : ∀ {vs : List Nat} {σ : L2.St} {i : Nat}, i ∉ vs → (wipe σ vs)[i]? = σ[i]?
  | [], _, _, _ => rfl
  | v :: vs, σ, i, h => by
    have h1 : v ≠ i := fun e => h (by rw [e]; exact List.mem_cons_self)
    have h2 : i ∉ vs := fun m => h (List.mem_cons_of_mem _ m)
    unfold wipe
    rw [List.getElem?_set_ne h1]
    exact wipe_keep h2

/-- an error that leaves the block -/
theorem comp_out {X : Cx} {pins : List (Addr × Obj)} {σ : L2.St} {H3 : Hp} {s3 : Shared} {scope : Scope} {cl : List (Str × Addr)} {fp : List Addr} {E : XK} {e : Value} {s' : Shared} {pb : List (Addr × Obj)} {σb : L2.St} {Hb : Hp} {sb : Shared}
    (I3 : Inv X pins σ H3 s3) (f3 : ∀ b ∈ fp, FpOk X pins H3 b) (hC : ∀ C, C = s3.heap.objs.size → FpOk X pins Hb C)
    (hs : X.stack = X.env :: X.outer) (hf : X.env.frame = some X.env.locals) (tk : Takes X (fun cls d _ H => E cls d H))
    (Ib : Inv (X.blk s3 H3 scope (compEnvC scope cl s3.heap.objs.size X.env) fp) pb σb Hb sb) (c : L2.CX X.prog X.w X.stack Hb sb E e s') :
    notedBy (model X.prog X.w) X.A (compEnvC scope cl s3.heap.objs.size X.env) (CompFails (model X.prog X.w) X.A X.xe (compEnvC scope cl s3.heap.objs.size X.env)) e s' := by
  obtain ⟨a, B, H', cls, d, rfl, fl, hok, ub, na, os, ag, hE⟩ := c
  have J : Inv X pins σ Hb sb := I3.call' (ch := fp) Ib.os Ib.base Ib.hok Ib.bare fun b hb => ⟨(f3 b hb).2.2.2.1, (f3 b hb).2.1, (f3 b hb).2.2.2.2.1, (f3 b hb).2.2.2.2.2⟩
  obtain ⟨g0, g1, g2, g3, g4, g5⟩ := hC _ rfl
  generalize hCe : s3.heap.objs.size = C at *
  have hcf : (compEnvC scope cl C X.env).frame = X.env.frame := rfl
  have hfr : X.A.frames = some (X.env :: X.outer) := by rw [J.ok.frames, hs]
  have nC : Hb C = none := g0
  have cS : C ∉ frs X.stack := fun hm => by
    rw [hs] at hm
    rcases List.mem_filterMap.mp hm with ⟨v, hv, ev⟩
    rcases List.mem_cons.mp hv with z | z
    · rw [z, hf] at ev
      exact g1 (Option.some.inj ev).symm
    · exact g2 (List.mem_filterMap.mpr ⟨v, z, ev⟩)
  obtain ⟨m0, ⟨oC, esC, epC, hoC, hdC, rC⟩, _⟩ := Ib.loc
  have hoC : sb.heap.get? C = some oC := hoC
  have cB : B.get? C = some oC := ub.keep C oC hoC nC cS
  show wpAny (model X.prog X.w) X.A (noteFrame (.ref a) (compEnvC scope cl C X.env)) _ _ s'
  rw [noteFrame_env _ hcf]
  rw [hs] at fl
  refine HandSPX.looks_onZ Zc.steady hfr hf fl fun h1 hH up1 => ?_
  obtain ⟨k1, k2, k3, k4⟩ := hH
  have c1 : h1.get? C = some oC := k1 C oC cB
  refine ⟨m0, ⟨oC, esC, epC, c1, hdC, rC⟩, fun h2 m2 hn2 sb2 => ?_⟩
  have e2 : ∀ b, b ≠ C → h2.get? b = h1.get? b := fun b hb => sb2.2 b hb
  obtain ⟨B2, p1, p2⟩ := restrict h2 fun b => (B.get? b).isSome
  have st2 : B2.StaysIn h2 := fun b o q => by
    cases z : (B.get? b).isSome with
    | false => rw [p2 b z] at q; cases q
    | true => rw [p1 b z] at q; exact q
  have b2 : ∀ b o, B.get? b = some o → b ≠ C → B2.get? b = some o := fun b o q hb => by
    rw [p1 b (by rw [q] <;> rfl), e2 b hb]
    exact k1 b o q
  have none2 : ∀ b, B.get? b = none → B2.get? b = none := fun b q => p2 b (by rw [q] <;> rfl)
  have ff2 : h2.FunFrames B (X.env :: X.outer) := Heap.FunFrames.sameBut sb2 hn2 k3
  have ff2' : h2.FunFrames B2 (X.env :: X.outer) := funFrames_none ff2 fun L hL => none2 L (ff2.mem hL).1
  obtain ⟨oe, vs, T, oT, ts, he, hz, hd, h1v, hnT, hTe, hT, hdT, h3v⟩ := k4
  have neC : ∀ {b : Addr} {o : Obj} {ws : Array Value}, h1.get? b = some o → o.data = .fields ws → b ≠ C := fun q z e => by
    rw [e, c1] at q
    cases q
    rw [hdC] at z
    cases z
  have ne_a : a ≠ C := neC he hd
  have ne_T : T ≠ C := neC hT hdT
  have he2 : h2.get? a = some oe := (e2 a ne_a).trans he
  have hT2 : h2.get? T = some oT := (e2 T ne_T).trans hT
  have held : HandSPX.HeldZ B2 (X.env :: X.outer) a (Zc cls d) X.env.locals h2 := ⟨st2, none2 a k2, ff2', oe, vs, T, oT, ts, he2, hz, hd, h1v, none2 T hnT, hTe, hT2, hdT, h3v⟩
  unfold PySem.passOn
  refine wpAny_bind (wpAny_field he2 hd h1v ?_)
  rw [if_neg (show ¬ ((Value.ref T == Value.none) = true) from by simp)]
  rw [show (compEnvC scope cl C X.env).frame = some X.env.locals from hf]
  refine wpAny_bind (HandSPX.setFlight_onZ held fun h3 held3 up3 => ?_)
  refine wpAny_throw (tk _ _ ?_)
  have st3 : B2.StaysIn h3 := held3.1
  obtain ⟨G, q1, q2⟩ := restrict h3 fun b => (B2.get? b).isSome || decide (b ∈ frs X.stack)
  have gB : ∀ b o, B2.get? b = some o → G.get? b = some o := fun b o e => by
    rw [q1 b (by simp [e])]
    exact st3 b o e
  have gF : ∀ b, b ∈ frs X.stack → G.get? b = h3.get? b := fun b hb => q1 b (by simp [hb])
  have og : ∀ b o, G.get? b = some o → h3.get? b = some o ∧ ((B2.get? b).isSome = true ∨ b ∈ frs X.stack) := fun b o e => by
    cases q : ((B2.get? b).isSome || decide (b ∈ frs X.stack)) with
    | false => rw [q2 b q] at e; cases e
    | true =>
      rw [q1 b q] at e
      exact ⟨e, by simpa [Bool.or_eq_true] using q⟩
  have slots : ∀ b o, sb.heap.get? b = some o → b ∈ frs X.stack → ∃ sl, G.get? b = some { o with slots := sl } := fun b o e hb => by
    obtain ⟨_, o₀, e₀, hnf⟩ := J.stack.mem hb
    rw [e] at e₀
    cases e₀
    obtain ⟨sl1, z1⟩ := ub.slot b o e hb
    obtain ⟨sl2, z2⟩ := up1 b _ z1 hnf
    have nbC : b ≠ C := fun z => cS (z ▸ hb)
    have z2' := (e2 b nbC).trans z2
    obtain ⟨sl3, z3⟩ := up3 b _ z2' hnf
    exact ⟨sl3, (gF b hb).trans z3⟩
  have H'C : H' C = none := ub.free C oC hoC nC
  have sI : Inv X pins σ H' { sb with heap := G, gens := s'.gens, drawn := s'.drawn, toks := s'.toks } := by
    refine J.call (ch := [C]) ⟨fun b o e n hb hc => gB b o (b2 b o (ub.keep b o e n hb) fun z => hc (by rw [z]; exact List.mem_cons_self)), fun b o e n hb _ => slots b o e hb, fun b o e n _ => ub.free b o e n, fun b o e hc => ?_, ub.tups, ub.frzs, ub.tbls⟩ ?_ ag fun b hb => ?_
    · by_cases hb : b ∈ frs X.stack
      · obtain ⟨sl, q⟩ := slots b o e hb
        exact ⟨_, q⟩
      · obtain ⟨o', q⟩ := ub.there b o e hb
        exact ⟨o', gB b o' (b2 b o' q fun z => hc (by rw [z]; exact List.mem_cons_self))⟩
    · intro b o q
      exact (hok b o q).stay (fun x u hx r => gB x u (b2 x u r fun z => by
        rcases hx with hx | hx
        · rw [← hx, z, H'C] at q; cases q
        · rw [z, H'C] at hx; cases hx)) (fun _ r => r) fun _ _ r => r
    · have eb : b = C := by simpa using hb
      subst eb
      exact ⟨g3, g1, g4, g5⟩
  refine ⟨a, B2, _, pins, σ, H', cls, d, rfl, sI, fun b o e hb => ?_, Heap.UpToSlots.of_keeps fun b o e => (og b o e).1, .inr (.inr (by rw [hs]; exact held3)), na, os, ag, hE⟩
  obtain ⟨e', h⟩ := og b o e
  rcases h with h | h
  · obtain ⟨o', q⟩ := Option.isSome_iff_exists.mp h
    have z := st3 b o' q
    rw [e'] at z
    cases z
    exact q
  · exact absurd h hb

section
variable {K : PySem.W.Frag} {N : Ent} {O : Os} {H F : Hp} {p : Addr} {o : HO}
theorem RepO.touch (r : RepO K N O H F) (h1 : p ∉ dom O) (h2 : F p = none) (h3 : N.H p = none ∨ p ∈ dom N.O) : RepO K N O (L2.upd H p o) F where
  ex := fun b u q => by rw [upd_ne (ne_of_none q h2)]; exact r.ex b u q
  ob := fun q hq => by
    have ne : q.1 ≠ p := fun e => h1 (List.mem_map.mpr ⟨q, hq, e⟩)
    exact ⟨(r.ob q hq).1, (r.ob q hq).2.mono (Same.refl _) (upd_ne ne)⟩
  nd := r.nd
  grow := r.grow
  keep := fun a u q ha => by
    have ne : a ≠ p := fun e => by
      rcases h3 with z | z
      · rw [e, z] at q; cases q
      · exact ha (e ▸ z)
    rw [upd_ne ne]; exact r.keep a u q ha
  newF := r.newF
  newO := r.newO
theorem RepO.take (r : RepO K N O H F) (h : H p = some o) (h1 : p ∉ dom O) (h2 : F p = none) (h3 : N.H p = none ∨ p ∈ dom N.O) : RepO K N O H (L2.upd F p o) where
  ex := fun b u q => by
    by_cases e : b = p
    · subst e; rw [upd_same] at q; cases q; exact h
    · rw [upd_ne e] at q; exact r.ex b u q
  ob := fun q hq => by
    have ne : q.1 ≠ p := fun e => h1 (List.mem_map.mpr ⟨q, hq, e⟩)
    exact ⟨by rw [upd_ne ne]; exact (r.ob q hq).1, (r.ob q hq).2.mono (same_new h2 o) rfl⟩
  nd := r.nd
  grow := r.grow.trans (same_new h2 o)
  keep := r.keep
  newF := fun a u q => by
    by_cases e : a = p
    · subst e; exact .inr h3
    · rw [upd_ne e] at q; exact r.newF a u q
  newO := r.newO
/-- what a part leaves alone -/
theorem RepO.apart {EA : Addr → List (Str × D) → Os → Prop} {O2 : Os} {H2 F2 : Hp} (c : RepO K ⟨O, F, H, EA⟩ O2 H2 F2) (h : H p = some o) (h1 : p ∉ dom O) (h2 : F p = none) : H2 p = some o ∧ p ∉ dom O2 ∧ F2 p = none := by
  refine ⟨c.keep p o h h1, fun z => ?_, ?_⟩
  · obtain ⟨q, hq, e⟩ := List.mem_map.mp z
    rcases c.newO q hq with w | w
    · exact h1 (e ▸ w)
    · have w' : H q.1 = none := w
      rw [e, h] at w'; cases w'
  · cases e : F2 p with
    | none => rfl
    | some u =>
      rcases c.newF p u e with w | w | w
      · have w' : F p = some u := w
        rw [h2] at w'; cases w'
      · have w' : H p = none := w
        rw [h] at w'; cases w'
      · exact absurd w h1
end
theorem RepS.cx {X X' : Cx} {N : Ent} {R : Rho} {O : Os} {σ : L2.St} {H F : Hp} (r : RepS X N R O σ H F) (h1 : X'.K = X.K) (h2 : X'.N = X.N) (h3 : X'.env = X.env) : RepS X' N R O σ H F :=
  ⟨by rw [h1]; exact r.o, by rw [h2]; exact r.names, by rw [h2]; exact r.len, by rw [h1]; exact r.sl, fun x d q => by
    have := r.vis x d q
    unfold VisX at *
    rw [h3]; exact this⟩
theorem RepS.ent {X : Cx} {N N' : Ent} {R : Rho} {O O' : Os} {σ : L2.St} {H H' F F' : Hp} (r : RepS X N R O σ H F) (o : RepO X.K N' O' H' F') (e : Same F F') : RepS X N' R O' σ H' F' :=
  ⟨o, r.names, r.len, fun i x d q => let ⟨v, a, b⟩ := r.sl i x d q; ⟨v, a, b.mono e⟩, r.vis⟩

section
variable {X : Cx} {N : Ent} {R Rb : Rho} {O O' : Os} {Q : D → Os → Prop} {elt tg iter : Expr} {ifs : List Expr} {scope : Scope} {own : List (Str × Nat)} {pos : Pos}
theorem lc_A {use : Option (Value → Sem Unit)} {Qf : Value → Shared → Prop} {pos' : Pos} {σ : L2.St} {H F : Hp} {pins : List (Addr × Obj)} {s : Shared}
    (xr : Bool) (own : List (Str × Nat)) (hx : xr = true → TkA X N ∧ X.stack = X.env :: X.outer ∧ X.env.frame = some X.env.locals) (hc : X.calm = true) (hN : X.N.Nodup) (ok : BlkOk X.N X.env.scope scope own)
    (rb : RbOk (own.map (·.2)) (fun x => Vis (relS scope X.env.scope) x ∧ (x == ("__debug__" : Str)) = false ∧ (x == ("__classdict__" : Str)) = false) 0 R Rb)
    (h : AI X N tg iter R O fun ds O1 => CompA (Bk X N scope xr) tg ifs elt Rb Q ds [] O1)
    (hs : ∀ x, foldedSetIterable iter X.env x = pure x) (r : RepS X N R O σ H F) (I : Inv X pins σ H s)
    (hRR : ∀ (L C : Addr) s' m H', Inv X pins σ H' s' → QV X N R σ F Q (.ref L) H' → s'.heap.Ns C m → FpOk X pins H' C → ∀ ce : Env, ce.locals = C → compEnds (model X.prog X.w) X.A X.xe use Qf (.ref L) ce (.ok .next) s') :
    wpAny (model X.prog X.w) X.A (comprehension (.ListComp elt [⟨tg, iter, ifs, 0⟩] scope pos) scope X.env pos' (newList []) false (eval iter X.env) use) Qf X.xe s := by
  have hfree : ∀ y ∈ scope.names, y.2 = .free → ∃ c, X.env.cells.lookup y.1 = some c := fun y hy e => by
    rcases ok.free y hy e with k | k
    · exact I.ok.has _ (.inl k)
    · exact I.ok.has _ (.inr k)
  obtain ⟨wi, hi, q0⟩ := h σ H F r (fun J H1 => ∃ ds O1 F1, Same F F1 ∧ RepS X N R O1 σ H1 F1 ∧ Src X.K J ds F1 ∧ CompA (Bk X N scope xr) tg ifs elt Rb Q ds [] O1) fun J H1 ds O1 F1 a b c d => ⟨ds, O1, F1, a, b, c, d⟩
  refine comprehension_at (gs := []) (g := ⟨tg, iter, ifs, 0⟩) rfl hs (closure_ok hfree) ok.kind (fun y hy e => by rw [ok.uniq y hy, e]) (thn (hi.run pins s σ H _ I q0) fun xv s1 hx1 => thn hx1 fun itv s2 h2 => ?_)
  obtain ⟨it, fp, tn, J, H2, e, I2, T, st2, f2, ds, O1, F1, sF1, r1, src, q⟩ := h2
  subst e
  refine wpAny_newObj_type (newEnv_comp ?_) (by show 0 ≤ sizeLine; decide)
  generalize hD : s2.heap.objs.size = D
  have hDn : H2 D = none := I2.hok.fresh (Nat.le_of_eq hD)
  generalize hs3 : ({ s2 with heap := s2.heap.push { cls := .type "list", data := .seq ([] : List Value).toArray } } : Shared) = s3
  have I3 : Inv X pins σ (L2.upd H2 D (.lst [])) s3 := by
    rw [← hs3]
    refine I2.laid (t' := s2.toks) (fun b o e => Heap.get?_push_of_some _ e) (Nat.le_of_eq hD) ⟨Nat.zero_le _, [], 0, .nil, ?_⟩
    rw [← hD]
    exact Heap.get?_push_size _ rfl
  have h3 : s3.heap = s2.heap.push { cls := .type "list", data := .seq ([] : List Value).toArray } := by rw [← hs3]
  have sz : ∀ b ∈ fp, b < s2.heap.objs.size := fun b hb => by
    obtain ⟨o, e, _⟩ := T.obj _ _ st2 b hb
    exact Heap.lt_size e
  have f3 : ∀ b ∈ fp, FpOk X pins (L2.upd H2 D (.lst [])) b ∧ b < s3.heap.objs.size := fun b hb => by
    have hlt := sz b hb
    refine ⟨⟨?_, (f2 b hb).2⟩, by rw [h3, Heap.size_push]; exact Nat.lt_succ_of_lt hlt⟩
    rw [upd_ne (by rw [← hD]; exact Nat.ne_of_lt hlt)]
    exact (f2 b hb).1
  have st3 : tn 0 s3.heap := T.keep _ _ _ st2 fun b _ o e => by rw [h3]; exact Heap.get?_push_of_some _ e
  have I4 := block_start I3 ok hN f3
  show codeAny _ _ (.compStart (.ListComp elt [⟨tg, iter, ifs, 0⟩] scope pos) 0 (.ref it) (.ref D) (compEnvC scope (cellsFrom (s3.heap.objs.size + 1) scope.names (cloFrom X.env.cells scope.names [])) s3.heap.objs.size X.env)) (compEnds (model X.prog X.w) X.A X.xe use Qf (.ref D) (compEnvC scope (cellsFrom (s3.heap.objs.size + 1) scope.names (cloFrom X.env.cells scope.names [])) s3.heap.objs.size X.env)) { s3 with heap := pushCells (s3.heap.push { cls := .type "dict", data := .dict #[] }) scope.names }
  have nfp : ∀ b ∈ fp, (L2.upd H2 D (.lst [])) b = none := fun b hb => (f3 b hb).1.1
  generalize hcl : cellsFrom (s3.heap.objs.size + 1) scope.names (cloFrom X.env.cells scope.names []) = cl at I4 ⊢
  generalize hH3 : L2.upd H2 D (.lst []) = H3 at I3 I4 nfp f3
  have out : ∀ e s', xeB X N xr (X.blk s3 H3 scope (compEnvC scope cl s3.heap.objs.size X.env) fp) e s' → notedBy (model X.prog X.w) X.A (compEnvC scope cl s3.heap.objs.size X.env) (CompFails (model X.prog X.w) X.A X.xe (compEnvC scope cl s3.heap.objs.size X.env)) e s' := fun e s' ⟨ht, pb, σb, Hb, sb, Ob, Fb, Ht, rb', Ib, c⟩ => by
    obtain ⟨tk, hs1, hf1⟩ := hx ht
    refine comp_out (E := XA X.K N) I3 (fun b hb => (f3 b hb).1) (fun C hC => ?_) hs1 hf1 tk Ib ?_
    · subst hC
      exact I3.fpOk (Nat.le_refl _) Ib.free
    · obtain ⟨a, B, H', cls, d, h1, h2, h3, h4, h5, h6, h7, h8⟩ := c
      exact ⟨a, B, H', cls, d, h1, h2, h3, h4, h5, h6, h7, XA.next rb' h8⟩
  have fpC : ∀ {H5 : Hp}, H5 s3.heap.objs.size = none → FpOk X pins H5 s3.heap.objs.size := fun n => I3.fpOk (Nat.le_refl _) n
  have back : ∀ {σ6 : L2.St} {H5 : Hp} {s6 : Shared}, Inv (X.blk s3 H3 scope (compEnvC scope cl s3.heap.objs.size X.env) fp) [] σ6 H5 s6 → Inv X pins σ H5 s6 := fun I6 => I3.call' (ch := fp) I6.os I6.base I6.hok I6.bare fun b hb => ⟨(f3 b hb).1.2.2.2.1, (f3 b hb).1.2.1, (f3 b hb).1.2.2.2.2.1, (f3 b hb).1.2.2.2.2.2⟩
  have stat : ∀ {σ' : L2.St} {H' : Hp} {s' : Shared}, Inv (X.blk s3 H3 scope (compEnvC scope cl s3.heap.objs.size X.env) fp) [] σ' H' s' → (∀ b ∈ fp, H' b = none) → ∀ b ∈ fp, FpOk (X.blk s3 H3 scope (compEnvC scope cl s3.heap.objs.size X.env) fp) [] H' b := fun {σ' H' s'} I' hn b hb =>
    ⟨hn b hb, (I'.ok.exf b hb).1, I'.ok.exfs b hb, .inl hb, fun x c e => (I'.ok.exf b hb).2 x c e, fun p hp => absurd (show p ∈ ([] : List (Addr × Obj)) ++ [] from hp) (by simp)⟩
  generalize hs4 : ({ s3 with heap := pushCells (s3.heap.push { cls := .type "dict", data := .dict #[] }) scope.names } : Shared) = s4 at I4 ⊢
  have st4 : tn 0 s4.heap := T.keep _ _ _ st3 fun b _ o e => by rw [← hs4]; exact pushCells_keeps _ _ _ _ (Heap.get?_push_of_some _ e)
  -- the list is there and not one of ours
  have F1D : F1 D = none := r1.o.fr hDn
  have oldD : N.H D = none ∨ D ∈ dom N.O := r1.o.old hDn
  have ro4 : RepO X.K N O1 H3 F1 := by rw [← hH3]; exact r1.o.oth hDn
  have rb4 : RepS (X.blk s3 H3 scope (compEnvC scope cl s3.heap.objs.size X.env) fp) N Rb O1 (wipe σ (own.map (·.2))) H3 F1 := by
    refine ⟨ro4, by rw [rb.names]; exact r1.names, by rw [wipe_length]; exact r1.len, fun i x d q => ?_, fun x d q => ?_⟩
    · obtain ⟨q1, q2, _⟩ := rb.get q
      rw [Nat.zero_add] at q2
      rw [wipe_keep q2]
      exact r1.sl i x d q1
    · obtain ⟨i, hi⟩ := List.getElem?_of_mem q
      exact (rb.get hi).2.2
  have loop : codeAny (model X.prog X.w) X.A (.compLoop (.ListComp elt [⟨tg, iter, ifs, 0⟩] scope pos) 0 (.ref it) (.ref D) (compEnvC scope cl s3.heap.objs.size X.env)) (compEnds (model X.prog X.w) X.A X.xe use Qf (.ref D) (compEnvC scope cl s3.heap.objs.size X.env)) s4 := by
    refine compLoop_any (fun n s' => ∃ i σ' H' O' F' acc ws, Inv (X.blk s3 H3 scope (compEnvC scope cl s3.heap.objs.size X.env) fp) [] σ' H' s' ∧ tn i s'.heap ∧ (∀ b ∈ fp, H' b = none) ∧ Same F1 F' ∧ RepS (X.blk s3 H3 scope (compEnvC scope cl s3.heap.objs.size X.env) fp) N Rb O' σ' H' F' ∧
      H' D = some (.lst ws) ∧ F' D = none ∧ D ∉ dom O' ∧ RpL X.K F' ws acc ∧ n = ds.length - i ∧ i ≤ ds.length ∧ CompA (Bk X N scope xr) tg ifs elt Rb Q (ds.drop i) acc O') ?_ ds.length ⟨0, _, H3, O1, F1, [], [], I4, st4, nfp, Same.refl _, rb4, by rw [← hH3]; exact upd_same, F1D, fun z => ?_, .nil, rfl, Nat.zero_le _, q⟩
    · rintro n s5 ⟨i, σ5, H5, O5, F5, acc, ws, I5, st5, n5, sF5, r5, hD5, fD5, nD5, l5, rfl, hi5, q5⟩
      by_cases hlt : i < ds.length
      · have hd : ds[i]? = some ds[i] := List.getElem?_eq_getElem hlt
        obtain ⟨go, hy⟩ := (src ⟨O5, F5, H5, N.EX⟩ O5 H5 F5 r5.o.here sF5 i).1 _ hd
        rw [List.drop_eq_getElem_cons hlt] at q5
        obtain ⟨hacc, q5⟩ := q5
        have ti := T.item (X.blk s3 H3 scope (compEnvC scope cl s3.heap.objs.size X.env) fp) rfl rfl rfl hc i [] s5 _ H5 (fun _ _ => False) I5 (stat I5 n5) st5 go
        refine thnF ti fun rr s6 ⟨u, hr, h6⟩ => ?_
        subst hr
        refine thnF h6 fun _ s7 ⟨x, H7, I7, r7, y7, st7, n7⟩ => ?_
        obtain ⟨F7, s7', c7, rp7⟩ := hy x H7 y7
        have ro7 : RepO X.K N O5 H7 F7 := RepO.next (show RepO X.K N O5 H5 F5 from r5.o) c7
        obtain ⟨hD7, nD7, fD7⟩ := c7.apart hD5 nD5 fD5
        generalize hXb : (X.blk s3 H3 scope (compEnvC scope cl s3.heap.objs.size X.env) fp).wish (xeB X N xr (X.blk s3 H3 scope (compEnvC scope cl s3.heap.objs.size X.env) fp)) = Xb at *
        have bk : Bk X N scope xr Xb ⟨O5, F7, H7, N.EX⟩ := ⟨⟨s3, H3, _, cl, fp, _, hXb.symm⟩, rfl, fun ht => by
          rw [← hXb]
          exact fun pins σ H s e s' I c => ⟨ht, pins, σ, H, s, O5, F7, H7, ro7, I.unwish, c⟩⟩
        have rs7 : RepS Xb ⟨O5, F7, H7, N.EX⟩ Rb O5 σ5 H7 F7 := by
          rw [← hXb]
          exact (r5.ent ro7.here s7').cx rfl rfl rfl
        have I7' := I7.pinned (stat I7 n7) (T.obj _ _ st7)
        have I7w : Inv Xb ([] ++ pinsAt fp s7.heap) σ5 H7 s7 := by rw [← hXb]; exact I7'.wish _
        have ag := q5 Xb _ bk _ O5 _ s7 σ5 H7 F7 x u rs7 (by rw [← hXb]; exact rp7) I7w r7
        have conv : ∀ e s', Xb.xe e s' → notedBy (model X.prog X.w) X.A (compEnvC scope cl s3.heap.objs.size X.env) (fun e s' => compEnds (model X.prog X.w) X.A X.xe use Qf (.ref D) (compEnvC scope cl s3.heap.objs.size X.env) (.error e) s') e s' := fun e s' hx => by
          have z := out e s' (by rw [← hXb] at hx; exact hx)
          cases use <;> exact z
        have fin : ∀ {s' : Shared} {σ8 : L2.St} {H8 : Hp} {R1 : Rho} {O8 : Os} {F8 : Hp} {acc' : List K12.D} {ws' : List V}, Inv Xb ([] ++ pinsAt fp s7.heap) σ8 H8 s' → SubR R1 Rb → RepO X.K N O8 H8 F8 → RepS Xb ⟨O5, F7, H7, N.EX⟩ R1 O8 σ8 H8 F8 ∨ (∃ H9, RepS Xb ⟨O5, F7, H7, N.EX⟩ R1 O8 σ8 H9 F8) → Same F7 F8 →
            H8 D = some (.lst ws') → F8 D = none → D ∉ dom O8 → RpL X.K F8 ws' acc' → CompA (Bk X N scope xr) tg ifs elt Rb Q (ds.drop (i + 1)) acc' O8 → ∃ m, m < ds.length - i ∧ ∃ i σ' H' O' F' acc ws, Inv (X.blk s3 H3 scope (compEnvC scope cl s3.heap.objs.size X.env) fp) [] σ' H' s' ∧ tn i s'.heap ∧ (∀ b ∈ fp, H' b = none) ∧ Same F1 F' ∧ RepS (X.blk s3 H3 scope (compEnvC scope cl s3.heap.objs.size X.env) fp) N Rb O' σ' H' F' ∧
              H' D = some (.lst ws) ∧ F' D = none ∧ D ∉ dom O' ∧ RpL X.K F' ws acc ∧ m = ds.length - i ∧ i ≤ ds.length ∧ CompA (Bk X N scope xr) tg ifs elt Rb Q (ds.drop i) acc O' := by
          intro s' σ8 H8 R1 O8 F8 acc' ws' I8 hsub ro8 rs8 s8 hD8 fD8 nD8 l8 q8
          have rs : ∃ H9, RepS Xb ⟨O5, F7, H7, N.EX⟩ R1 O8 σ8 H9 F8 := rs8.elim (fun z => ⟨_, z⟩) id
          obtain ⟨H9, rs⟩ := rs
          rw [← hXb] at I8 rs
          have I8' := I8.unwish
          have pin' : ∀ b ∈ fp, ∀ o, s7.heap.get? b = some o → s'.heap.get? b = some o ∧ H8 b = none := fun b hb o e =>
            let z := I8'.pin (b, o) (List.mem_append_right _ (List.mem_append_right _ (mem_pinsAt hb e)))
            ⟨z.1, z.2.1⟩
          refine ⟨ds.length - (i + 1), by omega, i + 1, σ8, H8, O8, F8, acc', ws', I8'.unpinned (pins := []), T.keep _ _ _ st7 fun b hb o e => (pin' b hb o e).1, fun b hb => ?_, (sF5.trans s7').trans s8, ?_, hD8, fD8, nD8, l8, rfl, hlt, q8⟩
          · obtain ⟨o, e, _⟩ := T.obj _ _ st7 b hb
            exact (pin' b hb o e).2
          · have z : RepS (X.blk s3 H3 scope (compEnvC scope cl s3.heap.objs.size X.env) fp) ⟨O5, F7, H7, N.EX⟩ Rb O8 σ8 H9 F8 := (rs.less hsub).cx rfl rfl rfl
            exact z.ent ro8 (Same.refl _)
        have hpw : Xb.prog = X.prog ∧ Xb.w = X.w ∧ Xb.A = X.A ∧ Xb.env = compEnvC scope cl s3.heap.objs.size X.env ∧ Xb.K = X.K ∧ Xb.calm = X.calm := by rw [← hXb]; exact ⟨rfl, rfl, rfl, rfl, rfl, rfl⟩
        obtain ⟨w1, w2, w3, w4, w5, w6⟩ := hpw
        rw [w1, w2, w3, w4] at ag
        refine wpAny_mono ag (fun _ s8 ⟨σ8, H8, I8, e8, R1, rs8, hsub, ts⟩ => ?_) conv
        subst e8
        have tr := AIfs.run ts rs8 I8
        rw [w1, w2, w3, w4] at tr
        refine wpAny_mono tr (fun b s9 ⟨H9, I9, O9, F9, sF9, rs9, q9⟩ => ?_) conv
        have ro9' : RepO X.K ⟨O5, F7, H8, N.EX⟩ O9 H9 F9 := by rw [← w5]; exact rs9.o
        obtain ⟨hD9, nD9, fD9⟩ := ro9'.apart hD7 nD7 fD7
        cases b with
        | false =>
          simp only [Bool.false_eq_true, if_false] at q9 ⊢
          exact fin I9 hsub (ro7.next ro9') (.inl rs9) sF9 hD9 fD9 nD9 (l5.mono (s7'.trans sF9)) q9
        | true =>
          simp only [if_true] at q9 ⊢
          have el := q9 σ8 H9 F9 rs9 _ s9 I9
          rw [w1, w2, w3, w4] at el
          refine wpAny_mono el (fun z s10 ⟨yv, H10, I10, r10, y, O10, F10, sF10, rs10, rp10, q10⟩ => ?_) conv
          have ro10' : RepO X.K ⟨O5, F7, H8, N.EX⟩ O10 H10 F10 := by rw [← w5]; exact rs10.o
          obtain ⟨hD10, nD10, fD10⟩ := ro10'.apart hD7 nD7 fD7
          have lw : ws.length < sizeLine := by rw [l5.len]; exact lt_line hacc
          have ap := app_ok (X := Xb) (E := Xb.xe) (Q := fun _ s' => ∃ m, m < ds.length - i ∧ ∃ i σ' H' O' F' acc ws, Inv (X.blk s3 H3 scope (compEnvC scope cl s3.heap.objs.size X.env) fp) [] σ' H' s' ∧ tn i s'.heap ∧ (∀ b ∈ fp, H' b = none) ∧ Same F1 F' ∧ RepS (X.blk s3 H3 scope (compEnvC scope cl s3.heap.objs.size X.env) fp) N Rb O' σ' H' F' ∧
              H' D = some (.lst ws) ∧ F' D = none ∧ D ∉ dom O' ∧ RpL X.K F' ws acc ∧ m = ds.length - i ∧ i ≤ ds.length ∧ CompA (Bk X N scope xr) tg ifs elt Rb Q (ds.drop i) acc O') I10 hD10 lw r10 fun s11 I11 => fin (acc' := acc ++ [y]) I11 hsub ((ro7.next ro10').touch nD10 fD10 oldD) (.inr ⟨_, rs10⟩) (sF9.trans sF10) upd_same fD10 nD10 ((l5.mono (s7'.trans (sF9.trans sF10))).app (.cons (by rw [← w5]; exact rp10) .nil)) q10
          rw [w1, w2, w3] at ap
          exact wpAny_mono ap (fun _ _ q => q) conv
      · have e : i = ds.length := by omega
        subst e
        rw [List.drop_length] at q5
        have td := T.done (X.blk s3 H3 scope (compEnvC scope cl s3.heap.objs.size X.env) fp) rfl rfl rfl hc _ [] s5 _ H5 (fun _ _ => False) I5 (stat I5 n5) st5 ((src N O5 H5 F5 r5.o sF5 _).2 rfl)
        refine thnF td fun rr s6 ⟨hr, I6⟩ => ?_
        subst hr
        have I7 : Inv X pins σ H5 s6 := back I6
        have nC : H5 s3.heap.objs.size = none := I6.free
        obtain ⟨m, hn, _⟩ := I6.loc
        have sD := same_new fD5 (HO.lst ws)
        exact hRR D s3.heap.objs.size s6 m H5 I7 ⟨.lst acc, O5, L2.upd F5 D (.lst ws), (sF1.trans sF5).trans sD, r1.go (r5.o.take hD5 nD5 fD5 oldD) (sF5.trans sD), .lst upd_same (l5.mono sD), q5⟩ hn (fpC nC) _ rfl
    · obtain ⟨q, hq, e⟩ := List.mem_map.mp z
      exact r1.o.ne hDn hq e
  exact codeAny_compStart_list loop (T.self X.A 0 _ _ _ st4 loop)
theorem ae_lc (xr : Bool) (own : List (Str × Nat)) (hx : xr = true → TkA X N ∧ X.stack = X.env :: X.outer ∧ X.env.frame = some X.env.locals) (hc : X.calm = true) (hN : X.N.Nodup) (ok : BlkOk X.N X.env.scope scope own)
    (rb : RbOk (own.map (·.2)) (fun x => Vis (relS scope X.env.scope) x ∧ (x == ("__debug__" : Str)) = false ∧ (x == ("__classdict__" : Str)) = false) 0 R Rb)
    (h : AI X N tg iter R O fun ds O1 => CompA (Bk X N scope xr) tg ifs elt Rb Q ds [] O1)
    (hs : ∀ x, foldedSetIterable iter X.env x = pure x := by intro _; rfl) : AE X N (.ListComp elt [⟨tg, iter, ifs, 0⟩] scope pos) R O Q := fun σ H F r pins s I => by
  rw [eval_ListComp]
  refine lc_A xr own hx hc hN ok rb h hs r I fun L C s6 m H5 I7 q hn f ce hce => ?_
  obtain ⟨g0, g1, g2, g3, g4, g5⟩ := f
  subst hce
  exact ⟨m, hn, fun h'' sb => ⟨.ref L, H5, I7.turned (t' := s6.toks) (fun b o hb e => (sb.2 b hb).trans e) g0 g1 g3 g4 g5, rfl, q⟩⟩
/-- name = [..] on one line, the name a local -/
theorem as_setLc {E : AEnds} {y : Str} {py spos : Pos} (xr : Bool) (own : List (Str × Nat)) (hx : xr = true → TkA X N ∧ X.stack = X.env :: X.outer ∧ X.env.frame = some X.env.locals) (hc : X.calm = true) (hN : X.N.Nodup) (ok : BlkOk X.N X.env.scope scope own)
    (sy : StX X y) (hyl : X.env.scope.names.lookup y = some .local) {o0 : Option D} (hy : (y, o0) ∈ R)
    (rb : RbOk (own.map (·.2)) (fun x => Vis (relS scope X.env.scope) x ∧ (x == ("__debug__" : Str)) = false ∧ (x == ("__classdict__" : Str)) = false) 0 R Rb)
    (h : AI X N tg iter R O fun ds O1 => CompA (Bk X N scope xr) tg ifs elt Rb (fun d O2 => ∃ R', Put R y d R' ∧ E.nx R' O2) ds [] O1)
    (hsw : swapsWith (.ListComp elt [⟨tg, iter, ifs, 0⟩] scope pos) (some (.Name y py)) spos.line X.env = pure true)
    (hs : ∀ x, foldedSetIterable iter X.env x = pure x := by intro _; rfl) : AS X N (.Assign [.Name y py] (.ListComp elt [⟨tg, iter, ifs, 0⟩] scope pos) spos) R O E := fun σ H F r pins s I => by
  obtain ⟨i, hi⟩ := List.getElem?_of_mem hy
  have hNi : X.N[i]? = some y := by rw [← r.names, List.getElem?_map, hi] <;> rfl
  rw [exec_Assign_Name_used _ _ _ _ hsw]
  refine wpAny_bind (wpAny_standAt (wpAny_bind ?_))
  show wpAny _ X.A (do let _ ← comprehension (.ListComp elt [⟨tg, iter, ifs, 0⟩] scope pos) scope X.env (firstIterPos [⟨tg, iter, ifs, 0⟩] pos) (newList []) false (eval iter X.env) (some (assign (.Name y py) X.env))) _ _ s
  refine wpAny_bind (thn (lc_A (Qf := fun _ s' => SP X pins (conc X N F E) .next s') xr own hx hc hN ok rb h hs r I fun L C s' m H' I' q hn f ce hce => ?_) fun _ s' hq => wpAny_pure (wpAny_pure hq))
  subst hce
  show wpAny _ _ (assign (.Name y py) X.env (.ref L)) _ _ _
  obtain ⟨d, O', F', sF, r', rp', R', hp, q⟩ := q
  refine wpAny_assign_Name (store_ok2 (v := V.ref L) I' hN hNi (.inl hyl) rfl (fun s2 I2 ⟨a, sb, ha⟩ => ?_) (.inr hyl))
  obtain ⟨f0, f1, f2, f3, f4, f5⟩ := f
  have haC : ce.locals ≠ a := by
    rcases ha with z | z
    · rw [z]; exact f1
    · exact fun e => f4 y a z e.symm
  refine ⟨m, hn.sameBut sb haC, fun h3 sb3 => ?_⟩
  obtain ⟨j, o', hj, e⟩ := hp.ix
  have hN' : X.N[j]? = some y := by rw [← r.names, List.getElem?_map, hj] <;> rfl
  have ij : j = i := nodup_ix hN hN' hNi
  subst ij
  subst e
  exact ⟨_, H', I2.turned (t' := s2.toks) (fun b o hb e => (sb3.2 b hb).trans e) f0 f1 f3 f4 f5, _, O', F', sF, r'.put hN sy.vis hj rp', q⟩
end
end K12
/-! A13: own errors: made, raised. -/
namespace K12
open PySem PySem.Spec PyProof.Rows L2

/-- what the written part says of the base class of the errors, at S: its __init__ is ValueError's -/
structure BaseC (K : PySem.W.Frag) (S : Addr) : Prop where
  ga : PySem.W.specialIn K (.ref S) "__getattribute__" = some (some (.builtin "type.__getattribute__"))
  rd : PySem.W.readsIn K S (.type "type") = true
  vi : PySem.W.findCls K (.ref S) (.type "type") "__init__" = some (.val (.builtin "ValueError.__init__"))
section
variable {X : Cx} {e : Expr} {es : List Expr} {ta : TA} {x : Str} {p1 p2 pos : Pos}
theorem pe_sinit {pl : Sem Bool} {S : Addr} (B : BaseC X.K S) (hg : Gl X x) (hm : X.mg x = some (.ref S)) (ha : PA X (e :: es) ta) (hdb : (x == ("__debug__" : Str)) = false := by decide)
    (hc : eval (.Call (.Attribute (.Name x p1) "__init__" p2) (e :: es) [] pos) X.env = (do
      let ov ← eval (.Name x p1) X.env
      standAt p2.atName
      let (f, first) ← holding [ov] (getMethod ov "__init__" pl)
      callWith pos f first (backTo pos (starEach (e :: es) X.env)) (backToKw pos (keywordEach [] X.env))) := by rfl)
    (he : starEach (e :: es) X.env = (false, eval e X.env) :: starEach es X.env := by rfl) (hpl : (backTo pos (starEach es X.env)).any (·.1) = false := by rfl) :
    PE X (.Call (.Attribute (.Name x p1) "__init__" p2) (e :: es) [] pos) (tVeI X.K ta) := by
  refine ⟨fun pins s σ H Q I h => PySem.W.methodCall_KW (ld_glob I hg hm ?_ hdb) hc⟩
  refine PySem.W.method_cls I.kIn B.ga (PySem.W.cls_value I.kIn B.rd B.vi (by decide +kernel) ?_)
  show wpAny _ _ (callWith pos (Value.builtin "ValueError.__init__") [] (backTo pos (starEach (e :: es) X.env)) []) _ _ _
  refine PyProof.Rows.callWith_method1 (thn (ha.run pos pins _ σ H _ (I.tok _) h) fun us s1 ⟨vs, H1, I1, r1, a, C, ws, ev, hl, T, ea, q⟩ => ?_) he hpl
  subst ev
  cases r1 with
  | @cons _ u0 _ ur ra rw' =>
    cases (show u0 = Value.ref a from ra)
    refine oinit_ok T I1 ea ?_ fun s' J => ⟨.non, H1, J, rfl, q⟩
    have := Paired.length rw'
    rw [sizeLine_eq]
    omega
end
/-- an error of the class at C with two fields -/
def initSp (C : Addr) (f1 f2 : Str) : Sp := fun vs H Q E => ∃ (a : Addr) (v1 v2 : V), vs = [.ref a, v1, v2] ∧ H a = some (exo a C none) ∧
  ∀ dx, H dx = none → dx ≠ a → Q .non (L2.upd (L2.upd (L2.upd H dx (exd dx [(f1, v1)])) a (exo a C (some dx))) dx (exd dx [(f2, v2), (f1, v1)]))
section
variable {X : Cx} {N : Ent} {R R' : Rho} {O O1 O' : Os} {E : AEnds} {e : Expr} {es : List Expr} {p pos : Pos} {x f1 f2 : Str}
theorem as_raise2 {C fI : Addr} {k : Nat} {fd : FuncData} {ps : List Str} (T : OexC X.K C) (iC : PySem.W.findIn X.K (.ref C) "__init__" = some (some (.ref fI))) (tI : PySem.W.typeIn X.K (.ref fI) = some (.type "function"))
    (F1 : FnOk X.prog X.w X.K X.mg X.base (L2.CX X.prog X.w) k fI fd ps (initSp C f1 f2)) (hr : Room (k + 1) X.A) (hb : Binds X.K fd ps []) (hg : Gl X x) (hm : X.mg x = some (.ref C)) (hc : X.calm = true) (tk : TkA X N)
    (h : AA X N (e :: es) R O fun ds O1 => ∃ d1 d2, ds = [d1, d2] ∧ N.EX C [(f2, d2), (f1, d1)] O1)
    (hdb : (x == ("__debug__" : Str)) = false := by decide) (he : starEach (e :: es) X.env = (false, eval e X.env) :: starEach es X.env := by rfl) (hpl : (backTo p (starEach es X.env)).any (·.1) = false := by rfl) {pn : Pos} :
    AS X N (.Raise (some (.Call (.Name x pn) (e :: es) [] p)) none pos) R O E := fun σ H F r => by
  have hx : Passes (L2.CX X.prog X.w) X (fun _ _ _ => False) := fun _ _ _ _ _ _ _ ⟨_, _, _, _, _, _, _, _, _, _, _, _, z⟩ => z.elim
  refine tMs.of (ps_raise hc tk (pmk_oex (ds := []) (dvs := []) T iC tI F1 hr hb .nil hx hg hm paM hdb he hpl)) ((h σ H F r).imp fun vs H1 ⟨ds, O1, F1', s1, r1, p1, d1, d2, ed, q⟩ => ?_)
  subst ed
  cases p1 with
  | @cons v1 _ vs _ q1 p1 =>
    cases p1 with
    | @cons v2 _ vs _ q2 p1 =>
      cases p1
      refine ⟨(by show 2 ≤ 1000; decide), fun a ha => ⟨a, v1, v2, rfl, upd_same, fun dx hdx hne => ⟨rfl, dx, [(f2, v2), (f1, v1)], ?_, upd_same, ?_, ?_⟩⟩⟩
      · rw [upd_ne (Ne.symm hne), upd_same]
      · rw [upd_ne hne] at hdx; exact hdx
      · rw [upd_ne hne] at hdx
        refine ⟨C, dx, [(f2, d2), (f1, d1)], [(f2, v2), (f1, v1)], O1, F1', rfl, rfl, upd_same, .cons q2 (.cons q1 .nil), ?_, q⟩
        have e : L2.upd (del (L2.upd (L2.upd (L2.upd (L2.upd H1 a (exo a C none)) dx (exd dx [(f1, v1)])) a (exo a C (some dx))) dx (exd dx [(f2, v2), (f1, v1)])) a) dx (.xd [(f2, v2), (f1, v1)]) = L2.upd H1 dx (.xd [(f2, v2), (f1, v1)]) := by
          funext b
          by_cases hb : b = dx
          · subst hb; rw [upd_same, upd_same]
          · rw [upd_ne hb, upd_ne hb]
            by_cases hba : b = a
            · subst hba; rw [del_same, ha]
            · rw [del_ne hba, upd_ne hb, upd_ne hba, upd_ne hb, upd_ne hba]
        rw [e]
        exact r1.o.oth hdx
end
end K12
/-! A14: try with two clauses, the second over two classes. -/
namespace K12
open PySem PySem.Spec PyProof.Rows L2

def blankR (R : Rho) : Rho := R.map fun p => (p.1, none)
/-- the caught error a, its class C, its dict dd, as the suite's entry N2 has it -/
structure ExF (X : Cx) (N2 : Ent) (a : Addr) (oe : Obj) (C dd : Addr) (fs : List (Str × D)) : Prop where
  z : Zc (.ref C) (some dd) oe
  f : ∃ vs, oe.data = .fields vs
  d : ∃ fvs, N2.H dd = some (.xd fvs) ∧ RpA X.K N2.F fvs fs
  o : dd ∉ dom N2.O
def SuiteA (X : Cx) (N : Ent) (n : Str) (suite : List Stmt) (R : Rho) (E : AEnds) (C : Addr) (fs : List (Str × D)) (O1 : Os) : Prop :=
  ∀ a oe dd pn N2, ExF X N2 a oe C dd fs → N2.EX = N.EX → ∃ R1, Put (blankR R) n (.ref a) R1 ∧ ASs (X.suite a ((a, oe) :: pn)) N2 suite R1 O1
    { nx := fun R2 O2 => ∀ i, X.N[i]? = some n → E.nx (R2.set i (n, none)) O2, rt := E.rt }
section
variable {X : Cx} {N : Ent} {R : Rho} {O : Os} {E : AEnds} {body suite1 suite2 : List Stmt} {b1 b2 : Stmt} {rest : List ExceptHandler} {n x1 x2 x3 : Str} {C1 C2 C3 : Addr} {pos pos1 pos2 p1 p2 p3 pt : Pos} {kk : Nat}
theorem blank_names : (blankR R).map (·.1) = R.map (·.1) := by
  unfold blankR
  rw [List.map_map]
  rfl
/-- a suite behind the catch -/
theorem suite_run {a : Addr} {oe : Obj} {C dd : Addr} {fs : List (Str × D)} {fvs : List (Str × V)} {O1 : Os} {σ : L2.St} {H F : Hp} {pn pins : List (Addr × Obj)} {s : Shared} {i : Nat} {b : Stmt} {su : List Stmt} {pos' : Pos} (hN : X.N.Nodup) (hi : X.N[i]? = some n) (hln : X.env.kindOf n = some .local)
    (hv : VisX X n) (rn : R.map (·.1) = X.N) (sa : SuiteA X N n (b :: su) R E C fs O1) (z : Zc (.ref C) (some dd) oe) (f : ∃ vs, oe.data = .fields vs) (hd : H dd = some (.xd fvs)) (rd : RpA X.K F fvs fs) (ro : RepO X.K N O1 H F)
    (ok : X.Ok) (hpn : pn = X.pn ++ pins) (hσ : σ.length = X.N.length) (I : Inv (X.suite a ((a, oe) :: pn)) [] (σ.set i (some (.ref a))) H s) {F0 : Hp} (sF : Same F0 F) :
    wpAny (model X.prog X.w) (X.A.mark (some (.ref a))) (execs (b :: su) X.env) (fun fl s6 => wpAny (model X.prog X.w) X.A (do bindName X.env n .none; unbindBehindTheSuite X.env n pos') (fun _ s7 => SP X pins (conc X N F0 E) fl s7) X.xe s6) (fun _ _ => False) s := by
  have hdO : dd ∉ dom O1 := fun hm => by
    obtain ⟨q, hq, e⟩ := List.mem_map.mp hm
    have m := (ro.ob q hq).2
    rw [e] at m
    cases hq2 : q.2 with
    | lst ds => rw [hq2] at m; obtain ⟨_, e1, _⟩ := m; rw [hd] at e1; cases e1
    | dic ds => rw [hq2] at m; obtain ⟨_, e1, _⟩ := m; rw [hd] at e1; cases e1
    | dct ds => rw [hq2] at m; obtain ⟨_, e1, _⟩ := m; rw [hd] at e1; cases e1
    | ins C ds => rw [hq2] at m; obtain ⟨_, _, e1, _⟩ := m; rw [hd] at e1; cases e1
  obtain ⟨R1, hp, st⟩ := sa a oe dd pn ⟨O1, F, H, N.EX⟩ ⟨z, f, ⟨fvs, hd, rd⟩, hdO⟩ rfl
  have r0 : RepS X ⟨O1, F, H, N.EX⟩ (blankR R) O1 σ H F := by
    refine ⟨ro.here, blank_names.trans rn, hσ, fun j y d q => ?_, fun y d q => ?_⟩
    · unfold blankR at q
      rw [List.getElem?_map] at q
      obtain ⟨_, _, e⟩ := Option.map_eq_some_iff.mp q
      cases e
    · unfold blankR at q
      obtain ⟨_, _, e⟩ := List.mem_map.mp q
      cases e
  obtain ⟨j, o', hj, e⟩ := hp.ix
  have hN' : X.N[j]? = some n := by rw [← r0.names, List.getElem?_map, hj] <;> rfl
  have ij : j = i := nodup_ix hN hN' hi
  subst ij
  subst e
  have r1 := r0.put hN hv hj (.ref a)
  have rs : RepS (X.suite a ((a, oe) :: pn)) ⟨O1, F, H, N.EX⟩ _ O1 _ H F := r1.cx rfl rfl rfl
  refine wpAny_mono (st _ _ _ rs [] s I) (fun fl s6 q => ?_) fun _ _ z => z.elim
  have end_ : ∀ {σ6 : L2.St} {H6 : Hp} {Q : Shared → Prop}, Inv (X.suite a ((a, oe) :: pn)) [] σ6 H6 s6 → (∀ s7, Inv X pins (σ6.set j none) H6 s7 → Q s7) →
      wpAny (model X.prog X.w) X.A (do bindName X.env n .none; unbindBehindTheSuite X.env n pos') (fun _ s7 => Q s7) X.xe s6 := fun {σ6 H6 Q} S6 hq => by
    subst hpn
    exact gone_ok (S6.unsuite ok) hN hi hln hq
  cases fl with
  | next =>
    obtain ⟨σ6, H6, S6, R2, O2, F2, s2, r2, q2⟩ := q
    refine end_ S6 fun s7 J7 => ⟨_, _, J7, R2.set j (n, none), O2, F2, sF.trans s2, ?_, q2 j hi⟩
    have r3 : RepS X ⟨O1, F, H, N.EX⟩ R2 O2 σ6 H6 F2 := r2.cx rfl rfl rfl
    have hlt : j < R2.length := by
      have h1 : R2.length = X.N.length := by rw [← r3.names, List.length_map]
      rw [h1]
      exact (List.getElem?_eq_some_iff.mp hi).1
    refine ⟨ro.next r3.o, ?_, by rw [List.length_set]; exact r3.len, fun l y d q => ?_, fun y d q => ?_⟩
    · rw [List.map_set, r3.names]
      refine List.ext_getElem? fun l => ?_
      by_cases e : j = l
      · subst e
        rw [List.getElem?_set_self (List.getElem?_eq_some_iff.mp hi).1, hi]
      · rw [List.getElem?_set_ne e]
    · by_cases e : l = j
      · subst e
        rw [List.getElem?_set_self hlt] at q
        cases q
      · rw [List.getElem?_set_ne (Ne.symm e)] at q
        obtain ⟨v, h1, h2⟩ := r3.sl l y d q
        exact ⟨v, by rw [List.getElem?_set_ne (Ne.symm e)]; exact h1, h2⟩
    · obtain ⟨l, hl⟩ := List.getElem?_of_mem q
      by_cases e : l = j
      · subst e
        rw [List.getElem?_set_self hlt] at hl
        cases hl
      · rw [List.getElem?_set_ne (Ne.symm e)] at hl
        exact r3.vis y d (List.mem_of_getElem? hl)
  | brk => obtain ⟨σ6, H6, S6, R2, O2, F2, s2, r2, q2⟩ := q; exact q2.elim
  | cont => obtain ⟨σ6, H6, S6, R2, O2, F2, s2, r2, q2⟩ := q; exact q2.elim
  | ret u =>
    obtain ⟨v6, σ6, H6, S6, rv, d, O2, F2, s2, r2, rp2, q2⟩ := q
    exact end_ S6 fun s7 J7 => ⟨_, _, _, J7, rv, d, O2, F2, sF.trans s2, ro.next r2, rp2, q2⟩

theorem as_try2 (hs : X.stack = X.env :: X.outer) (hf : X.env.frame = some X.env.locals) (hN : X.N.Nodup) {i : Nat} (hi : X.N[i]? = some n) (hln : X.env.kindOf n = some .local) (hv : VisX X n)
    (c1 : Gl X x1 ∧ X.mg x1 = some (.ref C1) ∧ (x1 == ("__debug__" : Str)) = false) (c2 : Gl X x2 ∧ X.mg x2 = some (.ref C2) ∧ (x2 == ("__debug__" : Str)) = false) (c3 : Gl X x3 ∧ X.mg x3 = some (.ref C3) ∧ (x3 == ("__debug__" : Str)) = false)
    (hb : ∀ (F H : Hp) (pn : List (Addr × Obj)) (xe : Value → Shared → Prop) (EX : Addr → List (Str × D) → Os → Prop), (∀ C fs O1, EX C fs O1 ↔ (PySem.W.exmOne X.K (.ref C) (.ref C1) = some true ∧ SuiteA X N n (b1 :: suite1) R E C fs O1) ∨
        (PySem.W.exmOne X.K (.ref C) (.ref C1) = some false ∧ PySem.W.exmAny X.K (.ref C) [.ref C2, .ref C3] = some true ∧ SuiteA X N n (b2 :: suite2) R E C fs O1)) →
      TkA (X.tr pn xe) ⟨O, F, H, EX⟩ → PassesOwn (model X.prog X.w) X.A X.env xe → ASs (X.tr pn xe) ⟨O, F, H, EX⟩ body R O E)
    (hst2 : starEach [.Name x2 p2, .Name x3 p3] X.env = (false, eval (.Name x2 p2) X.env) :: starEach [.Name x3 p3] X.env := by rfl) (hst3 : starEach [.Name x3 p3] X.env = (false, eval (.Name x3 p3) X.env) :: starEach [] X.env := by rfl) :
    AS X N (.Try body (.ExceptHandler (some (.Name x1 p1)) (some n) (b1 :: suite1) pos1 :: .ExceptHandler (some (.Tuple [.Name x2 p2, .Name x3 p3] kk pt)) (some n) (b2 :: suite2) pos2 :: rest) [] [] pos) R O E := fun σ H F r pins s I => by
  have ok := I.ok
  have hfr : X.A.frames = some (X.env :: X.outer) := by rw [ok.frames, hs]
  have hloc : Loc X.env.scope n := .inl hln
  obtain ⟨EX, hEX⟩ : ∃ EX : Addr → List (Str × D) → Os → Prop, ∀ C fs O1, EX C fs O1 ↔ (PySem.W.exmOne X.K (.ref C) (.ref C1) = some true ∧ SuiteA X N n (b1 :: suite1) R E C fs O1) ∨
      (PySem.W.exmOne X.K (.ref C) (.ref C1) = some false ∧ PySem.W.exmAny X.K (.ref C) [.ref C2, .ref C3] = some true ∧ SuiteA X N n (b2 :: suite2) R E C fs O1) := ⟨_, fun _ _ _ => Iff.rfl⟩
  have nr : ∀ {O' : Os} {H' F' : Hp}, RepO X.K ⟨O, F, H, EX⟩ O' H' F' → RepO X.K N O' H' F' := fun q => r.o.next q
  refine wpAny_Try_except ?_
  have r' : RepS (X.tr (X.pn ++ pins) (fun e s₁ => wpAny (model X.prog X.w) X.A (noteFrame e X.env) (fun _ s₂ => wpAny (model X.prog X.w) X.A (setFlight e none) (fun _ s₃ =>
    wpAny (model X.prog X.w) X.A (handleBy e X.env (.ExceptHandler (some (.Name x1 p1)) (some n) (b1 :: suite1) pos1 :: .ExceptHandler (some (.Tuple [.Name x2 p2, .Name x3 p3] kk pt)) (some n) (b2 :: suite2) pos2 :: rest)) (SP X pins (conc X N F E)) X.xe s₃) X.xe s₂) X.xe s₁)) ⟨O, F, H, EX⟩ R O σ H F := (r.ent r.o.here (Same.refl _)).cx rfl rfl rfl
  refine wpAny_mono (hb F H (X.pn ++ pins) _ EX hEX (fun u s' xx => ?_) PassesOwn.looking σ H F r' [] s (I.toTry _)) (fun f s1 hsp => ?_) (fun e s1 he => he)
  · obtain ⟨a, B, sI, pins', σ', H', cls, d, rfl, J', nb, up, sky, na, os, ag, xa⟩ := xx
    have J : Inv X pins σ' H' sI := J'.ofTry ok
    have sky' : Sky B (X.env :: X.outer) a (Zc cls d) X.env.locals s'.heap := by rw [← hs]; exact sky
    show wpAny (model X.prog X.w) X.A (noteFrame (.ref a) X.env) _ _ _
    refine Sky.land Zc.steady hfr hf sky' fun h3 fl3 up3 => ?_
    have J3 : Inv X pins σ' H' { s' with heap := h3 } := J.landed nb fl3.1 (up.trans up3) os ag
    obtain ⟨oe3, vs3, he3, hz3, hd3⟩ := fl3.there
    have nfr : a ∉ frs (X.env :: X.outer) := fun hm => by
      obtain ⟨_, o', e', hnf⟩ := fl3.2.2.1.mem hm
      rw [he3] at e'; cases e'
      exact hnf _ hd3
    have nL : a ≠ X.env.locals := fun z => nfr (List.mem_filterMap.mpr ⟨X.env, List.mem_cons_self, by rw [hf, z]⟩)
    have nF : a ∉ X.fs := fun hm => by
      obtain ⟨e, he, q⟩ := List.mem_filterMap.mp hm
      exact nfr (List.mem_filterMap.mpr ⟨e, List.mem_cons_of_mem _ he, q⟩)
    have S3 := J3.suite he3 hd3 na nL nF
    obtain ⟨C, dd, fs, fvs, O', F', e1, e2, hdd, ra, c, hx⟩ := xa
    subst e1 e2
    have ro : RepO X.K N O' H' F' := nr c
    have LT : PySem.W.Looks (model X.prog X.w) h3 (typeOf (.ref a)) (.ref C) := fun A Q E s k q => wpAny_typeOf_ref (k _ _ he3) (by rw [hz3.1]; exact q)
    have go : ∀ {b : Stmt} {su : List Stmt} {p' : Pos}, SuiteA X N n (b :: su) R E C fs O' → ∀ h4, HandSPX.FlyingZ B (X.env :: X.outer) a (Zc (.ref C) (some dd)) h4 → h3.UpToSlots h4 →
        wpAny (model X.prog X.w) (X.A.mark (some (.ref a))) (storeName X.env n (.ref a)) (fun _ s5 => wpAny (model X.prog X.w) (X.A.mark (some (.ref a))) (execs (b :: su) X.env) (fun fl s6 => wpAny (model X.prog X.w) X.A (do bindName X.env n .none; unbindBehindTheSuite X.env n p') (fun _ s7 => SP X pins (conc X N F E) fl s7) X.xe s6) (fun _ _ => False) s5) (fun _ _ => False) { s' with heap := h4 } := fun {b su p'} sa h4 fl4 up4 => by
      have J4 : Inv X pins σ' H' { s' with heap := h4 } := J.landed nb fl4.1 ((up.trans up3).trans up4) os ag
      obtain ⟨oe4, vs4, he4, hz4, hd4⟩ := fl4.there
      have S4 := J4.suite he4 hd4 na nL nF
      refine store_ok (X := X.suite a ((a, oe4) :: (X.pn ++ pins))) (v := .ref a) S4 hN hi hloc rfl (fun s5 S5 => ?_) (.inr hln)
      exact suite_run hN hi hln hv (r.names) sa hz4 ⟨_, hd4⟩ hdd ra ro ok rfl J.len S5 c.grow
    rcases (hEX C fs O').mp hx with ⟨t1, sa⟩ | ⟨t1, t2, sa⟩
    · refine wpAny_handleBy_cons (codeAny_handlers_test ?_) (by intro q; cases q)
      have LM := PySem.W.exm_one (M := model X.prog X.w) (J3.kIn) LT t1
      refine ld_glob (X := X.suite a ((a, oe3) :: (X.pn ++ pins))) S3 c1.1 c1.2.1 (LM.here ?_) c1.2.2
      refine codeAny_handlers_suite_as (HandSPX.lands_againZ fl3 fun h4 fl4 up4 => ?_)
      exact wpAny_mono (go sa h4 fl4 up4) (fun _ s5 z => wpAny_mono z (fun _ _ q => q) fun _ _ f => f.elim) fun _ _ f => f.elim
    · refine wpAny_handleBy_cons (codeAny_handlers_test ?_) (by intro q; cases q)
      have LM := PySem.W.exm_one (M := model X.prog X.w) (J3.kIn) LT t1
      refine ld_glob (X := X.suite a ((a, oe3) :: (X.pn ++ pins))) S3 c1.1 c1.2.1 (LM.here ?_) c1.2.2
      show wpAny (model X.prog X.w) X.A (handleBy (.ref a) X.env _) _ _ _
      refine wpAny_handleBy_cons (codeAny_handlers_test ?_) (by intro q; cases q)
      refine Tuple_ ?_
      rw [hst2]
      refine Calls.spliced_cons (ld_glob (X := X.suite a ((a, oe3) :: (X.pn ++ pins))) S3 c2.1 c2.2.1 ?_ c2.2.2)
      show wpAny _ _ (spliced (backTo pt (starEach [.Name x3 p3] X.env))) _ _ _
      rw [hst3]
      refine Calls.spliced_cons (ld_glob (X := X.suite a ((a, oe3) :: (X.pn ++ pins))) S3 c3.1 c3.2.1 ?_ c3.2.2)
      refine Calls.spliced_nil ?_
      refine wpAny_newObj_type ?_ (by show 2 ≤ sizeLine; decide)
      have kp : ∀ b o, h3.get? b = some o → (h3.push { cls := .type "tuple", data := .seq [Value.ref C2, Value.ref C3].toArray }).get? b = some o := fun b o q => Heap.get?_push_of_some _ q
      have hp : (h3.push { cls := .type "tuple", data := .seq [Value.ref C2, Value.ref C3].toArray }).get? h3.objs.size = some { cls := .type "tuple", data := .seq [Value.ref C2, Value.ref C3].toArray } := Heap.get?_push_size _ rfl
      have fl5 : HandSPX.FlyingZ B (X.env :: X.outer) a (Zc (.ref C) (some dd)) (h3.push { cls := .type "tuple", data := .seq [Value.ref C2, Value.ref C3].toArray }) := by
        obtain ⟨k1, k2, k3, oe, vs, T, oT, ts, he, hz, hd, h1, h2, h4, h5, h6, h7⟩ := fl3
        exact ⟨fun b o q => kp b o (k1 b o q), k2, k3.of_keeps fun b o q _ => ⟨o, kp b o q, rfl⟩, oe, vs, T, oT, ts, kp _ _ he, hz, hd, h1, h2, h4, kp _ _ h5, h6, h7⟩
      have LM2 := PySem.W.exm_tup2 (M := model X.prog X.w) (J3.kIn.keeps kp) (LT.keeps kp) hp t2
      refine LM2.here ?_
      refine codeAny_handlers_suite_as (HandSPX.lands_againZ fl5 fun h4 fl4 up4 => ?_)
      exact wpAny_mono (go sa h4 fl4 ((Heap.UpToSlots.of_keeps kp).trans up4)) (fun _ s5 z => wpAny_mono z (fun _ _ q => q) fun _ _ f => f.elim) fun _ _ f => f.elim
  · cases f with
    | next =>
      obtain ⟨σ', H', J', R', O', F', s1, r1, q⟩ := hsp
      exact wpAny_execs_nil ⟨σ', H', J'.ofTry ok, R', O', F', s1, (RepS.cx (X' := X) r1 rfl rfl rfl).ent (nr r1.o) (Same.refl _), q⟩
    | brk =>
      obtain ⟨σ', H', J', R', O', F', s1, r1, q⟩ := hsp
      exact ⟨σ', H', J'.ofTry ok, R', O', F', s1, (RepS.cx (X' := X) r1 rfl rfl rfl).ent (nr r1.o) (Same.refl _), q⟩
    | cont =>
      obtain ⟨σ', H', J', R', O', F', s1, r1, q⟩ := hsp
      exact ⟨σ', H', J'.ofTry ok, R', O', F', s1, (RepS.cx (X' := X) r1 rfl rfl rfl).ent (nr r1.o) (Same.refl _), q⟩
    | ret u =>
      obtain ⟨v, σ', H', J', rv, d, O', F', s1, r1, rp, q⟩ := hsp
      exact ⟨v, σ', H', J'.ofTry ok, rv, d, O', F', s1, nr r1, rp, q⟩
end
end K12
/-! A15: a caught error looked at; isinstance. -/
namespace PySem.W
open PySem PySem.Spec PySem.Calls PyProof.Rows
section
variable {prog : Program} {w : World} {A : Around} {E : Value → Shared → Prop} {s : Shared} {K : Frag} {x D : Addr} {ox : Obj} {od : Option Obj}
/-- e.__class__ of an own error that has its dict (after handS_kitx_exc's lemma for one without) -/
theorem k12_cls {Q : Option Value → Shared → Prop} (C : L2.ExcC K D) (KI : K.In s.heap) (I : InstAt s.heap x ox D od) (h : Q (some (.ref D)) { s with toks := s.toks + 1 }) : wpAny (model prog w) A (getAttr? (.ref x) "__class__") Q E s := by
  have hf : findObj K D od "__class__" = some (.bind (.builtin "getset_descriptor.__get__") (.builtin "object.__class__")) := by
    obtain ⟨cd, hc, _⟩ := any_some C.hd
    unfold findObj
    rw [hc, Option.bind_some, C.ha, Option.bind_some]
    simp [C.hn, C.ht]
  obtain ⟨hp, g, d, t, os⟩ := s
  have T0 := I.type (M := model prog w)
  have T1 := looks_findIn (M := model prog w) KI C.hg
  have T2 := looks_findIn (M := model prog w) KI C.hk
  have T3 := looks_find (M := model prog w) KI I hf
  have sub : Looks (model prog w) hp (isInstance (.ref x) (.type "BaseException")) true := T0.andThen (looks_subIn KI C.hs)
  have z2 : (Value.builtin "BaseException.__getattribute__" == Value.builtin "object.__getattribute__") = false := by decide +kernel
  have z1 : (onTheHeap (Value.ref D) && Value.builtin "BaseException.__getattribute__" == Value.builtin "object.__getattribute__") = false := by rw [z2]; rfl
  have z0 : (false && onTheHeap (Value.builtin "BaseException.__getattribute__")) = false := rfl
  unfold getAttr? getAttrBy? getAttrBy
  refine wpAny_bind (wpAny_mkText (wpAny_bind (wpAny_attempt (wpAny_holding (wpAny_bind (T0.at (wpAny_bind (T1.at ?_))))))))
  show wpAny _ _ (if (onTheHeap (Value.ref D) && Value.builtin "BaseException.__getattribute__" == Value.builtin "object.__getattribute__") = true then _ else _) _ _ _
  rw [z1, if_neg Bool.false_ne_true]
  unfold getAttrByItsOwn hookBefore
  refine wpAny_bind ?_
  rw [if_pos (show onTheHeap (Value.ref D) = true from rfl)]
  refine T2.at (wpAny_bind (wpAny_attempt (wpAny_holding ?_)))
  unfold callGetattribute
  rw [z0, if_neg Bool.false_ne_true]
  unfold boundAndCalled
  rw [PySem.F.excAttr_ValueError.ga.bind (.ref x)]
  refine wpAny_bind (wpAny_pure ?_)
  show wpAny _ _ (call (.builtin "BaseException.__getattribute__") [.ref x, .str "__class__" t]) _ _ _
  refine wpAny_call (codeAny_call_builtin PySem.F.excAttr_ValueError.ga.plain PySem.F.entry_bexc_ga ?_)
  refine @check_slot (model prog w) _ _ ⟨hp, g, d, t + 1, os⟩ "BaseException.__getattribute__" "BaseException" "__getattribute__" (.ref x) [.str "__class__" t] [] _ (by decide +kernel) (by decide +kernel) sub (PySem.F.args_bexc_ga (.ref x) (.str "__class__" t)) ?_
  unfold Builtin.«object.__getattribute__»
  refine wpAny_bind (wpAny_of_eq (a := ((Value.ref x : Value), [Value.str "__class__" t])) (by first | rfl | (simp only [slotArgs]; rfl)) (wpAny_bind (wpAny_pure (wpAny_bind (T0.at (wpAny_bind (T3.at ?_)))))))
  show wpAny _ _ (holding [Value.builtin "object.__class__"] (call (.builtin "getset_descriptor.__get__") [.builtin "object.__class__", .ref x, .ref D]) >>= ret) _ _ _
  refine wpAny_bind (wpAny_holding (wpAny_call (class_get (s := ⟨hp, g, d, t + 1, os⟩) (ox := ox) (od := od) KI I C.hm ?_)))
  refine wpAny_pure ?_
  show wpAny _ _ (handedOut (.ref D)) _ _ _
  rw [handedOut_of (v := .ref D) rfl]
  first
    | exact wpAny_pure (wpAny_pure h)
    | exact wpAny_pure h
    | exact wpAny_pure (wpAny_bind (wpAny_pure (wpAny_pure h)))
theorem k12_kitx (C : L2.ExcC K D) : KitX K (.ref x) (.ref D) (fun h => ∃ od, InstAt h x ox D od) where
  ty := fun _ _ _ ⟨_, I⟩ => I.type
  it := fun _ _ X _ => by
    obtain ⟨cdD, hcD, _⟩ := any_some C.hd
    unfold clsIn at hcD
    split at hcD
    · rename_i c' d' cd' sl' ho
      intro A' Q' E' s' k q
      unfold isType loadHead
      exact wpAny_bind (wpAny_loadPart (k _ _ (X _ _ ho)) (wpAny_pure q))
    · cases hcD
  ne := fun h tp dd its n sl X htp => by
    obtain ⟨cdD, hcD, _⟩ := any_some C.hd
    refine Bool.eq_false_iff.mpr fun q => ?_
    have e : D = tp := Value.ref.inj (beq_iff_eq.mp q)
    subst e
    unfold clsIn at hcD
    split at hcD
    · rename_i c' d' cd' sl' ho
      have z := (X _ _ ho).symm.trans htp
      cases z
    · cases hcD
  ca := fun X ⟨_, I⟩ k => k12_cls C X I k
end
end PySem.W
namespace K12
open PySem PySem.Spec PyProof.Rows L2
section
variable {X : Cx} {N2 : Ent} {R : Rho} {O O1 : Os} {Q : D → Os → Prop} {e : Expr} {es : List Expr} {p pos p1 p2 : Pos} {x f : Str} {a C dd C2 : Addr} {oe : Obj} {fs : List (Str × D)} {pn : List (Addr × Obj)}
/-- a field of the caught error -/
theorem ae_xf (xf : ExF X N2 a oe C dd fs) (T : XfC X.K C) (hno : PySem.W.findIn X.K (.ref C) f = some none)
    (h : AE (X.suite a ((a, oe) :: pn)) N2 e R O fun d1 O1 => d1 = .ref a ∧ ∃ d, getA fs f = some d ∧ Q d O1) (hb : attributeBase e f X.env (eval e X.env) = eval e X.env := by rfl) :
    AE (X.suite a ((a, oe) :: pn)) N2 (.Attribute e f pos) R O Q := fun σ H F r0 =>
  tM.of (pe_xf T hno xf.z xf.f peM hb) ((h σ H F r0).imp fun v H1 ⟨d1, O1, F1, s1, r1, p1, e1, d, hg, q⟩ => by
    subst e1
    cases p1
    obtain ⟨fvs, h1, h2⟩ := xf.d
    have h3 := r1.o.keep dd _ h1 xf.o
    have h4 : RpA X.K F1 fvs fs := h2.mono r1.o.grow
    rcases h4.get f with ⟨z1, z2⟩ | ⟨v', d', z1, z2, z3⟩
    · rw [hg] at z2; cases z2
    · rw [hg] at z2
      cases z2
      exact ⟨rfl, rfl, dd, fvs, v', rfl, h3, lookup_getA.trans z1, QV.more s1 (QV.same r1 z3 q)⟩)
/-- isinstance(e, class), e the caught error -/
theorem ae_isE (xf : ExF X N2 a oe C dd fs) (T : ExcC X.K C) {b : Bool} (hk : PySem.W.kitOne X.K (.ref C) (.ref C2) = some b) (hi : X.mg "isinstance" = none) (c2 : Gl X x ∧ X.mg x = some (.ref C2) ∧ (x == ("__debug__" : Str)) = false)
    (h : AE (X.suite a ((a, oe) :: pn)) N2 e R O fun d1 O1 => d1 = .ref a ∧ Q (.bl b) O1) (hg : Gl X "isinstance" := by rfl)
    (hs1 : starEach [e, .Name x p2] X.env = (false, eval e X.env) :: starEach [.Name x p2] X.env := by rfl) (hs2 : starEach [.Name x p2] X.env = (false, eval (.Name x p2) X.env) :: starEach [] X.env := by rfl) (hpl : (backTo pos (starEach [.Name x p2] X.env)).any (·.1) = false := by rfl) :
    AE (X.suite a ((a, oe) :: pn)) N2 (.Call (.Name "isinstance" p) [e, .Name x p2] [] pos) R O Q := by
  let rr : List V → Hp → VK → Prop := fun xs H Q => xs = [.ref a, .ref C2] ∧ (∃ fvs, H dd = some (.xd fvs)) ∧ Q (.bl b) H
  have hc : CallR (X.suite a ((a, oe) :: pn)) (.builtin "isinstance") rr := by
    intro pins s σ H xs us Q I r h
    obtain ⟨rfl, ⟨fvs, hd⟩, q⟩ := h
    cases r with
    | cons rx rr =>
      cases rr with
      | cons rt rr =>
        cases rr
        cases rx
        cases rt
        obtain ⟨hget, _⟩ := I.pin (a, oe) (List.mem_append.mpr (.inl List.mem_cons_self))
        obtain ⟨vs, hv⟩ := xf.f
        obtain ⟨mA, ⟨od, es, ep, ho, hdd, _⟩, _⟩ := (show ObjOk X.prog X.w H s.heap dd (.xd fvs) from I.hok dd _ hd)
        have J : PySem.W.InstAt s.heap a oe C (some od) := ⟨hget, xf.z.1, by unfold PySem.W.notCls; rw [hv] <;> rfl, by rw [xf.z.2]; exact ho⟩
        exact PySem.W.kia_one (PySem.W.k12_kitx T) I.kIn ⟨_, J⟩ hk (fun z => nomatch z) fun tk => ⟨.bl b, H, I.kept (t' := tk) fun _ _ z => z, rfl, q⟩
  refine fun σ H F r0 => tM.of (pe_callB hc hg hi (by decide +kernel) (pa_cons peM (pa_cons (pe_glob (v := .ref C2) c2.1 c2.2.1 rfl c2.2.2) pa_nil hs2) hs1) (by decide) (by decide) hs1 hpl) ((h σ H F r0).imp fun v H1 ⟨d1, O1, F1, s1, r1, p1, e1, q⟩ => ?_)
  subst e1
  cases p1
  obtain ⟨fvs, h1, h2⟩ := xf.d
  exact ⟨rfl, ⟨fvs, r1.o.keep dd _ h1 xf.o⟩, QV.more s1 (QV.same r1 (.bl _) q)⟩
end
end K12
/-! A16: deep data compared; membership among rows; or; signs; the module's table. -/
namespace K12
open PySem PySem.Spec PyProof.Rows L2
open PySem.PyData (strOk)

/-! ### data of a nesting at most n -/
inductive Ok : Nat → D → Prop
  | non {n : Nat} : Ok n .non
  | bl {n : Nat} (b : Bool) : Ok n (.bl b)
  | int {n : Nat} (i : Int) : Ok n (.int i)
  | str {n : Nat} {s : Str} : strOk s = true → Ok n (.str s)
  | tup {n : Nat} {ds : List D} : (∀ d ∈ ds, Ok n d) → Ok (n + 1) (.tup ds)
  | lst {n : Nat} {ds : List D} : (∀ d ∈ ds, Ok n d) → Ok (n + 1) (.lst ds)
theorem Ok.le {n m : Nat} {d : D} (h : Ok n d) (l : n ≤ m) : Ok m d := by
  induction h generalizing m with
  | non => exact .non
  | bl b => exact .bl b
  | int i => exact .int i
  | str s => exact .str s
  | tup _ ih =>
    obtain ⟨k, rfl⟩ : ∃ k, m = k + 1 := ⟨m - 1, by omega⟩
    exact .tup fun d hd => ih d hd (by omega)
  | lst _ ih =>
    obtain ⟨k, rfl⟩ : ∃ k, m = k + 1 := ⟨m - 1, by omega⟩
    exact .lst fun d hd => ih d hd (by omega)
theorem pyL_of {n : Nat} : ∀ {ds : List D}, (∀ d ∈ ds, ∃ p, d.py = some p ∧ p.canLay0 = true ∧ p.depth ≤ n) → ∃ ps, D.pyL ds = some ps ∧ PyData.canLayAll0 ps = true ∧ PyData.depthAll ps ≤ n
  | [], _ => ⟨[], by simp only [D.pyL], rfl, Nat.zero_le _⟩
  | d :: ds, h => by
    obtain ⟨p, h1, h2, h3⟩ := h d List.mem_cons_self
    obtain ⟨ps, q1, q2, q3⟩ := pyL_of (ds := ds) fun e he => h e (List.mem_cons_of_mem _ he)
    refine ⟨p :: ps, by simp only [D.pyL, h1, q1, Option.bind_some, Option.map_some], ?_, ?_⟩
    · simp only [PyData.canLayAll0, h2, q2, Bool.and_self]
    · simp only [PyData.depthAll]
      omega
theorem Ok.py {n : Nat} {d : D} (h : Ok n d) : ∃ p, d.py = some p ∧ p.canLay0 = true ∧ p.depth ≤ n := by
  induction h with
  | non => exact ⟨.none, by simp only [D.py], rfl, by simp only [PyData.depth]; exact Nat.zero_le _⟩
  | bl b => exact ⟨.bool b, by simp only [D.py], rfl, by simp only [PyData.depth]; exact Nat.zero_le _⟩
  | int i => exact ⟨.int i, by simp only [D.py], rfl, by simp only [PyData.depth]; exact Nat.zero_le _⟩
  | @str _ s hs => exact ⟨.str s, by simp only [D.py], by simp only [PyData.canLay0]; exact hs, by simp only [PyData.depth]; exact Nat.zero_le _⟩
  | @tup n ds _ ih =>
    obtain ⟨ps, h1, h2, h3⟩ := pyL_of ih
    exact ⟨.tuple ps, by simp only [D.py, h1, Option.map_some], by simp only [PyData.canLay0]; exact h2, by simp only [PyData.depth]; omega⟩
  | @lst n ds _ ih =>
    obtain ⟨ps, h1, h2, h3⟩ := pyL_of ih
    exact ⟨.list ps, by simp only [D.py, h1, Option.map_some], by simp only [PyData.canLay0]; exact h2, by simp only [PyData.depth]; omega⟩
theorem Ok.shaped {n : Nat} {d : D} (h : Ok n d) (l : n ≤ 64) : ∃ p, d.py = some p ∧ SeqAt.shaped p = true := by
  obtain ⟨p, h1, h2, h3⟩ := h.py
  refine ⟨p, h1, ?_⟩
  unfold SeqAt.shaped
  rw [h2, decide_eq_true (by omega)] <;> rfl
theorem eqP_self {n : Nat} {d : D} (h : Ok n d) (l : n ≤ 64) : eqP d d = some true := by
  obtain ⟨p, h1, h2⟩ := h.shaped l
  unfold eqP
  rw [h1, Option.bind_some, Option.bind_some, h2]
  show some (PyData.eqv p p) = some true
  rw [SeqAt.eqv_refl p (SeqAt.canLay_of_shaped h2)]
/-- a row is no text -/
theorem eqP_tupStr {n : Nat} {ds : List D} {s : Str} (h : Ok n (.tup ds)) (l : n ≤ 64) (hs : strOk s = true) : eqP (.tup ds) (.str s) = some false := by
  obtain ⟨p, h1, h2⟩ := h.shaped l
  obtain ⟨q, q1, q2⟩ := (Ok.str (n := 0) hs).shaped (by decide)
  unfold eqP
  rw [h1, q1, Option.bind_some, Option.bind_some, h2, q2]
  simp only [D.py, Option.map_eq_some_iff, Option.some.injEq] at h1 q1
  obtain ⟨ps, _, e⟩ := h1
  subst e q1
  rfl

theorem RpA.memv {K : PySem.W.Frag} {F : Hp} {κ : Type} : ∀ {vs : List (κ × V)} {ds : List (κ × D)}, RpA K F vs ds → ∀ kv ∈ vs, ∃ d, (kv.1, d) ∈ ds ∧ Rp K F kv.2 d
  | _, _, .nil, _, h => nomatch h
  | _, _, .cons q r, kv, h => by
    rcases List.mem_cons.mp h with e | h
    · subst e; exact ⟨_, List.mem_cons_self, q⟩
    · obtain ⟨d, h1, h2⟩ := RpA.memv r kv h
      exact ⟨d, List.mem_cons_of_mem _ h1, h2⟩
theorem getA_mem {κ α : Type} [DecidableEq κ] : ∀ {kvs : List (κ × α)} {k : κ} {d : α}, (kvs.map (·.1)).Nodup → (k, d) ∈ kvs → getA kvs k = some d
  | [], _, _, _, h => nomatch h
  | q :: qs, k, d, nd, h => by
    have nd := List.nodup_cons.mp nd
    rcases List.mem_cons.mp h with e | h
    · rw [← e]; exact getA_pos rfl
    · have ne : ¬ q.1 = k := fun e => nd.1 (List.mem_map.mpr ⟨_, h, e.symm⟩)
      rw [getA_neg ne]
      exact getA_mem nd.2 h

section
variable {X : Cx} {N : Ent} {R : Rho} {O O1 O' : Os} {Q : D → Os → Prop} {e a b o : Expr} {es rest : List Expr} {pos p apos cpos : Pos} {x : Str} {d d1 d2 : D}
/-- xs != [], xs one of the lists -/
theorem at_neNil {Q : Bool → Os → Prop} (hu : X.A.units + 65 < cLine) (h : AE X N a R O fun d1 O1 => AE X N b R O1 fun d2 O2 => ∃ l ds n, d1 = .ref l ∧ d2 = .lst [] ∧ (l, MO.lst ds) ∈ O2 ∧ Ok n (.lst ds) ∧ n ≤ 64 ∧ Q (!ds.isEmpty) O2) : AT X N (.Compare a [.NotEq] [b] pos) R O Q :=
  at_cmp (op_neD (by omega)) mon_neD (nomark _) (h.imp fun d1 O1 h => h.imp fun d2 O2 ⟨l, ds, n, e1, e2, hm, ok, hn, q⟩ => by
    subst e1; subst e2
    intro v1 v2 σ H F r p1 p2
    cases p1
    obtain ⟨xs, h1, l1⟩ := (r.o.ob _ hm).2
    obtain ⟨p, hp, sp⟩ := ok.shaped hn
    simp only [D.py, Option.map_eq_some_iff] at hp
    obtain ⟨ps, hps, e⟩ := hp
    subst e
    refine ⟨.list ps, .list [], .lst (SqL.of h1) (RpL.dp r.o.ex l1 hps), p2.dp r.o.ex (by simp only [D.py, D.pyL, Option.map_some]), sp, by decide, ?_⟩
    have e : PyData.eqv (.list ps) (.list []) = ds.isEmpty := by
      cases ds with
      | nil => simp only [D.pyL, Option.some.injEq] at hps; subst hps; rfl
      | cons d ds =>
        simp only [D.pyL, Option.bind_eq_some_iff, Option.map_eq_some_iff] at hps
        obtain ⟨p, _, r, _, e⟩ := hps
        subst e
        rfl
    rw [e]
    exact QV.same r (.bl _) ⟨_, rfl, q⟩)
/-- two dicts with the same keys in the same order, equal values -/
theorem at_neDic {Q : Bool → Os → Prop} (hu : X.A.units + 65 < cLine) (h : AE X N a R O fun d1 O1 => AE X N b R O1 fun d2 O2 => ∃ kvs n, dicD O2 d1 kvs ∧ dicD O2 d2 kvs ∧ (kvs.map (·.1)).Nodup ∧ (∀ kv ∈ kvs, Ok n kv.2) ∧ n ≤ 64 ∧ Q false O2) : AT X N (.Compare a [.NotEq] [b] pos) R O Q := by
  let rr : R2 := fun x y H Q => ∃ a b ks ls, x = .ref a ∧ y = .ref b ∧ H a = some (.dK ks) ∧ H b = some (.dK ls) ∧ ks.length = ls.length ∧ (∀ p ∈ ks, ∃ u pd, valV ls p.1 = some u ∧ Dp X.K H p.2 pd ∧ Dp X.K H u pd ∧ SeqAt.shaped pd = true) ∧ Q (.bl false) H
  have ho : OpR X (compareOp .NotEq) rr := by
    intro pins s σ H x y v u Q I rx ry h
    obtain ⟨a, b, ks, ls, rfl, rfl, ea, eb, hlen, hp, q⟩ := h
    obtain rfl : v = Value.ref a := rx
    obtain rfl : u = Value.ref b := ry
    obtain ⟨_, ya, va, ra, da⟩ := (show ObjOk X.prog X.w H s.heap a (.dK ks) from I.hok a _ ea)
    obtain ⟨_, yb, vb, rb, db⟩ := (show ObjOk X.prog X.w H s.heap b (.dK ls) from I.hok b _ eb)
    have hl : va.length = vb.length := by rw [← ra.length, ← rb.length]; exact hlen
    have hits : ∀ {ks : List (Key × V)} {va : List (Key × Value)}, KV ks va → (∀ p ∈ ks, ∃ u pd, valV ls p.1 = some u ∧ Dp X.K H p.2 pd ∧ Dp X.K H u pd ∧ SeqAt.shaped pd = true) → PySem.W.KeqHits X.A.in1 s vb va true := by
      intro ks va ra
      unfold KV at ra
      induction ra with
      | nil => intro _; exact .nil
      | @cons p q ps qs h t ih =>
        intro hp
        obtain ⟨u, pd, f1, f2, f3, f4⟩ := hp p List.mem_cons_self
        have rr : RelO (some u) (valueAt vb p.1) := by rw [← f1]; exact rb.val p.1
        obtain ⟨y, hy, ry⟩ := rr.some_of
        obtain ⟨k, v⟩ := q
        rw [show p.1 = k from h.1] at hy
        obtain ⟨as, r1⟩ := Dp.reads I pd p.2 v f2 h.2
        obtain ⟨bs, r2⟩ := Dp.reads I pd u y f3 ry
        have eq := SeqAt.eqAt_reads pd pd X.A.in1 s v y as bs r1 r2 (SeqAt.canLay_of_shaped f4) (SeqAt.canLay_of_shaped f4) (SeqAt.room_of_shaped (A := X.A.in1) f4 (by show X.A.units + 1 + 64 < cLine; omega))
        rw [SeqAt.eqv_refl pd (SeqAt.canLay_of_shaped f4)] at eq
        show PySem.W.KeqHits X.A.in1 s vb ((k, v) :: qs) (true && true)
        exact .hit hy eq (ih fun p' hm => hp p' (List.mem_cons_of_mem _ hm))
    exact PySem.W.keq_ne (knd := mixKind X.prog X.w) (r := true) ya yb da db (by omega) (fun _ => hits ra hp) ⟨.bl false, H, I, by rw [hl]; simp [L2.RelV], q⟩
  refine at_cmp (r := rr) ho (fun x y H Q Q' q ⟨a, b, ks, ls, h1, h2, h3, h4, h5, h6, h7⟩ => ⟨a, b, ks, ls, h1, h2, h3, h4, h5, h6, q _ _ h7⟩) (nomark _) (h.imp fun d1 O1 h => h.imp fun d2 O2 ⟨kvs, n, e1, e2, nd, ok, hn, q⟩ => ?_)
  intro v1 v2 σ H F r p1 p2
  obtain ⟨a1, w1, x1, y1, l1⟩ := rp_dic r p1 e1
  obtain ⟨a2, w2, x2, y2, l2⟩ := rp_dic r p2 e2
  refine ⟨a1, a2, w1, w2, x1, x2, y1, y2, by rw [l1.len, l2.len], fun kv hm => ?_, QV.same r (.bl _) ⟨_, rfl, q⟩⟩
  have key := RpA.memv l1 kv hm
  obtain ⟨d, hd, rd⟩ := key
  obtain ⟨pd, hp, sp⟩ := (ok _ hd).shaped hn
  have hg : getA kvs kv.1 = some d := getA_mem nd hd
  rcases l2.get kv.1 with ⟨z1, z2⟩ | ⟨v', d', z1, z2, z3⟩
  · rw [hg] at z2; cases z2
  · rw [hg] at z2
    cases z2
    exact ⟨v', pd, by rw [getA_val]; exact z1, rd.dp r.o.ex hp, z3.dp r.o.ex hp, sp⟩
/-- d not in (('..',), ('..',)) -/
theorem at_niT {Q : Bool → Os → Prop} (hu : X.A.units + 65 < cLine) (h : AE X N a R O fun d1 O1 => AE X N b R O1 fun d2 O2 => ∃ s1 s2 c1 c2, d2 = .tup [.tup [.str s1], .tup [.str s2]] ∧ s1 ≠ s2 ∧ eqP (.tup [.str s1]) d1 = some c1 ∧ eqP (.tup [.str s2]) d1 = some c2 ∧ Q (!(c1 || c2)) O2) (hm : behindInMarks .NotIn b = false := by rfl) : AT X N (.Compare a [.NotIn] [b] pos) R O Q := by
  let rr : R2 := fun x y H Q => ∃ a a1 a2 x1 x2 c1 c2, y = .ref a ∧ SqT X.K H a [.ref a1, .ref a2] ∧ SqT X.K H a1 x1 ∧ SqT X.K H a2 x2 ∧ x1 ≠ x2 ∧ (∃ p q, Dp X.K H (.ref a1) p ∧ Dp X.K H x q ∧ SeqAt.shaped p = true ∧ SeqAt.shaped q = true ∧ PyData.eqv p q = c1) ∧
    (∃ p q, Dp X.K H (.ref a2) p ∧ Dp X.K H x q ∧ SeqAt.shaped p = true ∧ SeqAt.shaped q = true ∧ PyData.eqv p q = c2) ∧ Q (.bl (!(c1 || c2))) H
  have ho : OpR X (compareOp .NotIn) rr := by
    intro pins s σ H x y v u Q I rx ry h
    obtain ⟨a, a1, a2, x1, x2, c1, c2, rfl, hs, hs1, hs2, hne, ⟨p1, q1, d1, e1, sp1, sq1, f1⟩, ⟨p2, q2, d2, e2, sp2, sq2, f2⟩, q⟩ := h
    obtain rfl : u = Value.ref a := ry
    obtain ⟨its, rv, ht, _⟩ := I.tuple hs
    have ne : a1 ≠ a2 := fun e => by
      subst e
      exact hne (I.tuple_inj hs1 hs2)
    have eits : its = [Value.ref a1, Value.ref a2] := by
      cases rv with
      | cons r1 rv =>
        cases rv with
        | cons r2 rv =>
          cases rv
          cases r1
          cases r2
          rfl
    subst eits
    have eq : ∀ {z : V} {y : Value} {p q : PyData} {c : Bool}, RelV z y → Dp X.K H z p → Dp X.K H x q → SeqAt.shaped p = true → SeqAt.shaped q = true → PyData.eqv p q = c → SeqAt.EqAt X.A.in1 s y v c := fun {z y p q c} rz hz hx sp sq e => by
      obtain ⟨as, r1⟩ := Dp.reads I p z y hz rz
      obtain ⟨bs, r2⟩ := Dp.reads I q x v hx rx
      have := SeqAt.eqAt_reads p q X.A.in1 s y v as bs r1 r2 (SeqAt.canLay_of_shaped sp) (SeqAt.canLay_of_shaped sq) (SeqAt.room_of_shaped (A := X.A.in1) sp (by show X.A.units + 1 + 64 < cLine; omega))
      rw [e] at this
      exact this
    refine SeqAt.notIn_tupleAt (items := #[Value.ref a1, Value.ref a2]) (fun y => if y = .ref a1 then c1 else c2) ht (fun y hy => ?_) ⟨.bl (!(c1 || c2)), H, I, ?_, q⟩
    · have hy' : y = .ref a1 ∨ y = .ref a2 := by simpa using hy
      rcases hy' with e | e
      · subst e
        rw [if_pos rfl]
        exact eq (z := .ref a1) rfl d1 e1 sp1 sq1 f1
      · subst e
        rw [if_neg (fun z => ne (Value.ref.inj z).symm)]
        exact eq (z := .ref a2) rfl d2 e2 sp2 sq2 f2
    · have : ¬ Value.ref a2 = Value.ref a1 := fun z => ne (Value.ref.inj z).symm
      simp [this, L2.RelV]
  refine at_cmp (r := rr) ho (fun x y H Q Q' q ⟨a, a1, a2, x1, x2, c1, c2, h1, h2, h3, h4, h5, h6, h7, h8⟩ => ⟨a, a1, a2, x1, x2, c1, c2, h1, h2, h3, h4, h5, h6, h7, q _ _ h8⟩) hm (h.imp fun d1 O1 h => h.imp fun d2 O2 ⟨s1, s2, c1, c2, ed, hne, hc1, hc2, q⟩ => ?_)
  subst ed
  intro v1 v2 σ H F r p1 p2
  obtain ⟨y1, z1, f1, f2, f3, f4, f5⟩ := eqP_some hc1
  obtain ⟨y2, z2, g1, g2, g3, g4, g5⟩ := eqP_some hc2
  cases p2 with
  | tup h1 l1 =>
    cases l1 with
    | cons k1 l1 =>
      cases l1 with
      | cons k2 l1 =>
        cases l1
        have d1 := k1.dp r.o.ex f1
        have d2 := k2.dp r.o.ex g1
        cases k1 with
        | @tup a1 w1 _ m1 n1 =>
          cases k2 with
          | @tup a2 w2 _ m2 n2 =>
            refine ⟨_, a1, a2, w1, w2, c1, c2, rfl, same_t r.o.ex h1, same_t r.o.ex m1, same_t r.o.ex m2, fun e => ?_, ⟨y1, z1, d1, p1.dp r.o.ex f2, f3, f4, f5⟩, ⟨y2, z2, d2, p1.dp r.o.ex g2, g3, g4, g5⟩, QV.same r (.bl _) ⟨_, rfl, q⟩⟩
            subst e
            cases n1 with
            | cons o1 _ =>
              cases n2 with
              | cons o2 _ =>
                cases o1
                cases o2
                exact hne rfl
/-! ### isinstance(x, tuple) -/
def isT : D → Option Bool
  | .tup _ => some true
  | .lst _ => some false
  | .dic _ => some false
  | _ => none
theorem at_isT {Q : Bool → Os → Prop} (hi : X.mg "isinstance" = none) (ht : X.mg "tuple" = none) (h : AE X N e R O fun d O1 => ∃ c, (isT d = some c ∨ ∃ l ds, d = .ref l ∧ (l, MO.dic ds) ∈ O1 ∧ c = false) ∧ Q c O1) (hg : Gl X "isinstance" := by rfl) (hg2 : Gl X "tuple" := by rfl) {p2 : Pos}
    (hs1 : starEach [e, .Name "tuple" p2] X.env = (false, eval e X.env) :: starEach [.Name "tuple" p2] X.env := by rfl) (hs2 : starEach [.Name "tuple" p2] X.env = (false, eval (.Name "tuple" p2) X.env) :: starEach [] X.env := by rfl) (hpl : (backTo pos (starEach [.Name "tuple" p2] X.env)).any (·.1) = false := by rfl)
    (he : ∀ whole, isTrue (.Call (.Name "isinstance" p) [e, .Name "tuple" p2] [] pos) X.env whole = (do let v ← whole; standAt (Expr.Call (.Name "isinstance" p) [e, .Name "tuple" p2] [] pos).pos; holding [v] (truthy v)) := by intro _; rfl) :
    AT X N (.Call (.Name "isinstance" p) [e, .Name "tuple" p2] [] pos) R O Q := by
  refine at_val (fun σ H F r0 => tM.of (pe_callB call_isi hg hi (by decide +kernel) (pa_cons peM (pa_cons (pe_bltn (v := .ty "tuple") hg2 ht (by decide +kernel) rfl) pa_nil hs2) hs1) (by decide) (by decide) hs1 hpl) ((h σ H F r0).imp fun v H1 ⟨d, O1, F1, s1, r1, p1, c, hc, q⟩ => ?_)) he
  have fin : ∀ {t : String}, TyX X.K H1 v (.type t) → kitB t "tuple" = some c → rIsi X.K [v, .ty "tuple"] H1 (QV X N R σ F fun d O1 => ∃ c, d = .bl c ∧ Q c O1) := fun {t} ty k => ⟨v, .ty "tuple", .type t, .type "tuple", c, rfl, .ty _, ty, kit_ty k, QV.more s1 (QV.same r1 (.bl c) ⟨c, rfl, q⟩)⟩
  rcases hc with hc | ⟨l, ds, e1, hm, e2⟩
  · cases p1 with
    | @tup aa xs ds h1 l1 =>
      cases hc
      rcases h1 with (h1 | ⟨o, h1⟩) | ⟨o, its, n, hk, hcl, _⟩
      · exact fin (.base (.tup (r1.o.ex _ _ h1))) (by decide +kernel)
      · exact fin (.fTuple (r1.o.ex _ _ h1)) (by decide +kernel)
      · exact fin (.kTuple hk hcl) (by decide +kernel)
    | lst h1 l1 =>
      cases hc
      exact fin (.base (.lst (r1.o.ex _ _ h1))) (by decide +kernel)
    | dic h1 l1 =>
      cases hc
      exact fin (.base (.dK (r1.o.ex _ _ h1))) (by decide +kernel)
    | _ => cases hc
  · subst e1
    subst e2
    cases p1
    obtain ⟨ws, h1, _⟩ := (r1.o.ob _ hm).2
    exact fin (.base (.dK h1)) (by decide +kernel)
end
end K12
/-! A17: or, signs, the module's table, list.index, join, displays of dicts. -/
namespace K12
open PySem PySem.Spec PyProof.Rows L2
section
variable {X : Cx} {N : Ent} {R : Rho} {O O1 O' : Os} {Q : D → Os → Prop} {e a b o v : Expr} {es rest : List Expr} {pos p apos cpos : Pos} {x : Str} {d d1 d2 : D}
/-- a or b, where a is None or a row that is not empty -/
theorem ae_or (h : AE X N a R O fun d O1 => (d = .non ∧ AE X N b R O1 Q) ∨ ∃ x ds, d = .tup (x :: ds) ∧ Q d O1) : AE X N (.BoolOp .Or [a, b] pos) R O Q := fun σ H F r =>
  tM.of (pe_orT peM (pe_one peM)) ((h σ H F r).imp fun v H1 ⟨d, O1, F1, s1, r1, p1, q⟩ => by
    rcases q with ⟨e, q⟩ | ⟨x, ds, e, q⟩
    · subst e
      cases p1
      refine ⟨false, rfl, ?_⟩
      rw [if_neg Bool.false_ne_true]
      exact (q σ H1 F1 r1).imp fun _ _ z => QV.more s1 z
    · subst e
      cases p1 with
      | @tup aa xs _ h1 l1 =>
        refine ⟨true, .inr (.inl ⟨xs, same_t r1.o.ex h1, ?_⟩), ?_⟩
        · cases l1; rfl
        · rw [if_pos rfl]
          exact ⟨_, O1, F1, s1, r1, .tup h1 l1, q⟩)
theorem ae_neg (h : AE X N a R O fun d O1 => ∃ i, d = .int i ∧ Q (.int (-i)) O1) : AE X N (.UnaryOp .USub a pos) R O Q := fun σ H F r =>
  tM.of (pe_un un_neg peM) ((h σ H F r).imp fun v H1 ⟨d, O1, F1, s1, r1, p1, i, e, q⟩ => by
    subst e
    cases p1
    exact ⟨i, rfl, QV.more s1 (QV.same r1 (.int _) q)⟩)
/-- an entry of a dict of the written part -/
theorem ae_kitem {t : Addr} {es : Array DictEntry} {n : Nat} (hl : X.K.lookup t = some ⟨.type "dict", none, .dict es n, #[]⟩) (hk : PySem.W.KeysLit X.w.params es.toList)
    (h : AE X N a R O fun d1 O1 => AE X N b R O1 fun d2 O2 => d1 = .ref t ∧ ∃ z r tk, d2 = .str z ∧ PySem.W.nsIn X.K t z = some (some (.str r tk)) ∧ Q (.str r) O2) (hs : PlainIx b := by intro _ _; rfl) : AE X N (.Subscript a b pos) R O Q :=
  ae_ix ix_kdict (fun x y H Q Q' q ⟨p, z, r, h1, h2, h3, h4⟩ => ⟨p, z, r, h1, h2, h3, q _ _ h4⟩) hs (h.imp fun d1 O1 h => h.imp fun d2 O2 ⟨e1, z, r, tk, e2, hz, q⟩ => by
    subst e1; subst e2
    intro v1 v2 σ H F rr p1 p2
    cases p1
    cases p2
    exact ⟨t, z, .str r, rfl, rfl, ⟨es, n, .str r tk, hl, hk, hz, ⟨tk, rfl⟩⟩, QV.same rr (.str r) q⟩)
theorem idx_fst {l : List Str} {s : Str} (h : s ∈ l) : (l.map V.str)[l.idxOf s]? = some (.str s) ∧ ∀ (m : Nat) (z' : V), m < l.idxOf s → (l.map V.str)[m]? = some z' → eqV z' (.str s) = false := by
  have hlt := List.idxOf_lt_length_iff.mpr h
  refine ⟨by rw [List.getElem?_map, List.getElem?_eq_getElem hlt, List.getElem_idxOf]; rfl, fun m z' hm hz => ?_⟩
  rw [List.getElem?_map] at hz
  obtain ⟨t, ht, e⟩ := Option.map_eq_some_iff.mp hz
  subst e
  have hm' : m < l.length := Nat.lt_trans hm hlt
  rw [List.getElem?_eq_getElem hm'] at ht
  have e := Option.some.inj ht
  have ne : t ≠ s := fun z => by
    have := List.not_of_lt_findIdx (xs := l) (p := (· == s)) (i := m) hm
    rw [e, z] at this
    simp at this
  show (t == s) = false
  simpa using ne
/-- xs.index(s), among texts -/
theorem ae_index (h : AE X N o R O fun d1 O1 => (∃ ds, d1 = .lst ds) ∧ AE X N a R O1 fun d2 O2 => ∃ ds l s, d1 = .lst ds ∧ strsD ds = some l ∧ d2 = .str s ∧ s ∈ l ∧ Q (.int (l.idxOf s : Nat)) O2)
    (hbase : attributeBase o "index" X.env (eval o X.env) = eval o X.env := by rfl)
    (hfew : ((backTo cpos (starEach (a :: []) X.env)).all (fun x => !x.1) && (backToKw cpos (keywordEach [] X.env)).all (fun x => x.1.isSome)
      && decide ((a :: []).length + ([] : List Keyword).length + (if ([] : List Keyword).isEmpty then 0 else 1) < 30)) = true := by rfl)
    (hline : (apos.endLine == cpos.line) = true := by rfl) (hs : starEach (a :: []) X.env = (false, eval a X.env) :: starEach [] X.env := by rfl) (hplain : (backTo cpos (starEach [] X.env)).any (·.1) = false := by rfl) :
    AE X N (.Call (.Attribute o "index" apos) [a] [] cpos) R O Q := fun σ H F r0 =>
  tM.of (pe_bm PySem.F.plainAttrs_list PySem.F.slot_list_index PySem.F.type_list_index mt_index peM (pa_cons peM pa_nil hs) hbase hfew hline hs hplain) ((h σ H F r0).imp fun v H1 ⟨d1, O1, F1, s1, r1, p1, ⟨ds0, e0⟩, q1⟩ => by
    subst e0
    cases p1 with
    | @lst aa ws _ h1 l1 =>
      refine ⟨.inl ⟨rfl, ws, SqL.of (r1.o.ex _ _ h1)⟩, (q1 σ H1 F1 r1).imp fun u H2 ⟨d2, O2, F2, s2, r2, p2, ds, l, s, e1, hl, e2, hm, q⟩ => ?_⟩
      cases e1
      subst e2
      cases p2
      have ew := strs_vs l1 hl
      subst ew
      obtain ⟨i1, i2⟩ := idx_fst hm
      exact ⟨aa, l.map V.str, .str s, l.idxOf s, .str s, rfl, rfl, SqL.of (r2.o.ex _ _ (s2 _ _ h1)), rfl, flat_strs l, i1, by show (s == s) = true; simp, i2, QV.more (s1.trans s2) (QV.same r2 (.int _) q)⟩)
/-- s.join(xs) -/
theorem ae_join (h : AE X N o R O fun d1 O1 => (∃ s, d1 = .str s) ∧ AE X N a R O1 fun d2 O2 => ∃ s ds l, d1 = .str s ∧ d2 = .lst ds ∧ strsD ds = some l ∧ (l.map (·.length)).sum + l.length * s.length ≤ 100000 ∧ Q (.str (Txt.join s l)) O2)
    (hs : starEach [a] X.env = (false, eval a X.env) :: starEach [] X.env := by rfl) (hbase : attributeBase o "join" X.env (eval o X.env) = eval o X.env := by rfl) (hline : (apos.endLine == cpos.line) = true := by rfl) :
    AE X N (.Call (.Attribute o "join" apos) [a] [] cpos) R O Q := fun σ H F r0 =>
  tM.of (pe_join peM peM hs hbase hline) ((h σ H F r0).imp fun v H1 ⟨d1, O1, F1, s1, r1, p1, ⟨s0, e0⟩, q1⟩ => by
    subst e0
    cases p1
    refine ⟨⟨s0, rfl⟩, (q1 σ H1 F1 r1).imp fun u H2 ⟨d2, O2, F2, s2, r2, p2, s, ds, l, e1, e2, hl, hlen, q⟩ => ?_⟩
    cases e1
    subst e2
    cases p2 with
    | @lst aa ws _ h1 l1 =>
      have ew := strs_vs l1 hl
      subst ew
      exact ⟨s0, aa, l, rfl, rfl, .inl (SqL.of (r2.o.ex _ _ h1)), by omega, QV.more (s1.trans s2) (QV.same r2 (.str _) q)⟩)

/-! ### {..} -/
def APs (X : Cx) (N : Ent) : List (Option Expr) → List Expr → Rho → Os → (List (D × D) → Os → Prop) → Prop
  | [], [], _, O, Q => Q [] O
  | some k :: ks, v :: vs, R, O, Q => AE X N k R O fun dk O1 => AE X N v R O1 fun dv O2 => APs X N ks vs R O2 fun ps O3 => Q ((dk, dv) :: ps) O3
  | _, _, _, _, _ => False
def trsM (X : Cx) : List (Option Expr) → List Expr → List (TE × TE)
  | some k :: ks, v :: vs => (tM X k, tM X v) :: trsM X ks vs
  | _, _ => []
theorem ppsM : ∀ {ks : List (Option Expr)} {vs : List Expr}, ks.all (·.isSome) = true → ks.length = vs.length → PPs X pos ks vs (trsM X ks vs)
  | [], [], _, _ => pps_nil
  | some k :: ks, v :: vs, h1, h2 => pps_cons peM peM (ppsM (by simpa using h1) (by simpa using h2))
  | none :: _, _, h1, _ => by simp at h1
  | [], _ :: _, _, h2 => by simp at h2
  | some _ :: _, [], _, h2 => by simp at h2
inductive RpP (K : PySem.W.Frag) (F : Hp) : List (V × V) → List (D × D) → Prop
  | nil : RpP K F [] []
  | cons {x y : V} {d e : D} {ps : List (V × V)} {ds : List (D × D)} : Rp K F x d → Rp K F y e → RpP K F ps ds → RpP K F ((x, y) :: ps) ((d, e) :: ds)
theorem RpP.mono {K : PySem.W.Frag} {F F' : Hp} (s : Same F F') : ∀ {ps : List (V × V)} {ds : List (D × D)}, RpP K F ps ds → RpP K F' ps ds
  | _, _, .nil => .nil
  | _, _, .cons a b r => .cons (a.mono s) (b.mono s) (RpP.mono s r)
theorem APs.run : ∀ {ks : List (Option Expr)} {vs : List Expr} {O : Os} {Q : List (D × D) → Os → Prop}, APs X N ks vs R O Q → ∀ {σ : L2.St} {H F : Hp} {K' : List (V × V) → Hp → Prop}, RepS X N R O σ H F →
    (∀ ps ds O' H' F', Same F F' → RepS X N R O' σ H' F' → RpP X.K F' ps ds → Q ds O' → K' ps H') → tPairs (trsM X ks vs) σ H K'
  | [], [], O, Q, h, σ, H, F, K', r, k => k [] [] O H F (Same.refl _) r .nil h
  | some kx :: ks, v :: vs, O, Q, h, σ, H, F, K', r, k => by
    refine (h σ H F r).imp fun x H1 ⟨dk, O1, F1, s1, r1, p1, q1⟩ => ?_
    refine (q1 σ H1 F1 r1).imp fun y H2 ⟨dv, O2, F2, s2, r2, p2, q2⟩ => ?_
    exact APs.run q2 r2 fun ps ds O' H' F' s3 r3 p3 q3 => k _ _ O' H' F' ((s1.trans s2).trans s3) r3 (.cons (p1.mono (s2.trans s3)) (p2.mono s3) p3) q3
  | none :: _, _, _, _, h, _, _, _, _, _, _ => by simp only [APs] at h
  | [], _ :: _, _, _, h, _, _, _, _, _, _ => by simp only [APs] at h
  | some _ :: _, [], _, _, h, _, _, _, _, _, _ => by simp only [APs] at h
def mergeA (kvs more : List (Key × D)) : List (Key × D) := more.foldl (fun acc kv => setA acc kv.1 kv.2) kvs
theorem merge_rp {K : PySem.W.Frag} {F : Hp} : ∀ {more : List (Key × V)} {dm : List (Key × D)} {kvs : List (Key × V)} {ds : List (Key × D)}, RpA K F kvs ds → RpA K F more dm → RpA K F (mergeK kvs more) (mergeA ds dm)
  | _, _, _, _, h, .nil => h
  | _, _, _, _, h, @RpA.cons _ _ _ k v d vs ds q r => merge_rp (more := vs) (dm := ds) (RpA.set k q h) r
theorem keys_of {K : PySem.W.Frag} {F : Hp} : ∀ {ps : List (V × V)} {kvs : List (Key × D)}, RpP K F ps (kvs.map fun kv => (keyD kv.1, kv.2)) → ∃ ws : List (Key × V), ps = ws.map (fun kv => (kV kv.1, kv.2)) ∧ RpA K F ws kvs
  | _, [], .nil => ⟨[], rfl, .nil⟩
  | _, kv :: kvs, .cons a b r => by
    obtain ⟨ws, e, l⟩ := keys_of r
    have hv := keyD_v a
    subst hv
    subst e
    exact ⟨(kv.1, _) :: ws, rfl, .cons b l⟩
theorem ae_disp {keys : List (Option Expr)} {values : List Expr} (h : ∀ t, APs X N keys values R ((t, .dic []) :: O) fun ps O1 => ∃ kvs kvs' O2, ps = kvs.map (fun kv => (keyD kv.1, kv.2)) ∧ kvs.length ≤ 15 ∧ mergeA [] kvs = kvs' ∧ U O1 t (.dic []) (.dic kvs') O2 ∧ Q (.ref t) O2)
    (hall : keys.all (·.isSome) = true := by rfl) (hl : keys.length = values.length := by rfl) (h0 : keys ≠ [] := by exact List.cons_ne_nil _ _) (h15 : keys.length ≤ 15 := by decide) : AE X N (.Dict keys values pos) R O Q := fun σ H F r =>
  tM.of (pe_disp (ppsM hall hl) hall hl h0 h15) fun t ht => by
    have r0 : RepS X N R ((t, .dic []) :: O) σ (L2.upd H t (.dK [])) F := r.go (r.o.mut ht ⟨[], upd_same, .nil⟩) (Same.refl _)
    refine (h t).run r0 fun ps ds O' H' F' s' r' p' ⟨kvs, kvs', O2, e1, h15', em, hu, q⟩ => ?_
    subst e1
    obtain ⟨ws, ew, l⟩ := keys_of p'
    obtain ⟨w0, hw, l0⟩ := (r'.o.ob _ hu.mem).2
    cases l0
    have lw := l.len
    subst em
    exact ⟨hw, ws, ew, by rw [lw]; exact h15', .ref t, O2, F', s', r'.go (r'.o.upd hu ⟨_, upd_same, merge_rp .nil l⟩) (Same.refl _), .ref t, q⟩

/-! ### dicts whose keys are rows, the key a value -/
theorem ae_dgetV (hu : X.A.units + 65 < cLine) (h : AE X N a R O fun d1 O1 => AE X N b R O1 fun d2 O2 => ∃ kvs ks d, dctD O2 d1 kvs ∧ d2 = .tup (ks.map keyD) ∧ getA kvs ks = some d ∧ Q d O2) (hs : NoSl b := by intro _ _; rfl) : AE X N (.Subscript a b pos) R O Q := by
  have rule : PE X (.Subscript a b pos) (fun σ H Q => tM X a σ H fun x H1 => tM X b σ H1 fun y H2 => ∃ (t u : Addr) (kvs : List (List Key × V)) (ks : List Key) (v : V), x = .ref t ∧ H2 t = some (.dT kvs) ∧ y = .ref u ∧ SqT X.K H2 u (ks.map kV) ∧ valV kvs ks = some v ∧ Q v H2) := by
    refine ⟨fun pins s σ H Q I h => ?_⟩
    refine subD_of PySem.F.slot_dict_getitem.lookup hs (thn (h pins s I) fun u s1 ⟨x, H1, I1, rx, q1⟩ => thn (q1 pins s1 I1) fun iv s2 ⟨y, H2, I2, ry, t, ua, kvs, ks, v, ex, et, ey, hsq, hv, q2⟩ => ?_)
    subst ex ey
    obtain rfl : u = Value.ref t := rx
    obtain rfl : iv = Value.ref ua := ry
    obtain ⟨z, hd, xs, rel, dd⟩ := dt_of I2.hok et
    obtain ⟨w', hw, rw'⟩ := RelO.some_of (v := v) (o := (atKey xs ks).map (·.2)) (by rw [← hv]; exact rel.val ks)
    obtain ⟨p, hp, hp2⟩ := Option.map_eq_some_iff.mp hw
    obtain ⟨its, rv, ht, _⟩ := I2.tuple hsq
    obtain ⟨o, h1, h2, n, h3⟩ := ht
    refine ⟨dd.typeIs, wpAny_getItem_heap (tupleKind_room_in1 (by omega)) (show (tupleKind (mixKind X.prog X.w)).is s2.heap ks ua from ⟨o, its.toArray, n, h1, h2, h3, by simpa using items_are rv⟩) dd hp ?_⟩
    rw [hp2]
    exact ⟨v, H2, I2.tok _, rw', q2⟩
  exact fun σ H F r0 => tM.of rule ((h σ H F r0).imp fun x H1 ⟨d1, O1, F1, s1, r1, p1, q1⟩ => (q1 σ H1 F1 r1).imp fun y H2 ⟨d2, O2, F2, s2, r2, p2, kvs, ks, d, hd, ed, hg, q⟩ => by
    subst ed
    obtain ⟨t, ws, e, hH, l⟩ := rp_dct r2 (p1.mono s2) hd
    cases p2 with
    | @tup u xs _ h1 l1 =>
      have hx := keyDs_v l1
      subst hx
      rcases l.get ks with ⟨z1, z2⟩ | ⟨v', d', z1, z2, z3⟩
      · rw [hg] at z2; cases z2
      · rw [hg] at z2
        cases z2
        exact ⟨t, u, ws, ks, v', e, hH, rfl, same_t r2.o.ex h1, by rw [getA_val]; exact z1, QV.more (s1.trans s2) (QV.same r2 z3 q)⟩)
/-- {(k, ..): v} -/
theorem ae_dispT {kk : Nat} (hu : X.A.units + 65 < cLine) (h : ∀ t, AA X N es R ((t, .dct []) :: O) fun ds O1 => ds.length ≤ 100000 ∧ AE X N v R O1 fun d O2 => ∃ ks O3, ds = ks.map keyD ∧ U O2 t (.dct []) (.dct [(ks, d)]) O3 ∧ Q (.ref t) O3) :
    AE X N (.Dict [some (.Tuple es kk p)] [v] pos) R O Q := by
  have rule : PE X (.Dict [some (.Tuple es kk p)] [v] pos) (fun σ H Q => ∀ t, H t = none → tMa X es σ (L2.upd H t (.dT [])) fun xs H1 => xs.length ≤ sizeLine ∧ ∀ b, H1 b = none → tM X v σ (L2.upd H1 b (.tup xs)) fun y H2 => ∃ ks, xs = ks.map kV ∧ H2 t = some (.dT []) ∧ H2 b = some (.tup xs) ∧ Q (.ref t) (L2.upd H2 t (.dT [(ks, y)]))) := by
    refine ⟨fun pins s σ H Q I q => ?_⟩
    have hn := I.hok.fresh (Nat.le_refl s.heap.objs.size)
    have I1 := I.laid (a := s.heap.objs.size) (o := .dT []) (h' := s.heap.push { cls := .type "dict", data := .dict #[] }) (t' := s.toks) (fun _ _ q => Heap.get?_push_of_some _ q) (Nat.le_refl _) (dt_empty s.heap I.big)
    have pp : PPs X pos [some (.Tuple es kk p)] [v] [(tTup (tMa X es), tM X v)] := pps_cons (pe_tup paM) peM pps_nil
    have hall : ([some (Expr.Tuple es kk p)] : List (Option Expr)).all (·.isSome) = true := rfl
    rw [arm_eval_Dict, zip_pairTrees [some (.Tuple es kk p)] [v] X.env pos hall rfl, dictDisplay_pairs (pairTrees [some (.Tuple es kk p)] [v] X.env pos) (by intro z; cases z) (by show 1 < 17; decide)]
    refine wpAny_bind (wpAny_standAt (wpAny_bind (wpAny_subDictH (knd := tupleKind (mixKind X.prog X.w)) (Q := fun d s' => wpAny (model X.prog X.w) X.A (pure (Value.ref d)) (EP X pins σ Q) X.xe s') (by show X.A.units < cLine; omega) (by show 1 ≤ 15; decide) ?_)))
    refine thn (pp.run pins _ σ _ (fun ps H2 => ∃ (ks : List Key) (b : Addr) (y : V), ps = [(.ref b, y)] ∧ H2 s.heap.objs.size = some (.dT []) ∧ H2 b = some (.tup (ks.map kV)) ∧ Q (.ref s.heap.objs.size) (L2.upd H2 s.heap.objs.size (.dT [(ks, y)]))) I1 ?_) fun ws s2 ⟨ps, H2, I2, rel, ks, b, y, ep, et, eb, q2⟩ => ?_
    · exact (q _ hn).imp fun xs H1 ⟨hz, hb⟩ => ⟨hz, fun b hbn => (hb b hbn).imp fun y H2 ⟨ks, e1, e2, e3, e4⟩ => ⟨ks, b, y, rfl, e2, by rw [e3, e1], e4⟩⟩
    · subst ep
      cases rel with
      | @cons _ w0 _ ws hr rel =>
        cases rel
        obtain ⟨k0, v0⟩ := w0
        obtain ⟨hr1, hr2⟩ := hr
        have ek : k0 = Value.ref b := hr1
        subst ek
        obtain ⟨z, hd, xs, rel0, dd⟩ := dt_of I2.hok et
        cases rel0
        refine ⟨[(ks, b, v0)], ⟨rfl, rfl, key_of I2.hok eb, True.intro⟩, dd, fun h' tk dd' sb => wpAny_pure ?_⟩
        obtain ⟨o, es', ep', ho, h2, h3, h4, _, h5⟩ := dd'
        have nb : b ≠ s.heap.objs.size := fun e => by rw [e, et] at eb; cases eb
        have new : ObjOk X.prog X.w (L2.upd H2 s.heap.objs.size (.dT [(ks, y)])) h' s.heap.objs.size (.dT [(ks, y)]) :=
          ⟨by show 1 ≤ sizeLine; decide, hd, [(ks, b, v0)], .cons ⟨rfl, by rw [upd_ne nb]; exact eb, hr2⟩ .nil, o, es', ep', ho, h2, h3, h4, h5⟩
        exact ⟨.ref s.heap.objs.size, _, d_write (t' := tk) I2 (by rw [et]; exact True.intro) sb ⟨o, ho⟩ new, rfl, q2⟩
  refine fun σ H F r => tM.of rule fun t ht => ?_
  have r0 : RepS X N R ((t, .dct []) :: O) σ (L2.upd H t (.dT [])) F := r.go (r.o.mut ht ⟨[], upd_same, .nil⟩) (Same.refl _)
  refine (h t σ _ F r0).imp fun xs H1 ⟨ds, O1, F1, s1, r1, p1, hl, q1⟩ => ⟨by rw [p1.len]; exact le_line hl, fun b hb => ?_⟩
  have sb := same_new (r1.o.fr hb) (HO.tup xs)
  have r1' : RepS X N R O1 σ (L2.upd H1 b (.tup xs)) (L2.upd F1 b (.tup xs)) := r1.go (r1.o.frz hb _) sb
  refine (q1 σ _ _ r1').imp fun y H2 ⟨d, O2, F2, s2, r2, p2, ks, O3, e1, hu', q⟩ => ?_
  subst e1
  have hx := keyDs_v p1
  subst hx
  obtain ⟨w0, hw, l0⟩ := (r2.o.ob _ hu'.mem).2
  cases l0
  have hbb : H2 b = some (.tup (ks.map kV)) := r2.o.ex _ _ (s2 _ _ upd_same)
  exact ⟨ks, rfl, hw, hbb, .ref t, O3, F2, (s1.trans sb).trans s2, r2.go (r2.o.upd hu' ⟨_, upd_same, .cons p2 .nil⟩) (Same.refl _), .ref t, q⟩
end
end K12
/-! A18: the context of a def, and the words the walks use. -/
namespace K12
open PySem PySem.Spec PyProof.Rows L2
open PySem.PyData (strOk)

/-- what every def's context gives -/
structure Gd (X : Cx) (N : Ent) : Prop where
  calm : X.calm = true
  nd : X.N.Nodup
  own : PassesOwn (model X.prog X.w) X.A X.env X.xe
  tk : TkA X N
  stk : X.stack = X.env :: X.outer
  frm : X.env.frame = some X.env.locals
  un : X.A.units + 65 < cLine
theorem Gd.ps {X : Cx} {N : Ent} (g : Gd X N) : PsA X N := g.tk.ps
theorem Gd.comp {X : Cx} {N : Ent} (g : Gd X N) (xr : Bool) : xr = true → TkA X N ∧ X.stack = X.env :: X.outer ∧ X.env.frame = some X.env.locals := fun _ => ⟨g.tk, g.stk, g.frm⟩
section
variable {P : Program} {w : World} {K : PySem.W.Frag} {mg : Str → Option Value} {base : Heap}
abbrev cxD (P : Program) (w : World) (K : PySem.W.Frag) (mg : Str → Option Value) (base : Heap) (Ns : List Str) (qual : Str) (sc : Scope) (f : Addr) (cdv : Value) (A : Around) (outer : List Env) (s : Shared) (H : Hp) (E : XK) : Cx :=
  cxOf (L2.CX P w) P w K mg base Ns qual sc f cdv A outer s H E
theorem gd_of {k : Nat} {Ns ps : List Str} {qual : Str} {sc : Scope} {f : Addr} {cdv : Value} {A : Around} {outer : List Env} {s : Shared} {H : Hp} {E : XK} {N : Ent} (hs : FnScope Ns ps sc) (hr : Room k (A.deeper (envOfC qual sc s.heap.objs.size f cdv)))
    (tk : TkA (cxD P w K mg base Ns qual sc f cdv A outer s H E) N) : Gd (cxD P w K mg base Ns qual sc f cdv A outer s H E) N :=
  ⟨rfl, hs.nd, PassesOwn.leaving, tk, rfl, rfl, by have := hr.un; show (A.deeper _).units + 65 < cLine; omega⟩
/-- a def by its body -/
theorem fnG {x qual : Str} {st b0 : Stmt} {bs : List Stmt} {f : Addr} {fd : FuncData} {Ns ps : List Str} {k : Nat} {S : ASp} {k1 : ScopeKind} {k2 : List (Str × NameKind)} {k3 k4 : Bool} {k5 : List (Str × Const)} (Fn : Fun K x qual st f fd) (hsc : defScope st = { kind := k1, names := k2, isGenerator := k3, isCoroutine := k4, more := k5 }) (hbd : defBody st = b0 :: bs)
    (sc : FnScope Ns ps { kind := k1, names := k2, isGenerator := k3, isCoroutine := k4, more := k5 }) (len : ∀ ds O QA EA, S ds O QA EA → ds.length = ps.length)
    (dbg : ps.all fun y => (y == ("__debug__" : Str)) == false && (y == ("__classdict__" : Str)) == false)
    (body : ∀ (cdv : Value) (A : Around) (outer : List Env) (s : Shared) (H : Hp) (E : XK), Room k (cxD P w K mg base Ns qual { kind := k1, names := k2, isGenerator := k3, isCoroutine := k4, more := k5 } f cdv A outer s H E).A →
      (∀ {x : Str} {S : ASp}, FnA P w K mg base k x S → FnA (cxD P w K mg base Ns qual { kind := k1, names := k2, isGenerator := k3, isCoroutine := k4, more := k5 } f cdv A outer s H E).prog (cxD P w K mg base Ns qual { kind := k1, names := k2, isGenerator := k3, isCoroutine := k4, more := k5 } f cdv A outer s H E).w (cxD P w K mg base Ns qual { kind := k1, names := k2, isGenerator := k3, isCoroutine := k4, more := k5 } f cdv A outer s H E).K (cxD P w K mg base Ns qual { kind := k1, names := k2, isGenerator := k3, isCoroutine := k4, more := k5 } f cdv A outer s H E).mg (cxD P w K mg base Ns qual { kind := k1, names := k2, isGenerator := k3, isCoroutine := k4, more := k5 } f cdv A outer s H E).base k x S) →
      ∀ (ds : List D) (O : Os) (QA : D → Os → Prop) (EA : Addr → List (Str × D) → Os → Prop) (F : Hp), S ds O QA EA →
      Gd (cxD P w K mg base Ns qual { kind := k1, names := k2, isGenerator := k3, isCoroutine := k4, more := k5 } f cdv A outer s H E) ⟨O, F, H, EA⟩ →
      ASs (cxD P w K mg base Ns qual { kind := k1, names := k2, isGenerator := k3, isCoroutine := k4, more := k5 } f cdv A outer s H E) ⟨O, F, H, EA⟩ (b0 :: bs) (startR Ns ds) O { nx := fun _ O' => QA .non O', rt := QA }) :
    FnOk P w K mg base (L2.CX P w) (k + 1) f fd ps (lift K S) := by
  rw [← hsc] at sc body
  rw [← hbd] at body
  exact fnA Fn sc len (fun y hy => by
    have := List.all_eq_true.mp dbg y hy
    simpa using this) fun cdv A outer s H E hr ds O QA EA F hs tk => body cdv A outer s H E hr (fun h => h) ds O QA EA F hs (gd_of sc hr tk)
/-- a call of a def -/
theorem ae_c {X : Cx} {N : Ent} {R : Rho} {O : Os} {Q : D → Os → Prop} {k : Nat} {x : Str} {S : ASp} {e : Expr} {es : List Expr} {p pos : Pos} (G : FnA X.prog X.w X.K X.mg X.base k x S) (h : AA X N (e :: es) R O fun ds O1 => CallS N S ds O1 Q) (hr : Room k X.A := by assumption)
    (ps : PsA X N := by first | assumption | exact Gd.ps (by assumption)) (hg : Gl X x := by with_unfolding_all rfl)
    (hdb : (x == ("__debug__" : Str)) = false := by decide) (he : starEach (e :: es) X.env = (false, eval e X.env) :: starEach es X.env := by with_unfolding_all rfl) (hpl : (backTo pos (starEach es X.env)).any (·.1) = false := by with_unfolding_all rfl) :
    AE X N (.Call (.Name x p) (e :: es) [] pos) R O Q := ae_call G hr ps h hg hdb he hpl
end

/-- the built-ins that the text names are the world's own -/
structure Lib (mg : Str → Option Value) : Prop where
  len : mg "len" = none
  tup : mg "tuple" = none
  lst : mg "list" = none
  dct : mg "dict" = none
  int : mg "int" = none
  isi : mg "isinstance" = none
  rng : mg "range" = none
  enu : mg "enumerate" = none
  zip : mg "zip" = none
  max : mg "max" = none
  min : mg "min" = none
/-! ### what a goal is -/
section
variable {X : Cx} {N : Ent} {R : Rho} {O : Os} {e f a b : Expr} {es : List Expr} {ks : List Keyword} {op : Operator} {p : Pos} {st : Stmt} {d : D} {ds : List D} {E : AEnds}
theorem pAE {Q : D → Os → Prop} (h : AE X N e R O Q) : AE X N e R O Q := h
theorem pSub {Q : D → Os → Prop} (h : AE X N (.Subscript a b p) R O Q) : AE X N (.Subscript a b p) R O Q := h
theorem pCall {Q : D → Os → Prop} (h : AE X N (.Call f es ks p) R O Q) : AE X N (.Call f es ks p) R O Q := h
theorem pBin {Q : D → Os → Prop} (h : AE X N (.BinOp a op b p) R O Q) : AE X N (.BinOp a op b p) R O Q := h
theorem pAS (h : AS X N st R O E) : AS X N st R O E := h
theorem pAT {Q : Bool → Os → Prop} (h : AT X N e R O Q) : AT X N e R O Q := h
theorem pAW {Q : Bool → Os → Prop} (h : AW X N e R O Q) : AW X N e R O Q := h
theorem atBool {Q : Bool → Os → Prop} {o : BoolOp} (h : AW X N (.BoolOp o es p) R O Q) : AT X N (.BoolOp o es p) R O Q := h.t
theorem pAG {k : Rho → Prop} (h : AG X e d R k) : AG X e d R k := h
theorem pEx {α : Sort _} {p : α → Prop} (h : ∃ x, p x) : ∃ x, p x := h
theorem pAnd {a b : Prop} (h : a ∧ b) : a ∧ b := h
theorem pIte {c : Prop} [Decidable c] {A B : Prop} (h : if c then A else B) : if c then A else B := h
end
/-! ### small words -/
theorem ite_t {A B : Prop} (h : A) : if true = true then A else B := h
theorem ite_f {A B : Prop} (h : B) : if false = true then A else B := h
theorem ite_d {p : Prop} [Decidable p] {A B : Prop} (ha : p → A) (hb : ¬ p → B) : if decide p = true then A else B := by
  by_cases h : p
  · rw [if_pos (decide_eq_true h)]; exact ha h
  · rw [if_neg (by rw [decide_eq_true_eq]; exact h)]; exact hb h
theorem ite_b {c : Bool} {A B : Prop} (ha : c = true → A) (hb : c = false → B) : if c = true then A else B := by
  cases c with
  | true => exact ha rfl
  | false => exact hb rfl
theorem pk_nil {O : Os} : Pk O [] [] O := .new
theorem pk_1 {p : Addr} {m m' : MO} {O : Os} : Pk ((p, m) :: O) [(p, m)] [(p, m')] ((p, m') :: O) := .step .head .new
theorem calls_0 {N : Ent} {S : ASp} {ds : List D} {O : Os} {Q : D → Os → Prop} (h : S ds [] (fun d Oc' => ∃ O2, Pk O [] Oc' O2 ∧ Q d O2) (fun C fs Oc' => ∃ O2, Pk O [] Oc' O2 ∧ N.EX C fs O2)) : CallS N S ds O Q := ⟨[], .nil, h⟩
theorem calls_1 {N : Ent} {S : ASp} {ds : List D} {p : Addr} {m : MO} {O : Os} {Q : D → Os → Prop} (h : S ds [(p, m)] (fun d Oc' => ∃ O2, Pk ((p, m) :: O) [(p, m)] Oc' O2 ∧ Q d O2) (fun C fs Oc' => ∃ O2, Pk ((p, m) :: O) [(p, m)] Oc' O2 ∧ N.EX C fs O2)) : CallS N S ds ((p, m) :: O) Q := ⟨_, .cons .head .nil, h⟩
section
variable {O : Os} {ds es : List D} {z : Int} {d d1 d2 : D} {P : D → Prop} {a : Addr} {c : Bool} {Q : Bool → Os → Prop}
theorem ixD_tup (h : atI ds z = some d) (q : P d) : ixD O (.tup ds) (.int z) P := ⟨ds, z, d, .inl rfl, rfl, h, q⟩
theorem ixD_lst (h : atI ds z = some d) (q : P d) : ixD O (.lst ds) (.int z) P := ⟨ds, z, d, .inr (.inl rfl), rfl, h, q⟩
theorem ixD_arg (h : atI ds z = some d) (q : P d) : ixD O (.arg ds) (.int z) P := ⟨ds, z, d, .inr (.inr (.inl rfl)), rfl, h, q⟩
theorem ixD_ref (m : (a, MO.lst ds) ∈ O) (h : atI ds z = some d) (q : P d) : ixD O (.ref a) (.int z) P := ⟨ds, z, d, .inr (.inr (.inr ⟨a, rfl, m⟩)), rfl, h, q⟩
theorem atI_mem {i : Int} (h0 : 0 ≤ i) (h : i < (ds.length : Int)) : ∃ d, d ∈ ds ∧ atI ds i = some d := by
  have hk : i.toNat < ds.length := by omega
  have ek : ((i.toNat : Nat) : Int) = i := by omega
  have z : atI ds ((i.toNat : Nat) : Int) = some ds[i.toNat] := atI_nat (List.getElem?_eq_getElem hk)
  exact ⟨ds[i.toNat], List.getElem_mem hk, by rw [ek] at z; exact z⟩
theorem lenD_lst : lenD O (.lst ds) ds.length := .inl ⟨ds, .inr (.inl rfl), rfl⟩
theorem lenD_tup : lenD O (.tup ds) ds.length := .inl ⟨ds, .inl rfl, rfl⟩
theorem lenD_arg : lenD O (.arg ds) ds.length := .inl ⟨ds, .inr (.inr (.inl rfl)), rfl⟩
theorem ao_some {X : Cx} {N : Ent} {e : Expr} {R : Rho} {O : Os} {Q : Option Int → Os → Prop} (h : AE X N e R O fun d O1 => ∃ z, d = .int z ∧ Q (some z) O1) : AO X N (some e) R O Q := h
theorem ao_none {X : Cx} {N : Ent} {R : Rho} {O : Os} {Q : Option Int → Os → Prop} (h : Q none O) : AO X N none R O Q := h
theorem int_i {z : Int} {P : Int → Prop} (q : P z) : ∃ i, D.int z = .int i ∧ P i := ⟨z, rfl, q⟩
theorem bl_i {z : Bool} {P : Bool → Prop} (q : P z) : ∃ i, D.bl z = .bl i ∧ P i := ⟨z, rfl, q⟩
theorem two_l {xs ys : List D} {P : List D → List D → Prop} (q : P xs ys) : ∃ xs' ys', D.lst xs = .lst xs' ∧ D.lst ys = .lst ys' ∧ P xs' ys' := ⟨xs, ys, rfl, rfl, q⟩
theorem two_t {xs ys : List D} {P : List D → List D → Prop} (q : P xs ys) : ∃ xs' ys', D.tup xs = .tup xs' ∧ D.tup ys = .tup ys' ∧ P xs' ys' := ⟨xs, ys, rfl, rfl, q⟩
theorem len_i {n : Nat} {d : D} {P : Nat → Prop} (h : lenD O d n) (q : P n) : ∃ n, lenD O d n ∧ P n := ⟨n, h, q⟩
theorem slD_tup {lo hi : Option Int} (q : P (.tup (cutG ds lo hi))) : slD (.tup ds) lo hi P := .inl ⟨ds, rfl, q⟩
theorem slD_lst {lo hi : Option Int} (q : P (.lst (cutG ds lo hi))) : slD (.lst ds) lo hi P := .inr ⟨ds, .inl rfl, q⟩
theorem slD_arg {lo hi : Option Int} (q : P (.lst (cutG ds lo hi))) : slD (.arg ds) lo hi P := .inr ⟨ds, .inr rfl, q⟩
theorem inD_tup {s : Str} {l : List Str} {R : Str → List Str → Prop} (h : strsD ds = some l) (q : R s l) : inD (.str s) (.tup ds) R := ⟨s, ds, l, rfl, .inl rfl, h, q⟩
theorem inD_lst {s : Str} {l : List Str} {R : Str → List Str → Prop} (h : strsD ds = some l) (q : R s l) : inD (.str s) (.lst ds) R := ⟨s, ds, l, rfl, .inr rfl, h, q⟩
theorem lput_i {O3 O4 : Os} {a : Addr} {xs : List D} {d1 : D} {k : Int} {j : Nat} {P : Os → Prop} (u : U O3 a (.lst xs) (.lst (xs.set j d1)) O4) (h : ixN xs.length k = some j) (q : P O4) :
    ∃ a' xs' k' j' O', (D.ref a = D.ref a') ∧ (D.int k = D.int k') ∧ U O3 a' (.lst xs') (.lst (xs'.set j' d1)) O' ∧ ixN xs'.length k' = some j' ∧ P O' := ⟨a, xs, k, j, O4, rfl, rfl, u, h, q⟩
theorem put_i {R R' : Rho} {x : Str} {d : D} {P : Rho → Prop} (p : Put R x d R') (h : P R') : ∃ R', Put R x d R' ∧ P R' := ⟨R', p, h⟩
theorem and_mul {i j : Int} {P : Prop} (c : CMul i j) (h : P) : CMul i j ∧ P := ⟨c, h⟩
theorem and_div {i j : Int} {P : Prop} (c : CDiv i j) (h : P) : CDiv i j ∧ P := ⟨c, h⟩
theorem and_pow {i j : Int} {P : Prop} (c : CPow i j) (h : P) : CPow i j ∧ P := ⟨c, h⟩
theorem and_pos {j : Int} {P : Prop} (c : 0 < j) (h : P) : 0 < j ∧ P := ⟨c, h⟩
theorem and_len {n m : Nat} {P : Prop} (c : n ≤ m) (h : P) : n ≤ m ∧ P := ⟨c, h⟩
theorem eqP_str {s t : Str} (hs : strOk s = true) (ht : strOk t = true) : eqP (.str s) (.str t) = some (s == t) := by
  unfold eqP
  simp only [D.py, Option.bind_some]
  have e1 : SeqAt.shaped (.str s) = true := by
    unfold SeqAt.shaped
    simp only [PyData.canLay0, hs, PyData.depth, Nat.zero_le, decide_true, Bool.and_self]
  have e2 : SeqAt.shaped (.str t) = true := by
    unfold SeqAt.shaped
    simp only [PyData.canLay0, ht, PyData.depth, Nat.zero_le, decide_true, Bool.and_self]
  rw [e1, e2]
  rfl
end

/-! ### + of several kinds -/
inductive AddX : D → D → (D → Prop) → Prop
  | int {i j : Int} {P : D → Prop} (q : P (.int (i + j))) : AddX (.int i) (.int j) P
  | lst {xs ys : List D} {P : D → Prop} (l : xs.length + ys.length ≤ 100000) (q : P (.lst (xs ++ ys))) : AddX (.lst xs) (.lst ys) P
  | tup {xs ys : List D} {P : D → Prop} (l : xs.length + ys.length ≤ 100000) (q : P (.tup (xs ++ ys))) : AddX (.tup xs) (.tup ys) P
  | str {s t : Str} {P : D → Prop} (l : s.length + t.length ≤ 100000) (q : P (.str (s ++ t))) : AddX (.str s) (.str t) P
theorem ae_add {X : Cx} {N : Ent} {R : Rho} {O : Os} {Q : D → Os → Prop} {a b : Expr} {pos : Pos} (h : AE X N a R O fun d1 O1 => AE X N b R O1 fun d2 O2 => AddX d1 d2 fun d => Q d O2) : AE X N (.BinOp a .Add b pos) R O Q :=
  ae_op (OpR.or op_add (OpR.or op_cat (OpR.or op_catA op_add_str))) (mon_or mon_I0 (mon_or (fun x y H Q Q' q ⟨l, b, xs, zs, h1, h2, h3, h4, h5, h6⟩ => ⟨l, b, xs, zs, h1, h2, h3, h4, h5, fun p hp => q _ _ (h6 p hp)⟩) (mon_or mon_catA (fun x y H Q Q' q ⟨i, j, h1, h2, h3, h⟩ => ⟨i, j, h1, h2, h3, q _ _ h⟩)))) (h.imp fun d1 O1 h => h.imp fun d2 O2 x => by
    intro v1 v2 σ H F r p1 p2
    cases x with
    | int q =>
      cases p1
      cases p2
      exact .inl ⟨_, _, rfl, rfl, QV.same r (.int _) q⟩
    | lst hl q =>
      cases p1 with
      | lst h1 l1 =>
        cases p2 with
        | lst h2 l2 => exact .inr (.inl ⟨_, _, _, _, rfl, rfl, r.o.ex _ _ h1, r.o.ex _ _ h2, by rw [l1.len, l2.len]; exact le_line hl, fun p hp => QV.frz r hp (.lst upd_same ((l1.app l2).mono (same_new (r.o.fr hp) _))) q⟩)
    | tup hl q =>
      cases p1 with
      | tup h1 l1 =>
        cases p2 with
        | tup h2 l2 =>
          refine .inr (.inr (.inl ⟨_, _, _, _, rfl, rfl, same_t r.o.ex h1, same_t r.o.ex h2, by rw [l1.len, l2.len]; exact le_line hl, fun z => ?_, fun z z' => ?_, fun z z' p hp => ?_⟩))
          · have z1 := l1.nil_of z
            subst z1
            exact QV.same r (.tup h2 l2) q
          · have z1 := l2.nil_of z'
            subst z1
            rw [List.append_nil] at q
            exact QV.same r (.tup h1 l1) q
          · exact QV.frz r hp (.tup (SqT.of upd_same) ((l1.app l2).mono (same_new (r.o.fr hp) _))) q
    | str hl q =>
      cases p1
      cases p2
      exact .inr (.inr (.inr ⟨_, _, rfl, rfl, le_line hl, QV.same r (.str _) q⟩)))
theorem eqP_int {i j : Int} : eqP (.int i) (.int j) = some (decide (i = j)) := by
  have e1 : ∀ i : Int, SeqAt.shaped (.int i) = true := fun i => by
    unfold SeqAt.shaped
    simp only [PyData.canLay0, PyData.depth, Nat.zero_le, decide_true, Bool.and_self]
  unfold eqP
  simp only [D.py, Option.bind_some]
  rw [e1, e1]
  show some (PyData.eqv (.int i) (.int j)) = _
  simp only [PyData.eqv]
  rfl
theorem eq_int {i j : Int} {P : Bool → Prop} (q : P (decide (i = j))) : ∃ c, eqP (.int i) (.int j) = some c ∧ P c := ⟨_, eqP_int, q⟩
theorem eq_t {d e : D} {P : Bool → Prop} (h : eqP d e = some true) (q : P true) : ∃ c, eqP d e = some c ∧ P c := ⟨_, h, q⟩
theorem eq_f {d e : D} {P : Bool → Prop} (h : eqP d e = some false) (q : P false) : ∃ c, eqP d e = some c ∧ P c := ⟨_, h, q⟩
end K12
/-! A19: loops and comprehensions by an invariant. -/
namespace K12
open PySem PySem.Spec PyProof.Rows L2
section
variable {X : Cx} {N : Ent} {R : Rho} {O : Os} {e tg elt : Expr} {ifs : List Expr} {d : D} {body : List Stmt} {E E' : AEnds}
theorem AT.imp {Q Q' : Bool → Os → Prop} (h : AT X N e R O Q) (q : ∀ b O', Q b O' → Q' b O') : AT X N e R O Q' := fun σ H F r => (h σ H F r).imp fun b H1 ⟨O1, F1, s1, r1, q1⟩ => ⟨O1, F1, s1, r1, q _ _ q1⟩
theorem AIfs.imp {Q Q' : Bool → Os → Prop} (h : AIfs X N ifs R O Q) (q : ∀ b O', Q b O' → Q' b O') : AIfs X N ifs R O Q' := by
  match ifs, h with
  | [], h => exact q _ _ h
  | [c], h => exact AT.imp h q
theorem ifs_nil {Q : Bool → Os → Prop} (h : Q true O) : AIfs X N [] R O Q := h
theorem ifs_one {Q : Bool → Os → Prop} {c : Expr} (h : AT X N c R O Q) : AIfs X N [c] R O Q := h
theorem AG.imp {k k' : Rho → Prop} (h : AG X tg d R k) (q : ∀ R', k R' → k' R') : AG X tg d R k' := fun N O pins s σ H F v u r rp I rv => thn (h N O pins s σ H F v u r rp I rv) fun _ s' ⟨σ', H', I', e, R', r', z⟩ => ⟨σ', H', I', e, R', r', q _ z⟩
theorem ASs.imp (h : ASs X N body R O E) (h1 : ∀ R O, E.nx R O → E'.nx R O) (h2 : ∀ d O, E.rt d O → E'.rt d O) (h3 : ∀ R O, E.bk R O → E'.bk R O) (h4 : ∀ R O, E.ct R O → E'.ct R O) : ASs X N body R O E' := fun σ H F r =>
  (h σ H F r).imp (fun _ _ ⟨R', O', F', s, r', q⟩ => ⟨R', O', F', s, r', h1 _ _ q⟩) (fun _ _ ⟨d, O', F', s, r', p, q⟩ => ⟨d, O', F', s, r', p, h2 _ _ q⟩) (fun _ _ ⟨R', O', F', s, r', q⟩ => ⟨R', O', F', s, r', h3 _ _ q⟩) (fun _ _ ⟨R', O', F', s, r', q⟩ => ⟨R', O', F', s, r', h4 _ _ q⟩)
theorem LoopA.inv (I : List D → Rho → Os → Prop) (hend : ∀ R O, I [] R O → E.nx R O)
    (step : ∀ d ds R O, I (d :: ds) R O → AG X tg d R fun R1 => ASs X N body R1 O { nx := fun R2 O2 => I ds R2 O2, rt := E.rt, bk := E.nx, ct := fun R2 O2 => I ds R2 O2 }) : ∀ {ds : List D} {R : Rho} {O : Os}, I ds R O → LoopA X N tg body E ds R O
  | [], R, O, h => hend R O h
  | d :: ds, R, O, h => AG.imp (step d ds R O h) fun R1 z => ASs.imp z (fun _ _ q => LoopA.inv I hend step q) (fun _ _ q => q) (fun _ _ q => q) (fun _ _ q => LoopA.inv I hend step q)
theorem CompA.inv {B : Cx → Ent → Prop} {Rb : Rho} {Q : D → Os → Prop} (I : List D → List D → Os → Prop) (hend : ∀ acc O, I [] acc O → Q (.lst acc) O)
    (step : ∀ d ds acc O, I (d :: ds) acc O → acc.length ≤ 100000 ∧ ∀ Xb N', B Xb N' → AG Xb tg d Rb fun R1 => SubR R1 Rb ∧ AIfs Xb N' ifs R1 O fun b O1 =>
      if b = true then AE Xb N' elt R1 O1 fun y O2 => I ds (acc ++ [y]) O2 else I ds acc O1) : ∀ {ds acc : List D} {O : Os}, I ds acc O → CompA B tg ifs elt Rb Q ds acc O
  | [], acc, O, h => hend acc O h
  | d :: ds, acc, O, h => by
    obtain ⟨h1, h2⟩ := step d ds acc O h
    refine ⟨h1, fun Xb N' bk => AG.imp (h2 Xb N' bk) fun R1 ⟨q1, q2⟩ => ⟨q1, AIfs.imp q2 fun b O1 z => ?_⟩⟩
    cases b with
    | true =>
      rw [if_pos rfl] at z ⊢
      exact AE.imp z fun y O2 q => CompA.inv I hend step q
    | false =>
      rw [if_neg Bool.false_ne_true] at z ⊢
      exact CompA.inv I hend step z
end
end K12
/-! M1: trees of the little language. -/
namespace K12
open PySem PySem.Spec PyProof.Rows L2
open PySem.PyData (strOk)

/-! ### expressions -/
inductive EW where
  | num (n : Int) | truth (b : Bool) | name (s : Str)
  | two (op : Str) | one (op : Str) | call (f : Str) | new (c : Str) | row | field (f : Str) | index
inductive Ex where
  | mk (w : EW) (ps : List Ex)
def EW.enc : EW → List D → D
  | .num n, _ => .tup [.str "num", .int n]
  | .truth b, _ => .tup [.str "truth", .bl b]
  | .name s, _ => .tup [.str "name", .str s]
  | .two op, ps => .tup (.str "two" :: .str op :: ps)
  | .one op, ps => .tup (.str "one" :: .str op :: ps)
  | .call f, ps => .tup [.str "call", .str f, .tup ps]
  | .new c, ps => .tup [.str "new", .str c, .tup ps]
  | .row, ps => .tup [.str "row", .tup ps]
  | .field f, ps => .tup (.str "field" :: (ps ++ [.str f]))
  | .index, ps => .tup (.str "index" :: ps)
mutual
def Ex.enc : Ex → D
  | .mk w ps => w.enc (Ex.encs ps)
def Ex.encs : List Ex → List D
  | [] => []
  | e :: es => e.enc :: Ex.encs es
end
mutual
def Ex.sz : Ex → Nat
  | .mk _ ps => Ex.szs ps + 1
def Ex.szs : List Ex → Nat
  | [] => 0
  | e :: es => e.sz + Ex.szs es
end
def ops9 : List Str := ["+", "-", "*", "/", "mod", "<", "=", "and", "or"]
def EW.ok : EW → Nat → Prop
  | .num _, n => n = 0
  | .truth _, n => n = 0
  | .name s, n => n = 0 ∧ strOk s = true
  | .two op, n => n = 2 ∧ op ∈ ops9
  | .one op, n => n = 1 ∧ (op = "-" ∨ op = "not")
  | .call f, n => n ≤ 3 ∧ strOk f = true
  | .new c, n => n ≤ 3 ∧ (c = "pair" ∨ c = "twin")
  | .row, n => n = 2 ∨ n = 3
  | .field f, n => n = 1 ∧ strOk f = true
  | .index, n => n = 2
/-- well formed, at most n deep -/
inductive Wf : Nat → Ex → Prop
  | mk {n : Nat} {w : EW} {ps : List Ex} : w.ok ps.length → (∀ p ∈ ps, Wf n p) → Wf (n + 1) (.mk w ps)
theorem Wf.le {n m : Nat} {e : Ex} (h : Wf n e) (l : n ≤ m) : Wf m e := by
  induction h generalizing m with
  | mk h _ ih =>
    obtain ⟨k, rfl⟩ : ∃ k, m = k + 1 := ⟨m - 1, by omega⟩
    exact .mk h fun p hp => ih p hp (by omega)
theorem encs_len : ∀ {es : List Ex}, (Ex.encs es).length = es.length
  | [] => by simp only [Ex.encs, List.length_nil]
  | e :: es => by simp only [Ex.encs, List.length_cons, encs_len]
theorem encs_map : ∀ {es : List Ex}, Ex.encs es = es.map Ex.enc
  | [] => by simp only [Ex.encs, List.map_nil]
  | e :: es => by simp only [Ex.encs, List.map_cons, encs_map]

/-! ### rows -/
inductive RW where
  | let_ (x : Str) | set (x : Str) | setat (x : Str) | setf (x f : Str)
  | if_ | while_ | log | do_ | ret | raise (s : Str) | try_ (fs : List Str)
mutual
inductive Rw where
  | mk (w : RW) (es : List Ex) (bs : Bds)
inductive Rws where
  | nil | cons (r : Rw) (rs : Rws)
inductive Bds where
  | nil | cons (b : Rws) (bs : Bds)
end
def tryD (fs : List Str) : List D → D
  | b :: bs => .tup [.str "try", b, .tup (zips (fs.map .str) bs)]
  | [] => .tup [.str "try"]
def RW.enc : RW → List D → List D → D
  | .let_ x, es, _ => .tup (.str "let" :: .str x :: es)
  | .set x, es, _ => .tup (.str "set" :: .str x :: es)
  | .setat x, es, _ => .tup (.str "setat" :: .str x :: es)
  | .setf x f, es, _ => .tup (.str "setfield" :: .str x :: .str f :: es)
  | .if_, es, bs => .tup (.str "if" :: (es ++ bs))
  | .while_, es, bs => .tup (.str "while" :: (es ++ bs))
  | .log, es, bs => .tup (.str "log" :: (es ++ bs))
  | .do_, es, bs => .tup (.str "do" :: (es ++ bs))
  | .ret, es, bs => .tup (.str "return" :: (es ++ bs))
  | .raise s, _, _ => .tup [.str "raise", .str s]
  | .try_ fs, _, bs => tryD fs bs
mutual
def Rw.enc : Rw → D
  | .mk w es bs => w.enc (Ex.encs es) (Bds.encs bs)
def Rws.encs : Rws → List D
  | .nil => []
  | .cons r rs => r.enc :: Rws.encs rs
def Bds.encs : Bds → List D
  | .nil => []
  | .cons b bs => .tup (Rws.encs b) :: Bds.encs bs
end
mutual
def Rw.sz : Rw → Nat
  | .mk _ es bs => Ex.szs es + Bds.sz bs + 1
def Rws.sz : Rws → Nat
  | .nil => 0
  | .cons r rs => r.sz + Rws.sz rs
def Bds.sz : Bds → Nat
  | .nil => 0
  | .cons b bs => Rws.sz b + Bds.sz bs
end
def Rws.len : Rws → Nat
  | .nil => 0
  | .cons _ rs => Rws.len rs + 1
def Bds.len : Bds → Nat
  | .nil => 0
  | .cons _ bs => Bds.len bs + 1
/-- words, the number of expressions, of blocks -/
def RW.ok : RW → Nat → Nat → Prop
  | .let_ x, n, m => n = 1 ∧ m = 0 ∧ strOk x = true
  | .set x, n, m => n = 1 ∧ m = 0 ∧ strOk x = true
  | .setat x, n, m => n = 2 ∧ m = 0 ∧ strOk x = true
  | .setf x f, n, m => n = 1 ∧ m = 0 ∧ strOk x = true ∧ strOk f = true
  | .if_, n, m => n = 1 ∧ m = 2
  | .while_, n, m => n = 1 ∧ m = 1
  | .log, n, m => n = 1 ∧ m = 0
  | .do_, n, m => n = 1 ∧ m = 0
  | .ret, n, m => n = 1 ∧ m = 0
  | .raise s, n, m => n = 0 ∧ m = 0 ∧ strOk s = true
  | .try_ fs, n, m => n = 0 ∧ m = fs.length + 1 ∧ (fs.length = 1 ∨ fs.length = 2) ∧ ∀ f ∈ fs, strOk f = true
mutual
inductive WfR : Nat → Rw → Prop
  | mk {n : Nat} {w : RW} {es : List Ex} {bs : Bds} : w.ok es.length bs.len → (∀ e ∈ es, Wf n e) → WfB n bs → WfR (n + 1) (.mk w es bs)
inductive WfS : Nat → Rws → Prop
  | nil {n : Nat} : WfS n .nil
  | cons {n : Nat} {r : Rw} {rs : Rws} : WfR n r → WfS n rs → WfS n (.cons r rs)
inductive WfB : Nat → Bds → Prop
  | nil {n : Nat} : WfB n .nil
  | cons {n : Nat} {b : Rws} {bs : Bds} : WfS n b → WfB n bs → WfB n (.cons b bs)
end
mutual
theorem WfR.le : ∀ {n m : Nat} {r : Rw}, WfR n r → n ≤ m → WfR m r
  | _, 0, _, .mk _ _ _, l => absurd l (Nat.not_succ_le_zero _)
  | _, m + 1, _, .mk h1 h2 h3, l => .mk h1 (fun e he => (h2 e he).le (Nat.le_of_succ_le_succ l)) (WfB.le h3 (Nat.le_of_succ_le_succ l))
theorem WfS.le : ∀ {n m : Nat} {r : Rws}, WfS n r → n ≤ m → WfS m r
  | _, _, _, .nil, _ => .nil
  | _, _, _, .cons h1 h2, l => .cons (WfR.le h1 l) (WfS.le h2 l)
theorem WfB.le : ∀ {n m : Nat} {r : Bds}, WfB n r → n ≤ m → WfB m r
  | _, _, _, .nil, _ => .nil
  | _, _, _, .cons h1 h2, l => .cons (WfS.le h1 l) (WfB.le h2 l)
end
theorem rws_len : ∀ {rs : Rws}, (Rws.encs rs).length = rs.len
  | .nil => by simp only [Rws.encs, Rws.len, List.length_nil]
  | .cons r rs => by simp only [Rws.encs, Rws.len, List.length_cons, rws_len]
theorem bds_len : ∀ {bs : Bds}, (Bds.encs bs).length = bs.len
  | .nil => by simp only [Bds.encs, Bds.len, List.length_nil]
  | .cons b bs => by simp only [Bds.encs, Bds.len, List.length_cons, bds_len]
def Rws.app : Rws → Rws → Rws
  | .nil, s => s
  | .cons r rs, s => .cons r (Rws.app rs s)
theorem app_encs : ∀ {r s : Rws}, (r.app s).encs = r.encs ++ s.encs
  | .nil, _ => by simp only [Rws.app, Rws.encs, List.nil_append]
  | .cons r rs, s => by simp only [Rws.app, Rws.encs, List.cons_append, app_encs]
theorem app_sz : ∀ {r s : Rws}, (r.app s).sz = r.sz + s.sz
  | .nil, _ => by simp only [Rws.app, Rws.sz, Nat.zero_add]
  | .cons r rs, s => by simp only [Rws.app, Rws.sz, app_sz, Nat.add_assoc]
theorem app_wf {n : Nat} : ∀ {r s : Rws}, WfS n r → WfS n s → WfS n (r.app s)
  | .nil, _, _, h => h
  | .cons r rs, s, .cons h1 h2, h => .cons h1 (app_wf h2 h)
end K12
/-! A20: more small words. -/
namespace K12
open PySem PySem.Spec PyProof.Rows L2
open PySem.PyData (strOk)
theorem pk_2 {p t : Addr} {m m' n : MO} {O : Os} : Pk ((t, n) :: (p, m) :: O) [(p, m)] [(p, m')] ((t, n) :: (p, m') :: O) := .step (.tail .head) .new
theorem calls_2 {N : Ent} {S : ASp} {ds : List D} {p t : Addr} {m n : MO} {O : Os} {Q : D → Os → Prop} (h : S ds [(p, m)] (fun d Oc' => ∃ O2, Pk ((t, n) :: (p, m) :: O) [(p, m)] Oc' O2 ∧ Q d O2) (fun C fs Oc' => ∃ O2, Pk ((t, n) :: (p, m) :: O) [(p, m)] Oc' O2 ∧ N.EX C fs O2)) : CallS N S ds ((t, n) :: (p, m) :: O) Q := ⟨_, .cons (.tail .head) .nil, h⟩
theorem RepO.drop {K : PySem.W.Frag} {N : Ent} {O O2 : Os} {H F : Hp} (r : RepO K N O H F) (s : O2.Sublist O) : RepO K N O2 H F where
  ex := r.ex
  ob := fun p hp => r.ob p (s.subset hp)
  nd := r.nd.sublist (s.map _)
  grow := r.grow
  keep := r.keep
  newF := r.newF
  newO := fun p hp => r.newO p (s.subset hp)
section
variable {X : Cx} {N : Ent} {R : Rho} {O O2 : Os} {E : AEnds}
theorem RepS.drop {σ : L2.St} {H F : Hp} (r : RepS X N R O σ H F) (s : O2.Sublist O) : RepS X N R O2 σ H F := { r with o := r.o.drop s }
theorem AE.drop {e : Expr} {Q : D → Os → Prop} (s : O2.Sublist O) (h : AE X N e R O2 Q) : AE X N e R O Q := fun σ H F r => h σ H F (r.drop s)
theorem AT.drop {e : Expr} {Q : Bool → Os → Prop} (s : O2.Sublist O) (h : AT X N e R O2 Q) : AT X N e R O Q := fun σ H F r => h σ H F (r.drop s)
theorem AS.drop {e : Stmt} (s : O2.Sublist O) (h : AS X N e R O2 E) : AS X N e R O E := fun σ H F r => h σ H F (r.drop s)
theorem ASs.drop {es : List Stmt} (s : O2.Sublist O) (h : ASs X N es R O2 E) : ASs X N es R O E := fun σ H F r => h σ H F (r.drop s)
theorem as_retL {e : Expr} {pos : Pos} (h : AE X N e R O fun d O1 => ∃ O2, O2.Sublist O1 ∧ E.rt d O2) : AS X N (.Return (some e) pos) R O E := fun σ H F r =>
  tMs.of (ps_ret peM) ((h σ H F r).imp fun v H1 ⟨d, O1, F1, s1, r1, p1, O2, s2, q1⟩ => ⟨d, O2, F1, s1, r1.o.drop s2, p1, q1⟩)
end
theorem par2_i {x y : Str} {a b : D} {R R1 R2 : Rho} {P : Rho → Prop} (p1 : Put R x a R1) (p2 : Put R1 y b R2) (h : P R2) : ∃ d1 d2 R1 R2, [a, b] = [d1, d2] ∧ Put R x d1 R1 ∧ Put R1 y d2 R2 ∧ P R2 := ⟨a, b, R1, R2, rfl, p1, p2, h⟩
theorem par3_i {x y z : Str} {a b c : D} {R R1 R2 R3 : Rho} {P : Rho → Prop} (p1 : Put R x a R1) (p2 : Put R1 y b R2) (p3 : Put R2 z c R3) (h : P R3) : ∃ d1 d2 d3 R1 R2 R3, [a, b, c] = [d1, d2, d3] ∧ Put R x d1 R1 ∧ Put R1 y d2 R2 ∧ Put R2 z d3 R3 ∧ P R3 := ⟨a, b, c, R1, R2, R3, rfl, p1, p2, p3, h⟩
theorem join3 (a b c : Nat) : Txt.join (Str.ofString "") [⟨#[a]⟩, ⟨#[b]⟩, ⟨#[c]⟩] = ⟨#[a, b, c]⟩ := by
  show (Builtin.Str.glued (PySem.Str.ofString "") _) = _
  rw [StrLaws.glued_eq_join]
  rfl
theorem join3_ok (a b c : Nat) (ha : a < 0x110000) (hb : b < 0x110000) (hc : c < 0x110000) : strOk ("u" ++ Txt.join (Str.ofString "") [⟨#[a]⟩, ⟨#[b]⟩, ⟨#[c]⟩]) = true := by
  rw [join3]
  show Array.all (#[117] ++ #[a, b, c]) _ = true
  simp [ha, hb, hc]
theorem ixs_mem {x : Str} {z : Int} {P : Nat → Prop} (h0 : 0 ≤ z) (h1 : z < (x.length : Int)) (hx : x.length ≤ 100000) (q : ∀ c, c ∈ x.cps.toList → P c) : ∃ (s : Str) (z' : Int) (c : Nat), D.str x = .str s ∧ D.int z = .int z' ∧ s.length ≤ 100000 ∧ atI s.cps.toList z' = some c ∧ P c := by
  have hl : x.cps.toList.length = x.length := by rw [Array.length_toList]; rfl
  have hk : z.toNat < x.cps.toList.length := by omega
  have ek : ((z.toNat : Nat) : Int) = z := by omega
  have e : atI x.cps.toList ((z.toNat : Nat) : Int) = some x.cps.toList[z.toNat] := atI_nat (List.getElem?_eq_getElem hk)
  rw [ek] at e
  exact ⟨x, z, _, rfl, rfl, hx, e, q _ (List.getElem_mem hk)⟩
theorem FnOkA.or {P : Program} {w : World} {K : PySem.W.Frag} {mg : Str → Option Value} {base : Heap} {k : Nat} {f : Addr} {fd : FuncData} {ps : List Str} {S1 S2 : ASp} (h1 : FnOk P w K mg base (L2.CX P w) k f fd ps (lift K S1)) (h2 : FnOk P w K mg base (L2.CX P w) k f fd ps (lift K S2)) :
    FnOk P w K mg base (L2.CX P w) k f fd ps (lift K fun ds O Q E => S1 ds O Q E ∨ S2 ds O Q E) := by
  constructor
  · rintro vs H Q E ⟨F, ds, O, QA, EA, a1, a2, a3, a4, s | s, a5⟩
    · exact h1.len vs H Q E ⟨F, ds, O, QA, EA, a1, a2, a3, a4, s, a5⟩
    · exact h2.len vs H Q E ⟨F, ds, O, QA, EA, a1, a2, a3, a4, s, a5⟩
  · rintro A outer s H args us vs Q E hr he hb hv ⟨F, ds, O, QA, EA, a1, a2, a3, a4, ss | ss, a5⟩
    · exact h1.run A outer s H args us vs Q E hr he hb hv ⟨F, ds, O, QA, EA, a1, a2, a3, a4, ss, a5⟩
    · exact h2.run A outer s H args us vs Q E hr he hb hv ⟨F, ds, O, QA, EA, a1, a2, a3, a4, ss, a5⟩
theorem ai_rangeE {X : Cx} {N : Ent} {R : Rho} {O : Os} {tg e : Expr} {k : List D → Os → Prop} {p pos : Pos} (hg : Gl X "range") (hm : X.mg "range" = none) (h : AE X N e R O fun d O1 => ∃ n : Nat, d = .int (n : Nat) ∧ n < 4611686018427387904 ∧ k (nats n) O1) (hs : starEach [e] X.env = (false, eval e X.env) :: starEach [] X.env := by rfl) :
    AI X N tg (.Call (.Name "range" p) [e] [] pos) R O k := fun σ H F r Rw hR =>
  ⟨_, pi_range1 hg hm (pa_cons peM pa_nil hs) hs, (h σ H F r).imp fun v H1 ⟨d, O1, F1, s1, r1, p1, n, ed, hn, q⟩ => by
    subst ed
    cases p1
    exact ⟨(n : Int), rfl, by omega, by omega, hR _ _ (nats n) O1 F1 s1 r1 src_range q⟩⟩
theorem nats_len {n : Nat} : (nats n).length = n := by unfold nats; rw [List.length_map, List.length_range]
end K12
/-! P1: the errors' own __init__. -/
namespace K12
open PySem PySem.Spec PyProof.Rows L2
def top (i : Nat) : Stmt := PySem.Challenge.pw_eachstepsame_k12_whole_what_does_not_fit.main.body.getD i (.Pass ⟨0, 0, 0, 0⟩)
/-- the j-th statement of the class that stands at i -/
def inCls (i j : Nat) : Stmt := match top i with
  | .ClassDef _ _ _ body .. => body.getD j (.Pass ⟨0, 0, 0, 0⟩)
  | _ => .Pass ⟨0, 0, 0, 0⟩
abbrev sNoName : Stmt := inCls 2 0
abbrev sTwice : Stmt := inCls 3 0
abbrev sNoFit : Stmt := inCls 4 0
section
variable {P : Program} {w : World} {K : PySem.W.Frag} {mg : Str → Option Value} {base : Heap} {f : Addr} {fd : FuncData} {k : Nat} {C S : Addr}
theorem scNoName : FnScope ["self", "name", "place"] ["self", "name", "place"] (defScope sNoName) := ⟨rfl, rfl, rfl, by decide +kernel, rfl, by decide +kernel, by decide +kernel⟩
theorem scTwice : FnScope ["self", "name", "place"] ["self", "name", "place"] (defScope sTwice) := ⟨rfl, rfl, rfl, by decide +kernel, rfl, by decide +kernel, by decide +kernel⟩
theorem scNoFit : FnScope ["self", "wants", "gives"] ["self", "wants", "gives"] (defScope sNoFit) := ⟨rfl, rfl, rfl, by decide +kernel, rfl, by decide +kernel, by decide +kernel⟩
theorem ok_iNoName (Fn : Fun K "__init__" "NoName.__init__" sNoName f fd) (B : BaseC K S) (T : OexC K C) (hm : mg "StepError" = some (.ref S)) (n1 : PySem.W.findIn K (.ref C) "name" = some none) (n2 : PySem.W.findIn K (.ref C) "place" = some none) :
    FnOk P w K mg base (L2.CX P w) (k + 1) f fd ["self", "name", "place"] (initSp C "name" "place") := by
  refine Fn.okX scNoName (fun vs H Q E h => ?_) (fun cdv A outer s H vs Q E hr h => ?_)
  · obtain ⟨a, v1, v2, e, _⟩ := h
    rw [e]; rfl
  obtain ⟨a, v1, v2, e, ha, q⟩ := h
  subst e
  refine ⟨_, pss_cons (ps_expr (pe_sinit B rfl hm (pa_cons (pv 0) (pa_cons pe_str pa_nil)))) (pss_cons (ps_ost (pv 0) (pv 1)) (pss_one (ps_ost (pv 0) (pv 2)))), ?_⟩
  refine ⟨_, rfl, a, C, _, rfl, by decide, T, ha, _, rfl, _, rfl, a, C, rfl, T, n1, .inl ⟨ha, fun dx h1 h2 => ?_⟩⟩
  exact ⟨_, rfl, _, rfl, a, C, rfl, T, n2, .inr ⟨dx, [("name", v1)], upd_same, by rw [upd_ne h2, upd_same], (by show 1 ≤ 900; decide), q dx h1 h2⟩⟩
theorem ok_iTwice (Fn : Fun K "__init__" "Twice.__init__" sTwice f fd) (B : BaseC K S) (T : OexC K C) (hm : mg "StepError" = some (.ref S)) (n1 : PySem.W.findIn K (.ref C) "name" = some none) (n2 : PySem.W.findIn K (.ref C) "place" = some none) :
    FnOk P w K mg base (L2.CX P w) (k + 1) f fd ["self", "name", "place"] (initSp C "name" "place") := by
  refine Fn.okX scTwice (fun vs H Q E h => ?_) (fun cdv A outer s H vs Q E hr h => ?_)
  · obtain ⟨a, v1, v2, e, _⟩ := h
    rw [e]; rfl
  obtain ⟨a, v1, v2, e, ha, q⟩ := h
  subst e
  refine ⟨_, pss_cons (ps_expr (pe_sinit B rfl hm (pa_cons (pv 0) (pa_cons pe_str pa_nil)))) (pss_cons (ps_ost (pv 0) (pv 1)) (pss_one (ps_ost (pv 0) (pv 2)))), ?_⟩
  refine ⟨_, rfl, a, C, _, rfl, by decide, T, ha, _, rfl, _, rfl, a, C, rfl, T, n1, .inl ⟨ha, fun dx h1 h2 => ?_⟩⟩
  exact ⟨_, rfl, _, rfl, a, C, rfl, T, n2, .inr ⟨dx, [("name", v1)], upd_same, by rw [upd_ne h2, upd_same], (by show 1 ≤ 900; decide), q dx h1 h2⟩⟩
theorem ok_iNoFit (Fn : Fun K "__init__" "NoFit.__init__" sNoFit f fd) (B : BaseC K S) (T : OexC K C) (hm : mg "StepError" = some (.ref S)) (n1 : PySem.W.findIn K (.ref C) "wants" = some none) (n2 : PySem.W.findIn K (.ref C) "gives" = some none) :
    FnOk P w K mg base (L2.CX P w) (k + 1) f fd ["self", "wants", "gives"] (initSp C "wants" "gives") := by
  refine Fn.okX scNoFit (fun vs H Q E h => ?_) (fun cdv A outer s H vs Q E hr h => ?_)
  · obtain ⟨a, v1, v2, e, _⟩ := h
    rw [e]; rfl
  obtain ⟨a, v1, v2, e, ha, q⟩ := h
  subst e
  refine ⟨_, pss_cons (ps_expr (pe_sinit B rfl hm (pa_cons (pv 0) (pa_cons pe_str pa_nil)))) (pss_cons (ps_ost (pv 0) (pv 1)) (pss_one (ps_ost (pv 0) (pv 2)))), ?_⟩
  refine ⟨_, rfl, a, C, _, rfl, by decide, T, ha, _, rfl, _, rfl, a, C, rfl, T, n1, .inl ⟨ha, fun dx h1 h2 => ?_⟩⟩
  exact ⟨_, rfl, _, rfl, a, C, rfl, T, n2, .inr ⟨dx, [("wants", v1)], upd_same, by rw [upd_ne h2, upd_same], (by show 1 ≤ 900; decide), q dx h1 h2⟩⟩
end
end K12
namespace K12
open PySem PySem.Spec PyProof.Rows L2
open PySem.PyData (strOk)
local macro_rules | `(tactic| walk_at "g") => `(tactic| repeat (first | (with_reducible exact Get.head) | (with_reducible apply Get.tail)))
local macro_rules | `(tactic| walk_at "p") => `(tactic| repeat (first | (with_reducible exact Put.head) | (with_reducible apply Put.tail)))
local macro_rules | `(tactic| walk_at "s") => `(tactic| exact ⟨⟨(by first | exact Or.inl rfl | exact Or.inr (Or.inl rfl) | exact Or.inr (Or.inr rfl)), (by decide), (by decide)⟩, (by first | exact Or.inl rfl | exact Or.inr rfl), (by first | exact Or.inl rfl | exact Or.inr rfl)⟩)
local macro_rules | `(tactic| walk_at "m") => `(tactic| repeat (first | (with_reducible exact List.mem_cons_self) | (with_reducible apply List.mem_cons_of_mem)))
local macro_rules | `(tactic| walk_at "u") => `(tactic| repeat (first | (with_reducible exact U.head) | (with_reducible apply U.tail)))
local macro_rules | `(tactic| walk_at "gc") => `(tactic| first | exact Gd.calm (by assumption) | ((have g : Gd _ _ := (by assumption)); exact g.calm))
local macro_rules | `(tactic| walk_at "gn") => `(tactic| first | exact Gd.nd (by assumption) | ((have g : Gd _ _ := (by assumption)); exact g.nd))
local macro_rules | `(tactic| walk_at "gu") => `(tactic| first | exact Gd.un (by assumption) | ((have g : Gd _ _ := (by assumption)); exact g.un))
local macro_rules | `(tactic| walk_at "nCall") => `(tactic| first
  | ((with_reducible refine' ae_c ?G ?_); (case G => assumption))
  | ((with_reducible refine' ae_len ?m ?_ ?hg ?he ?hpl); (case m => exact Lib.len (by assumption)); (case hg => rfl); (case he => rfl); (case hpl => rfl))
  | ((with_reducible refine' ae_tupOf ?m ?_ ?g ?he ?hp); (case m => exact Lib.tup (by assumption)); (case g => rfl); (case he => rfl); (case hp => rfl))
  | ((with_reducible refine' ae_intB ?m ?_ ?g ?he ?hp); (case m => exact Lib.int (by assumption)); (case g => rfl); (case he => rfl); (case hp => rfl))
  | ((with_reducible refine' ae_app ?_ ?hb ?hf ?hl ?hs ?hp); (case hb => rfl); (case hf => rfl); (case hl => rfl); (case hs => rfl); (case hp => rfl))
  | ((with_reducible refine' ae_pop ?_ ?hb ?hl); (case hb => rfl); (case hl => rfl))
  | ((with_reducible refine' ae_meth ?G ?hr ?ps ?_ ?hst ?hpl ?ht); (case G => assumption); (case hr => assumption); (case ps => first | assumption | exact Gd.ps (by assumption)); (case hst => with_unfolding_all rfl); (case hpl => with_unfolding_all rfl); (case ht => with_unfolding_all rfl))
  | ((with_reducible refine' ae_meth0 ?G ?hr ?ps ?_ ?ht); (case G => assumption); (case hr => assumption); (case ps => first | assumption | exact Gd.ps (by assumption)); (case ht => with_unfolding_all rfl)))
local macro_rules | `(tactic| walk_at "nBin") => `(tactic| first
  | (with_reducible refine ae_add ?_)
  | (with_reducible refine ae_subI ?_)
  | (with_reducible refine ae_mulI ?_)
  | (with_reducible refine ae_modI ?_)
  | (with_reducible refine ae_divI ?_)
  | (with_reducible refine ae_powI ?_))
local macro_rules | `(tactic| walk_at "nSub") => `(tactic| first
  | ((with_reducible refine' ae_ixD ?_ ?hs); (case hs => exact fun _ _ => rfl))
  | ((with_reducible refine' ae_sl ?_)))
local macro_rules | `(tactic| walk_at "nE") => `(tactic| first
  | ((with_reducible refine' ae_n ?g ?_); (case g => walk_at "g"))
  | (with_reducible refine ae_str ?_)
  | ((with_reducible refine pSub ?_); walk_at "nSub")
  | ((with_reducible refine pCall ?_); walk_at "nCall")
  | (with_reducible refine ae_int ?_)
  | (with_reducible refine ae_bl ?_)
  | (with_reducible refine ae_non ?_)
  | (with_reducible refine ae_tup ?_)
  | ((with_reducible refine' ae_eq ?un ?_); (case un => walk_at "gu"))
  | ((with_reducible refine' ae_ne ?un ?_); (case un => walk_at "gu"))
  | (with_reducible refine ae_neg ?_)
  | ((with_reducible refine' ae_fld ?c ?n ?_ ?hb); (case n => assumption); (case c => assumption); (case hb => rfl))
  | ((with_reducible refine pBin ?_); walk_at "nBin"))
local macro_rules | `(tactic| walk_at "nS") => `(tactic| first
  | (with_reducible refine as_if ?_)
  | (with_reducible refine as_pass ?_)
  | ((with_reducible refine' as_aug ?nd ?sx ?g ?_); (case nd => walk_at "gn"); (case sx => walk_at "s"); (case g => walk_at "g"))
  | ((with_reducible refine' as_set ?nd ?sx ?_ ?hs); (case nd => walk_at "gn"); (case sx => walk_at "s"); (case hs => rfl))
  | ((with_reducible refine' as_par3 ?c ?nd ?sx ?sy ?sz ?xy ?xz ?yz ?hx ?hy ?hz ?g1 ?g2 ?g3 ?_ ?hw ?hs); (case hw => rfl); (case hs => rfl); (case c => walk_at "gc"); (case nd => walk_at "gn"); (case sx => walk_at "s"); (case sy => walk_at "s"); (case sz => walk_at "s"); (case xy => decide); (case xz => decide); (case yz => decide); (case hx => rfl); (case hy => rfl); (case hz => rfl); (case g1 => walk_at "m"); (case g2 => walk_at "m"); (case g3 => walk_at "m"))
  | ((with_reducible refine' as_par ?c ?nd ?sx ?sy ?xy ?hx ?hy ?g1 ?g2 ?_ ?hw ?hs); (case hw => rfl); (case hs => rfl); (case c => walk_at "gc"); (case nd => walk_at "gn"); (case sx => walk_at "s"); (case sy => walk_at "s"); (case xy => decide); (case hx => rfl); (case hy => rfl); (case g1 => walk_at "m"); (case g2 => walk_at "m"))
  | ((with_reducible refine' as_expr ?_ ?hs); (case hs => rfl))
  | ((with_reducible refine' as_dputT ?un ?_ ?hs); (case un => walk_at "gu"); (case hs => rfl))
  | ((with_reducible refine' as_lput ?_ ?hs ?hw ?h1 ?ha); (case hs => rfl); (case hw => rfl); (case h1 => rfl); (case ha => exact fun _ => rfl))
  | ((with_reducible refine' as_for ?hp ?hc ?_ ?hs); (case hp => exact Gd.own (by assumption)); (case hc => exact Gd.calm (by assumption)); (case hs => intro _; rfl))
  | ((with_reducible refine' as_rs ?Rc ?G ?_ ?hr ?hg ?hdb ?he ?hpl); (case Rc => assumption); (case G => assumption); (case hr => assumption); (case hg => with_unfolding_all rfl); (case hdb => decide); (case he => with_unfolding_all rfl); (case hpl => with_unfolding_all rfl))
  | ((with_reducible refine' as_asg ?_ ?hs ?hw ?h1); (case hw => rfl); (case hs => rfl); (case h1 => rfl)))
local macro_rules | `(tactic| walk_at "nT") => `(tactic| first
  | ((with_reducible refine' at_eq ?un ?_); (case un => walk_at "gu"))
  | ((with_reducible refine' at_ne ?un ?_); (case un => walk_at "gu"))
  | (with_reducible refine at_gt ?_)
  | (with_reducible refine at_ge ?_)
  | (with_reducible refine at_lt ?_)
  | ((with_reducible refine' at_dinA ?un ?_ ?hm); (case un => walk_at "gu"); (case hm => rfl))
  | ((with_reducible refine' at_dniA ?un ?_ ?hm); (case un => walk_at "gu"); (case hm => rfl))
  | ((with_reducible refine' at_inTup ?_ ?hm); (case hm => rfl))
  | ((with_reducible refine' at_niTup ?_ ?hm); (case hm => rfl))
  | (with_reducible refine atBool ?_))
local macro_rules | `(tactic| walk_at "nW") => `(tactic| first
  | (with_reducible refine at_and ?_)
  | (with_reducible refine at_and1 ?_)
  | (with_reducible refine at_or ?_)
  | (with_reducible refine at_or1 ?_))
local macro_rules | `(tactic| walk_at "nI") => `(tactic| first
  | (with_reducible refine ite_t ?_)
  | (with_reducible refine ite_f ?_)
  | (with_reducible refine ite_nf ?_)
  | (with_reducible refine ite_nt ?_)
  | ((with_reducible refine' ite_dt ?h ?_); (case h => first | decide +kernel | (focus ((simp only [List.length_cons, List.length_nil]); omega))))
  | ((with_reducible refine' ite_df ?h ?_); (case h => first | decide +kernel | (focus ((simp only [List.length_cons, List.length_nil]); omega))))
  | ((with_reducible refine' ite_ndt ?h ?_); (case h => decide +kernel))
  | ((with_reducible refine' ite_ndf ?h ?_); (case h => decide +kernel)))
local macro_rules | `(tactic| walk_at "nX") => `(tactic| first
  | ((with_reducible refine' par2_i ?p1 ?p2 ?_); (case p1 => walk_at "p"); (case p2 => walk_at "p"))
  | ((with_reducible refine' par3_i ?p1 ?p2 ?p3 ?_); (case p1 => walk_at "p"); (case p2 => walk_at "p"); (case p3 => walk_at "p"))
  | ((with_reducible refine' lput_i ?u ?h ?_); (case u => walk_at "u"); (case h => rfl))
  | (with_reducible refine len_i lenD_lst ?_)
  | (with_reducible refine len_i lenD_tup ?_)
  | (with_reducible refine len_i lenD_arg ?_)
  | (with_reducible refine eq_int ?_)
  | ((with_reducible refine' eq_t ?h ?_); (case h => decide +kernel))
  | ((with_reducible refine' eq_f ?h ?_); (case h => decide +kernel))
  | ((with_reducible refine' app_i ?m ?_); (case m => walk_at "m"))
  | ((with_reducible refine' app_j ?u ?hl ?_); (case u => walk_at "u"); (case hl => first | exact Nat.le_of_ble_eq_true rfl | (focus ((try simp only [List.length_append, List.length_cons, List.length_nil]); omega))))
  | ((with_reducible refine' ext_j ?u ?hl ?_); (case u => walk_at "u"); (case hl => first | exact Nat.le_of_ble_eq_true rfl | (focus ((try simp only [List.length_append, List.length_cons, List.length_nil]); omega))))
  | ((with_reducible refine' extT_j ?u ?hl ?_); (case u => walk_at "u"); (case hl => first | exact Nat.le_of_ble_eq_true rfl | (focus ((try simp only [List.length_append, List.length_cons, List.length_nil]); omega))))
  | (with_reducible refine tup_i ?_)
  | (with_reducible refine lst_i ?_)
  | ((with_reducible refine' aug_i ?p ?_); (case p => walk_at "p"))
  | (with_reducible refine two_i ?_)
  | ((with_reducible refine' ins_ref ?m ?e ?_); (case m => walk_at "m"); (case e => rfl))
  | ((with_reducible refine' ins_ins ?e ?_); (case e => rfl))
  | (with_reducible refine of_l ?_)
  | (with_reducible refine of_t ?_)
  | ((with_reducible refine' put_i ?p ?_); (case p => walk_at "p"))
  | (with_reducible refine int_i ?_)
  | (with_reducible refine bl_i ?_)
  | (with_reducible refine two_l ?_)
  | (with_reducible refine two_t ?_))
local macro_rules | `(tactic| walk_at "nA") => `(tactic| first
  | ((with_reducible refine' mt_ref ?m ?e ?_); (case m => walk_at "m"); (case e => rfl))
  | ((with_reducible refine' mt_ins ?e ?_); (case e => rfl))
  | ((with_reducible refine' and_mul ?c ?_); (case c => first | (refine Or.inr ⟨?_, ?_⟩ <;> omega) | (refine Or.inl ⟨?_, ?_⟩ <;> omega)))
  | ((with_reducible refine' and_len ?c ?_); (case c => exact Nat.le_of_ble_eq_true rfl))
  | ((with_reducible refine' and_div ?c ?_); (case c => constructor <;> omega))
  | ((with_reducible refine' and_pow ?c ?_); (case c => exact ⟨by decide, by decide, by decide⟩))
  | ((with_reducible refine' and_pos ?c ?_); (case c => omega)))
local macro_rules | `(tactic| walk_at "nG") => `(tactic| first
  | ((with_reducible refine' ag_n ?nd ?sx ?p ?_); (case nd => walk_at "gn"); (case sx => walk_at "s"); (case p => walk_at "p"))
  | ((with_reducible refine' ag_tup ?c ?_ ?l ?hn ?hst); (case c => walk_at "gc"); (case l => rfl); (case hn => rfl); (case hst => rfl))
  | ((with_reducible refine' ag_lst ?c ?_ ?l ?hn ?hst); (case c => walk_at "gc"); (case l => rfl); (case hn => rfl); (case hst => rfl)))
local macro_rules | `(tactic| walk_at "nR") => `(tactic| first
  | (with_reducible refine AddX.int ?_)
  | (with_reducible refine intsD_mk ?_)
  | ((with_reducible refine' inD_tup ?h ?_); (case h => rfl))
  | (with_reducible refine loop_nil ?_)
  | (with_reducible refine loop_cons ?_)
  | ((with_reducible refine' loop_nil' ?e ?_); (case e => rfl))
  | ((with_reducible refine' loop_cons' ?e ?_); (case e => rfl))
  | ((with_reducible refine' ixD_tup ?h ?_); (case h => rfl))
  | ((with_reducible refine' ixD_lst ?h ?_); (case h => rfl))
  | ((with_reducible refine' ixD_ref ?m ?h ?_); (case m => walk_at "m"); (case h => rfl))
  | (with_reducible refine slD_tup ?_)
  | (with_reducible refine slD_lst ?_)
  | (with_reducible refine slD_arg ?_)
  | (with_reducible refine ao_some ?_)
  | (with_reducible refine ao_none ?_))
local macro_rules | `(tactic| walk_at "n") => `(tactic| first
  | ((with_reducible refine pAE ?_); walk_at "nE")
  | ((with_reducible refine' aa_cons ?_ ?hs); (case hs => rfl))
  | (with_reducible refine aa_nil ?_)
  | ((with_reducible refine pEx ?_); walk_at "nX")
  | ((with_reducible refine pIte ?_); walk_at "nI")
  | (with_reducible refine ab_cons ?_)
  | (with_reducible refine ab_nil ?_)
  | ((with_reducible refine pAS ?_); walk_at "nS")
  | ((with_reducible refine pAT ?_); walk_at "nT")
  | ((with_reducible refine pAW ?_); walk_at "nW")
  | ((with_reducible refine pAnd ?_); walk_at "nA")
  | ((with_reducible refine pAG ?_); walk_at "nG")
  | ((with_reducible refine' ags_cons ?_ ?hs); (case hs => rfl))
  | (with_reducible refine ags_nil ?_)
  | walk_at "nR")
local macro_rules | `(tactic| walk_at "k") => `(tactic| first | walk_at "n" | (with_reducible refine as_ret ?_))
local macro_rules | `(tactic| walk_at "ns") => `(tactic| repeat walk_at "n")
local macro_rules | `(tactic| walk_at "l") => `(tactic| repeat (first | walk_at "k" | (with_reducible refine ae_lst ?_) | ((with_reducible refine' ae_lstOf ?m ?_ ?g ?he ?hp); (case m => exact Lib.lst (by assumption)); (case g => rfl); (case he => rfl); (case hp => rfl))))
local macro_rules | `(tactic| walk_at "ks") => `(tactic| repeat walk_at "k")
local macro_rules | `(tactic| walk_at "r") => `(tactic| dsimp only [startR])
local macro_rules | `(tactic| walk_at "v") => `(tactic| first | exact Or.inl rfl | exact Or.inr (Or.inl rfl) | exact Or.inr (Or.inr rfl))
local macro_rules | `(tactic| walk_at "b") => `(tactic| repeat (first
  | exact RbOk.nil
  | (apply RbOk.keep; (focus (refine ⟨?_, ?_, ?_⟩; (focus walk_at "v"); (focus decide); (focus decide))); (focus decide))
  | apply RbOk.drop))
local macro_rules | `(tactic| walk_at "sub") => `(tactic| repeat (first | (with_reducible exact SubR.nil) | (with_reducible apply SubR.same) | (with_reducible apply SubR.skip)))
local macro_rules | `(tactic| walk_at "a") => `(tactic| repeat (first
  | ((with_reducible refine' ag_n ?nd ?sx ?p ?_); (case nd => walk_at "gn"); (case sx => walk_at "s"); (case p => walk_at "p"))
  | ((with_reducible refine' ag_tup ?c ?_ ?l ?hn ?hst); (case c => walk_at "gc"); (case l => rfl); (case hn => rfl); (case hst => rfl))
  | ((with_reducible refine' ag_lst ?c ?_ ?l ?hn ?hst); (case c => walk_at "gc"); (case l => rfl); (case hn => rfl); (case hst => rfl))
  | ((with_reducible refine' ags_cons ?_ ?hs); (case hs => rfl))
  | (with_reducible refine ags_nil ?_)))
local macro_rules | `(tactic| walk_at "zr") => `(tactic| repeat (first | (with_reducible exact RlR.nil) | ((with_reducible apply RlR.cons); (focus first | (with_reducible exact RlD.here) | (exact RlD.same))) | (with_reducible apply RlR.skip)))
local macro_rules | `(tactic| walk_at "zo") => `(tactic| repeat (first | (with_reducible exact RlO.nil) | ((with_reducible apply RlO.cons); (focus (exact RlM.same)))))
local macro_rules | `(tactic| walk_at "zt") => `(tactic| repeat (first | (with_reducible exact Take.head) | (with_reducible apply Take.tail)))
local macro_rules | `(tactic| walk_at "z") => `(tactic| (first | (with_reducible refine' as_still Take.head ?ro ?rr ?_) | (with_reducible refine' ab_still Take.head ?ro ?rr ?_)); (case ro => walk_at "zo"); (case rr => walk_at "zr"))
local macro_rules | `(tactic| walk_at "x") => `(tactic| (with_reducible refine' ae_extT ?_ ?hb ?hf ?hl ?hs ?hp); (case hb => rfl); (case hf => rfl); (case hl => rfl); (case hs => rfl); (case hp => rfl))
local macro_rules | `(tactic| walk_at "e") => `(tactic| (with_reducible refine' ae_ext ?_ ?hb ?hf ?hl ?hs ?hp); (case hb => rfl); (case hf => rfl); (case hl => rfl); (case hs => rfl); (case hp => rfl))
local macro_rules | `(tactic| walk_at "cb") => `(tactic| (with_reducible refine comp_cons ?_ ?_); (focus (exact Nat.le_of_ble_eq_true rfl)); (intro Xb N' bk); (obtain ⟨⟨s0, H0, C0, cl0, fp0, xe0, eb⟩, hex, hps⟩ := bk); (subst eb); (have hps := hps rfl))
local macro_rules | `(tactic| walk_at "sb") => `(tactic| (with_reducible refine and_sub ?_ ?_); (focus (walk_at "sub")); (with_reducible refine ifs_nil ?_); (with_reducible refine ite_t ?_))
/-! P2: the drawing of programs. -/
open PySem.PyData (strOk)
abbrev sMixed : Stmt := top 21
abbrev sBox : Stmt := top 22
abbrev sTake : Stmt := top 23
abbrev sWrong : Stmt := top 24
/-- the box: two cells, a count, a rate, a kind -/
def BoxM (kd : D) (m : MO) : Prop := ∃ a b c d : Int, m = .lst [.int a, .int b, .int c, .int d, kd] ∧ d < 1000
def spMixed : ASp := fun ds O Q _ => ∃ a b, ds = [.int a, .int b] ∧ O = [] ∧ ∀ i : Int, 0 ≤ i → Q (.int i) []
def spTake : ASp := fun ds O Q _ => ∃ p m kd n, ds = [.ref p, .int n] ∧ O = [(p, m)] ∧ BoxM kd m ∧ 0 < n ∧ n < 1000 ∧ ∀ i m', 0 ≤ i → i < n → BoxM kd m' → Q (.int i) [(p, m')]
def spWrong : ASp := fun ds O Q _ => ∃ p m kd x ys, ds = [.ref p, x, .lst ys] ∧ O = [(p, m)] ∧ BoxM kd m ∧ ys ≠ [] ∧ ys.length < 100 ∧ ∀ d m', (d = x ∨ d ∈ ys) → BoxM kd m' → Q d [(p, m')]
def spBox : ASp := fun ds O Q _ => ∃ xs n, ds = [.arg xs, .int n] ∧ O = [] ∧ (∀ d ∈ xs, ∃ i, d = .int i) ∧ xs.length ≤ 63 ∧ ∀ p m, BoxM (.tup [.str "num"]) m → Q (.ref p) [(p, m)]
section
variable {P : Program} {w : World} {K : PySem.W.Frag} {mg : Str → Option Value} {base : Heap} {f : Addr} {fd : FuncData} {k : Nat}
theorem okMixed (Fn : Fun K "_law_mixed" "_law_mixed" sMixed f fd) : FnOk P w K mg base (L2.CX P w) (k + 1) f fd ["_law_cell", "_law_k"] (lift K spMixed) := by
  refine gate ?_
  simp (disch := with_unfolding_all (
      refine fnG (Ns := ["_law_cell", "_law_k", "_law_number"]) Fn rfl rfl ⟨rfl, rfl, rfl, by decide +kernel, rfl, by decide +kernel, by decide +kernel⟩ (fun ds O QA EA h => ?_) (by decide) (fun cdv A outer s H E hr T ds O QA EA F h G => ?_)
      · obtain ⟨a, b, e, _⟩ := h
        rw [e]; rfl
      obtain ⟨a, b, e, eO, q⟩ := h
      subst e eO
      walk_at "r"
      walk_at "ks"
      exact q _ (Int.emod_nonneg _ (by decide))
    )) only [↓gate_rule]
theorem okTake (Fn : Fun K "_law_take" "_law_take" sTake f fd) (g1 : FnA P w K mg base k "_law_mixed" spMixed) : FnOk P w K mg base (L2.CX P w) (k + 1) f fd ["_law_box_here", "_law_many"] (lift K spTake) := by
  refine gate ?_
  simp (disch := with_unfolding_all (
      refine fnG (Ns := ["_law_box_here", "_law_many", "_law_found"]) Fn rfl rfl ⟨rfl, rfl, rfl, by decide +kernel, rfl, by decide +kernel, by decide +kernel⟩ (fun ds O QA EA h => ?_) (by decide) (fun cdv A outer s H E hr T ds O QA EA F h G => ?_)
      · obtain ⟨p, m, kd, n, e, _⟩ := h
        rw [e]; rfl
      obtain ⟨p, m, kd, n, e, eO, ⟨a, b, c, d, em, hd⟩, hn, hn2, q⟩ := h
      subst e eO em
      walk_at "r"
      walk_at "ks"
      refine ite_d (fun h1 => ?_) (fun h1 => ?_)
      · walk_at "ks"
        refine ite_d (fun h2 => ?_) (fun h2 => ?_)
        · walk_at "ks"
          exact q _ _ (Int.emod_nonneg _ (by omega)) (Int.emod_lt_of_pos _ hn) ⟨_, _, _, _, rfl, hd⟩
        · walk_at "ks"
          walk_at "ks"
          refine calls_0 ⟨_, _, rfl, rfl, fun i hi => ⟨_, pk_nil, ?_⟩⟩
          walk_at "ks"
          exact q _ _ (Int.emod_nonneg _ (by omega)) (Int.emod_lt_of_pos _ hn) ⟨_, _, _, _, rfl, hd⟩
      · walk_at "ks"
        walk_at "ks"
        refine calls_0 ⟨_, _, rfl, rfl, fun i hi => ⟨_, pk_nil, ?_⟩⟩
        walk_at "ks"
        exact q _ _ (Int.emod_nonneg _ (by omega)) (Int.emod_lt_of_pos _ hn) ⟨_, _, _, _, rfl, hd⟩
    )) only [↓gate_rule]
theorem okWrong (B : Lib mg) (Fn : Fun K "_law_wrong" "_law_wrong" sWrong f fd) (g1 : FnA P w K mg base k "_law_take" spTake) : FnOk P w K mg base (L2.CX P w) (k + 1) f fd ["_law_box_here", "_law_thing", "_law_others"] (lift K spWrong) := by
  refine gate ?_
  simp (disch := with_unfolding_all (
      refine fnG (Ns := ["_law_box_here", "_law_thing", "_law_others"]) Fn rfl rfl ⟨rfl, rfl, rfl, by decide +kernel, rfl, by decide +kernel, by decide +kernel⟩ (fun ds O QA EA h => ?_) (by decide) (fun cdv A outer s H E hr T ds O QA EA F h G => ?_)
      · obtain ⟨p, m, kd, x, ys, e, _⟩ := h
        rw [e]; rfl
      obtain ⟨p, m, kd, x, ys, e, eO, ⟨a, b, c, d, em, hd⟩, hy, hl, q⟩ := h
      subst e eO em
      walk_at "r"
      walk_at "ks"
      refine ite_d (fun h1 => ?_) (fun h1 => ?_)
      · walk_at "ks"
        walk_at "ks"
        refine calls_1 ⟨_, _, kd, _, rfl, rfl, ⟨_, _, _, _, rfl, hd⟩, h1, hd, fun i m' h2 h3 hm => ⟨_, pk_1, ?_⟩⟩
        walk_at "ks"
        refine ite_d (fun h4 => ?_) (fun h4 => ?_)
        · walk_at "ks"
          walk_at "ks"
          have hp : 0 < ys.length := List.length_pos_iff.mpr hy
          refine calls_1 ⟨_, _, kd, _, rfl, rfl, hm, by omega, by omega, fun i m' h2 h3 hm => ⟨_, pk_1, ?_⟩⟩
          obtain ⟨d, hd, e⟩ := atI_mem h2 h3
          exact ixD_lst e (q d _ (.inr hd) hm)
        · walk_at "ks"
          exact q _ _ (.inl rfl) hm
      · walk_at "ks"
        exact q _ _ (.inl rfl) ⟨_, _, _, _, rfl, hd⟩
    )) only [↓gate_rule]
theorem okBox (Fn : Fun K "_law_box" "_law_box" sBox f fd) : FnOk P w K mg base (L2.CX P w) (k + 1) f fd ["_law_script", "_law_k"] (lift K spBox) := by
  refine gate ?_
  simp (disch := with_unfolding_all (
      refine fnG (Ns := ["_law_script", "_law_k", "_law_cell"]) Fn rfl rfl ⟨rfl, rfl, rfl, by decide +kernel, rfl, by decide +kernel, by decide +kernel⟩ (fun ds O QA EA h => ?_) (by decide) (fun cdv A outer s H E hr T ds O QA EA F h G => ?_)
      · obtain ⟨xs, n, e, _⟩ := h
        rw [e]; rfl
      obtain ⟨xs, n, e, eO, hx, hl, q⟩ := h
      subst e eO
      walk_at "r"
      walk_at "l"
      refine .lst ?_ ?_
      · show (cutG xs (some n) (some (n + 1))).length + 1 ≤ 100000
        unfold cutG
        rw [List.length_take, List.length_drop]
        omega
      have hc : ∃ i, atI (cutG xs (some n) (some (n + 1)) ++ [D.int 0]) 0 = some (.int i) := by
        have all : ∀ d ∈ cutG xs (some n) (some (n + 1)) ++ [D.int 0], ∃ i, d = .int i := fun d hd => by
          rcases List.mem_append.mp hd with h | h
          · exact hx d (List.mem_of_mem_drop (List.mem_of_mem_take h))
          · exact ⟨0, by simpa using h⟩
        obtain ⟨d, hd, e⟩ := atI_mem (ds := cutG xs (some n) (some (n + 1)) ++ [D.int 0]) (Int.le_refl 0) (by rw [List.length_append]; show (0 : Int) < ((_ + 1 : Nat) : Int); omega)
        obtain ⟨i, ei⟩ := all d hd
        exact ⟨i, by rw [e, ei]⟩
      obtain ⟨i, hi⟩ := hc
      walk_at "ks"
      refine ixD_lst hi ?_
      walk_at "ks"
      refine ae_lstm ?_
      walk_at "ks"
      exact fun p => q p _ ⟨_, _, _, _, rfl, by decide⟩
    )) only [↓gate_rule]
end
/-! P3: a leaf, drawn. -/
open PySem.PyData (strOk)
/-- kinds -/
inductive Kd where
  | num | truth | row (n : Nat) | named (c : Str)
def Kd.enc : Kd → D
  | .num => .tup [.str "num"]
  | .truth => .tup [.str "truth"]
  | .row n => .tup [.str "row", .int (n : Nat)]
  | .named c => .tup [.str "named", .str c]
inductive K5 : Kd → Prop
  | num : K5 .num
  | truth : K5 .truth
  | row : K5 (.row 2)
  | pair : K5 (.named "pair")
  | twin : K5 (.named "twin")
def allS : List D → Bool
  | [] => true
  | .str s :: r => strOk s && allS r
  | _ => false
theorem allS_mem : ∀ {ds : List D} {d : D}, allS ds = true → d ∈ ds → ∃ s, d = .str s ∧ strOk s = true
  | .str s :: r, d, h, hd => by
    simp only [allS, Bool.and_eq_true] at h
    rcases List.mem_cons.mp hd with e | hd
    · exact ⟨s, e, h.1⟩
    · exact allS_mem h.2 hd
  | .non :: _, _, h, _ => by simp [allS] at h
  | .bl _ :: _, _, h, _ => by simp [allS] at h
  | .int _ :: _, _, h, _ => by simp [allS] at h
  | .tup _ :: _, _, h, _ => by simp [allS] at h
  | .lst _ :: _, _, h, _ => by simp [allS] at h
  | .dic _ :: _, _, h, _ => by simp [allS] at h
  | .dct _ :: _, _, h, _ => by simp [allS] at h
  | .ins _ _ :: _, _, h, _ => by simp [allS] at h
  | .ref _ :: _, _, h, _ => by simp [allS] at h
  | .arg _ :: _, _, h, _ => by simp [allS] at h
abbrev sLeaf : Stmt := top 25
def exN (s : Str) : Ex := .mk (.name s) []
def spLeaf : ASp := fun ds O Q _ => ∃ p m kd kn, ds = [.ref p, Kd.enc kn] ∧ O = [(p, m)] ∧ BoxM kd m ∧ K5 kn ∧ ∀ e m', Wf 2 e → e.sz ≤ 3 → BoxM kd m' → Q (Ex.enc e) [(p, m')]
theorem five : ∀ {acc : List D}, acc.length = 5 → (∀ d ∈ acc, ∃ s, d = Ex.enc (exN s) ∧ strOk s = true) → ∃ a b c d e, strOk a = true ∧ strOk b = true ∧ strOk c = true ∧ strOk d = true ∧ strOk e = true ∧ acc = [Ex.enc (exN a), Ex.enc (exN b), Ex.enc (exN c), Ex.enc (exN d), Ex.enc (exN e)]
  | [x1, x2, x3, x4, x5], _, h => by
    obtain ⟨a, e1, o1⟩ := h x1 (by simp)
    obtain ⟨b, e2, o2⟩ := h x2 (by simp)
    obtain ⟨c, e3, o3⟩ := h x3 (by simp)
    obtain ⟨d, e4, o4⟩ := h x4 (by simp)
    obtain ⟨e, e5, o5⟩ := h x5 (by simp)
    exact ⟨a, b, c, d, e, o1, o2, o3, o4, o5, by rw [e1, e2, e3, e4, e5]⟩
def Lf (e : Ex) : Prop := Wf 2 e ∧ e.sz ≤ 3
theorem leaf_end {es : List Ex} {O : Os} {i : Int} {P : D → Prop} (h0 : 0 ≤ i) (h1 : i < 5) (hl : es.length = 5) (hw : ∀ e ∈ es, Lf e) (q : ∀ e, Wf 2 e → e.sz ≤ 3 → P e.enc) : ixD O (.lst (Ex.encs es)) (.int i) P := by
  have el : (Ex.encs es).length = 5 := by rw [encs_map, List.length_map]; exact hl
  obtain ⟨d, hd, e⟩ := atI_mem (ds := Ex.encs es) h0 (by rw [el]; exact h1)
  rw [encs_map] at hd
  obtain ⟨x, hx, ex⟩ := List.mem_map.mp hd
  subst ex
  exact ixD_lst e (q x (hw x hx).1 (hw x hx).2)
theorem mem5 {P : Ex → Prop} {a b c d e : Ex} (ha : P a) (hb : P b) (hc : P c) (hd : P d) (he : P e) : ∀ x ∈ [a, b, c, d, e], P x := fun x hx => by
  simp only [List.mem_cons, List.not_mem_nil, or_false] at hx
  rcases hx with rfl | rfl | rfl | rfl | rfl
  · exact ha
  · exact hb
  · exact hc
  · exact hd
  · exact he
theorem w1 {w : EW} {a : Ex} (h : w.ok 1) (ha : Wf 1 a) (hs : a.sz = 1) : Lf (.mk w [a]) := ⟨.mk h fun p hp => by rw [List.mem_singleton.mp hp]; exact ha, by simp only [Ex.sz, Ex.szs, hs]; decide⟩
theorem w2 {w : EW} {a b : Ex} (h : w.ok 2) (ha : Wf 1 a) (hb : Wf 1 b) (hs : a.sz + b.sz = 2) : Lf (.mk w [a, b]) := ⟨.mk h fun p hp => by
  simp only [List.mem_cons, List.not_mem_nil, or_false] at hp
  rcases hp with rfl | rfl
  · exact ha
  · exact hb, by simp only [Ex.sz, Ex.szs]; omega⟩
section
variable {P : Program} {w : World} {K : PySem.W.Frag} {mg : Str → Option Value} {base : Heap} {f : Addr} {fd : FuncData} {k : Nat}
theorem okLeaf (B : Lib mg) (Fn : Fun K "_law_leaf" "_law_leaf" sLeaf f fd) (g1 : FnA P w K mg base k "_law_take" spTake) (g2 : FnA P w K mg base k "_law_wrong" spWrong) : FnOk P w K mg base (L2.CX P w) (k + 1) f fd ["_law_box_here", "_law_kind"] (lift K spLeaf) := by
  refine gate ?_
  simp (disch := with_unfolding_all (
      refine fnG (Ns := ["_law_box_here", "_law_kind", "_law_a", "_law_b", "_law_p", "_law_q", "_law_r", "_law_some", "_law_name"]) Fn rfl rfl ⟨rfl, rfl, rfl, by decide +kernel, rfl, by decide +kernel, by decide +kernel⟩ (fun ds O QA EA h => ?_) (by decide) (fun cdv A outer s H E hr T ds O QA EA F h G => ?_)
      · obtain ⟨p, m, kd, n, e, _⟩ := h
        rw [e]; rfl
      obtain ⟨p, m, kd, n, e, eO, hm, hk, q⟩ := h
      subst e eO
      walk_at "r"
      walk_at "ks"
      refine ae_lc true [("_law_name", 8)] (G.comp true) G.calm G.nd (blkOk_by (by kernel_rfl)) (by walk_at "b") (ai_str (x := "abpqr") ?_)
      walk_at "ks"
      refine ⟨rfl, CompA.inv (fun ds acc O => ∃ m, O = [(p, m)] ∧ BoxM kd m ∧ allS ds = true ∧ (∀ d ∈ acc, ∃ s, d = Ex.enc (exN s) ∧ strOk s = true) ∧ acc.length + ds.length = 5) (fun acc O h => ?_) (fun d ds acc O h => ?_) ⟨m, rfl, hm, by decide +kernel, (fun d hd => nomatch hd), by decide +kernel⟩⟩
      · obtain ⟨m, eO, hm, _, ha, hl⟩ := h
        subst eO
        obtain ⟨a1, a2, a3, a4, a5, o1, o2, o3, o4, o5, ea⟩ := five (by simpa using hl) ha
        subst ea
        walk_at "a"
        walk_at "ks"
        with_reducible refine' ae_dispT ?un fun t => ?_
        case un => exact G.un
        walk_at "l"
        walk_at "l"
        refine calls_2 ⟨p, m, kd, 30, rfl, rfl, hm, by decide, by decide, fun i m1 _ _ hm => ⟨_, pk_2, ?_⟩⟩
        walk_at "l"
        refine ⟨[.inr "num"], _, rfl, .head, ?_⟩
        walk_at "l"
        refine ⟨_, _, [.inr "truth"], _, rfl, rfl, .head, Nat.le_of_ble_eq_true rfl, ?_⟩
        walk_at "l"
        refine ⟨_, _, [.inr "row", .inl 2], _, rfl, rfl, .head, Nat.le_of_ble_eq_true rfl, ?_⟩
        walk_at "l"
        refine ⟨_, _, [.inr "named", .inr "pair"], _, rfl, rfl, .head, Nat.le_of_ble_eq_true rfl, ?_⟩
        walk_at "l"
        refine ⟨_, _, [.inr "named", .inr "twin"], _, rfl, rfl, .head, Nat.le_of_ble_eq_true rfl, ?_⟩
        walk_at "k"
        with_reducible refine as_retL ?_
        walk_at "k"
        with_reducible refine' ae_dgetV ?un ?_ ?hs
        case un => exact G.un
        case hs => exact fun _ _ => rfl
        walk_at "l"
        have n1 : ∀ {s : Str}, strOk s = true → Lf (exN s) := fun o => ⟨.mk ⟨rfl, o⟩ (fun _ z => nomatch z), Nat.le_of_ble_eq_true rfl⟩
        have Wn : ∀ {s : Str}, strOk s = true → Wf 1 (exN s) := fun o => .mk ⟨rfl, o⟩ (fun _ z => nomatch z)
        have Wi : ∀ {i : Int}, Wf 1 (.mk (.num i) []) := .mk rfl (fun _ z => nomatch z)
        have Wt : ∀ {i : Bool}, Wf 1 (.mk (.truth i) []) := .mk rfl (fun _ z => nomatch z)
        cases hk with
        | num =>
          refine ⟨_, [.inr "num"], _, .inr ⟨_, rfl, List.mem_cons_self⟩, rfl, rfl, ?_⟩
          walk_at "l"
          refine calls_2 ⟨p, m1, kd, 5, rfl, rfl, hm, by decide, by decide, fun j m2 h1 h2 hm => ⟨_, pk_2, ?_⟩⟩
          exact leaf_end (es := [exN a1, exN "c", .mk (.num i) [], .mk (.field "x") [exN a3], .mk .index [exN a5, .mk (.num 1) []]]) h1 h2 rfl (mem5 (n1 o1) (n1 (by decide +kernel)) ⟨Wi.le (by decide), Nat.le_of_ble_eq_true rfl⟩ (w1 ⟨rfl, by decide +kernel⟩ (Wn o3) rfl) (w2 rfl (Wn o5) Wi rfl)) fun e w z => ⟨_, .cons _ (.refl _), q e _ w z hm⟩
        | truth =>
          refine ⟨_, [.inr "truth"], _, .inr ⟨_, rfl, List.mem_cons_self⟩, rfl, rfl, ?_⟩
          walk_at "l"
          refine calls_2 ⟨p, m1, kd, 5, rfl, rfl, hm, by decide, by decide, fun j m2 h1 h2 hm => ⟨_, pk_2, ?_⟩⟩
          exact leaf_end (es := [exN a2, .mk (.truth true) [], .mk (.truth false) [], .mk (.field "y") [exN a4], exN a2]) h1 h2 rfl (mem5 (n1 o2) ⟨Wt.le (by decide), Nat.le_of_ble_eq_true rfl⟩ ⟨Wt.le (by decide), Nat.le_of_ble_eq_true rfl⟩ (w1 ⟨rfl, by decide +kernel⟩ (Wn o4) rfl) (n1 o2)) fun e w z => ⟨_, .cons _ (.refl _), q e _ w z hm⟩
        | row =>
          refine ⟨_, [.inr "row", .inl 2], _, .inr ⟨_, rfl, List.mem_cons_self⟩, rfl, rfl, ?_⟩
          walk_at "l"
          refine calls_2 ⟨p, m1, kd, 5, rfl, rfl, hm, by decide, by decide, fun j m2 h1 h2 hm => ⟨_, pk_2, ?_⟩⟩
          exact leaf_end (es := [exN a5, .mk .row [.mk (.num 3) [], exN a1], exN a5, .mk (.call "g") [exN a3, exN a1], exN a5]) h1 h2 rfl (mem5 (n1 o5) (w2 (.inl rfl) Wi (Wn o1) rfl) (n1 o5) (w2 ⟨Nat.le_of_ble_eq_true rfl, by decide +kernel⟩ (Wn o3) (Wn o1) rfl) (n1 o5)) fun e w z => ⟨_, .cons _ (.refl _), q e _ w z hm⟩
        | pair =>
          refine ⟨_, [.inr "named", .inr "pair"], _, .inr ⟨_, rfl, List.mem_cons_self⟩, rfl, rfl, ?_⟩
          walk_at "l"
          refine calls_2 ⟨p, m1, kd, 5, rfl, rfl, hm, by decide, by decide, fun j m2 h1 h2 hm => ⟨_, pk_2, ?_⟩⟩
          exact leaf_end (es := [exN a3, .mk (.new "pair") [exN a1, exN a2], exN a3, exN a3, exN a3]) h1 h2 rfl (mem5 (n1 o3) (w2 ⟨Nat.le_of_ble_eq_true rfl, .inl rfl⟩ (Wn o1) (Wn o2) rfl) (n1 o3) (n1 o3) (n1 o3)) fun e w z => ⟨_, .cons _ (.refl _), q e _ w z hm⟩
        | twin =>
          refine ⟨_, [.inr "named", .inr "twin"], _, .inr ⟨_, rfl, List.mem_cons_self⟩, rfl, rfl, ?_⟩
          walk_at "l"
          refine calls_2 ⟨p, m1, kd, 5, rfl, rfl, hm, by decide, by decide, fun j m2 h1 h2 hm => ⟨_, pk_2, ?_⟩⟩
          exact leaf_end (es := [exN a4, .mk (.new "twin") [.mk (.num 2) [], exN a2], exN a4, exN a4, exN a4]) h1 h2 rfl (mem5 (n1 o4) (w2 ⟨Nat.le_of_ble_eq_true rfl, .inr rfl⟩ Wi (Wn o2) rfl) (n1 o4) (n1 o4) (n1 o4)) fun e w z => ⟨_, .cons _ (.refl _), q e _ w z hm⟩
      · obtain ⟨m, eO, hm, hs, ha, hl⟩ := h
        subst eO
        refine ⟨by omega, fun Xb N' bk => ?_⟩
        obtain ⟨⟨s0, H0, C0, cl0, fp0, xe0, eb⟩, hex, hps⟩ := bk
        subst eb
        refine ag_n G.nd (by walk_at "s") (by walk_at "p") ⟨by walk_at "sub", ?_⟩
        refine ifs_nil ?_
        walk_at "ks"
        have hps := hps rfl
        walk_at "l"
        have hd := allS_mem hs List.mem_cons_self
        have hs' : allS ds = true := by
          obtain ⟨s, e, _⟩ := hd
          subst e
          simp only [allS, Bool.and_eq_true] at hs
          exact hs.2
        refine calls_1 ⟨p, m, kd, d, _, rfl, rfl, hm, (fun z => nomatch z), by decide, fun d' m' hor hm' => ⟨_, pk_1, ?_⟩⟩
        have hd' : ∃ s, d' = .str s ∧ strOk s = true := by
          rcases hor with e | hmem
          · rw [e]; exact hd
          · exact allS_mem (by decide +kernel) hmem
        obtain ⟨s, e, os⟩ := hd'
        subst e
        walk_at "ks"
        refine ⟨m', rfl, hm', hs', fun z hz => ?_, by rw [List.length_append]; simp only [List.length_cons, List.length_nil] at hl ⊢; omega⟩
        rcases List.mem_append.mp hz with hz | hz
        · exact ha z hz
        · exact ⟨s, by simpa [exN, Ex.enc, EW.enc] using hz, os⟩
    )) only [↓gate_rule]
end
/-! P4: an expression, drawn. -/
open PySem.PyData (strOk)
abbrev sGrown : Stmt := top 26
section
variable {N : Ent} {Q : D → Os → Prop} {O : Os} {p : Addr} {m : MO} {kd : D}
theorem c_take {n : Int} (hm : BoxM kd m) (h0 : 0 < n) (h1 : n < 1000) (h : ∀ i m', 0 ≤ i → i < n → BoxM kd m' → Q (.int i) ((p, m') :: O)) : CallS N spTake [.ref p, .int n] ((p, m) :: O) Q :=
  calls_1 ⟨p, m, kd, n, rfl, rfl, hm, h0, h1, fun i m' a b c => ⟨_, pk_1, h i m' a b c⟩⟩
theorem c_wrong {x : D} {ys : List D} (hm : BoxM kd m) (h : ∀ d m', (d = x ∨ d ∈ ys) → BoxM kd m' → Q d ((p, m') :: O)) (h0 : ys ≠ [] := by intro z; cases z) (h1 : ys.length < 100 := by exact Nat.le_of_ble_eq_true rfl) : CallS N spWrong [.ref p, x, .lst ys] ((p, m) :: O) Q :=
  calls_1 ⟨p, m, kd, x, ys, rfl, rfl, hm, h0, h1, fun i m' a b => ⟨_, pk_1, h i m' a b⟩⟩
theorem c_leaf {kn : Kd} (hm : BoxM kd m) (hk : K5 kn) (h : ∀ e m', Wf 2 e → e.sz ≤ 3 → BoxM kd m' → Q (Ex.enc e) ((p, m') :: O)) : CallS N spLeaf [.ref p, kn.enc] ((p, m) :: O) Q :=
  calls_1 ⟨p, m, kd, kn, rfl, rfl, hm, hk, fun i m' a b c => ⟨_, pk_1, h i m' a b c⟩⟩
def szB : Nat → Nat
  | 0 => 3
  | n + 1 => 3 * szB n + 1
def spGrown (n : Nat) : ASp := fun ds O Q _ => ∃ p m kd kn z, ds = [.ref p, Kd.enc kn, .int z] ∧ O = [(p, m)] ∧ BoxM kd m ∧ K5 kn ∧ z = (n : Nat) ∧ ∀ e m', Wf (n + 2) e → e.sz ≤ szB n → BoxM kd m' → Q (Ex.enc e) [(p, m')]
theorem c_grown {kn : Kd} {n : Nat} {z : Int} (hz : z = (n : Nat)) (hm : BoxM kd m) (hk : K5 kn) (h : ∀ e m', Wf (n + 2) e → e.sz ≤ szB n → BoxM kd m' → Q (Ex.enc e) ((p, m') :: O)) : CallS N (spGrown n) [.ref p, kn.enc, .int z] ((p, m) :: O) Q :=
  calls_1 ⟨p, m, kd, kn, z, rfl, rfl, hm, hk, hz, fun i m' a b c => ⟨_, pk_1, h i m' a b c⟩⟩
end
theorem szB_3 : ∀ {n : Nat}, 3 ≤ szB n
  | 0 => Nat.le_refl 3
  | n + 1 => by have := @szB_3 n; show 3 ≤ 3 * szB n + 1; omega
theorem strs_mem {l : List Str} {d : D} (h : d ∈ l.map D.str) : ∃ s, d = .str s ∧ s ∈ l := by
  obtain ⟨s, hs, e⟩ := List.mem_map.mp h
  exact ⟨s, e.symm, hs⟩
theorem strs_ok {l : List Str} {s : Str} (h : s ∈ l) (ho : l.all strOk = true := by decide +kernel) : strOk s = true := List.all_eq_true.mp ho s h
theorem sub_ops {l : List Str} {s : Str} (h : s ∈ l) (ho : l.all (fun s => decide (s ∈ ops9)) = true := by decide +kernel) : s ∈ ops9 := of_decide_eq_true (List.all_eq_true.mp ho s h)
theorem strs_of {x : Str} {l : List Str} {d : D} (h : d = .str x ∨ d ∈ l.map D.str) : ∃ s, d = .str s ∧ s ∈ x :: l := by
  rcases h with e | h
  · exact ⟨x, e, List.mem_cons_self⟩
  · obtain ⟨s, e, hs⟩ := strs_mem h
    exact ⟨s, e, List.mem_cons_of_mem _ hs⟩
theorem ix_mem {O : Os} {ds : List D} {i : Int} {P : D → Prop} (h0 : 0 ≤ i) (h1 : i < (ds.length : Int)) (q : ∀ d ∈ ds, P d) : ixD O (.lst ds) (.int i) P := by
  obtain ⟨d, hd, e⟩ := atI_mem h0 h1
  exact ixD_lst e (q d hd)
def Bd (n : Nat) (e : Ex) : Prop := Wf (n + 2) e ∧ e.sz ≤ szB n
theorem b1 {n : Nat} {w : EW} {a : Ex} (h : w.ok 1) (ha : Bd n a) : Bd (n + 1) (.mk w [a]) := ⟨.mk h fun p hp => by rw [List.mem_singleton.mp hp]; exact ha.1, by
  have := ha.2
  simp only [Ex.sz, Ex.szs, szB]; omega⟩
theorem b2 {n : Nat} {w : EW} {a b : Ex} (h : w.ok 2) (ha : Bd n a) (hb : Bd n b) : Bd (n + 1) (.mk w [a, b]) := ⟨.mk h fun p hp => by
  simp only [List.mem_cons, List.not_mem_nil, or_false] at hp
  rcases hp with rfl | rfl
  · exact ha.1
  · exact hb.1, by
  have := ha.2
  have := hb.2
  simp only [Ex.sz, Ex.szs, szB]; omega⟩
theorem b3 {n : Nat} {w : EW} {a b c : Ex} (h : w.ok 3) (ha : Bd n a) (hb : Bd n b) (hc : Bd n c) : Bd (n + 1) (.mk w [a, b, c]) := ⟨.mk h fun p hp => by
  simp only [List.mem_cons, List.not_mem_nil, or_false] at hp
  rcases hp with rfl | rfl | rfl
  · exact ha.1
  · exact hb.1
  · exact hc.1, by
  have := ha.2
  have := hb.2
  have := hc.2
  simp only [Ex.sz, Ex.szs, szB]; omega⟩
theorem b0 {n : Nat} {w : EW} (h : w.ok 0) : Bd n (.mk w []) := ⟨.mk h fun p hp => (nomatch hp), by have := @szB_3 n; simp only [Ex.sz, Ex.szs]; omega⟩
theorem k5_of {kn : Kd} {d : D} (h : d = kn.enc ∨ d ∈ [Kd.enc .num, Kd.enc .truth, Kd.enc (.row 2), Kd.enc (.named "pair"), Kd.enc (.named "twin")]) (hk : K5 kn) : ∃ kn', K5 kn' ∧ d = kn'.enc := by
  rcases h with e | h
  · exact ⟨kn, hk, e⟩
  · simp only [List.mem_cons, List.not_mem_nil, or_false] at h
    rcases h with e | e | e | e | e
    · exact ⟨_, .num, e⟩
    · exact ⟨_, .truth, e⟩
    · exact ⟨_, .row, e⟩
    · exact ⟨_, .pair, e⟩
    · exact ⟨_, .twin, e⟩
section
variable {P : Program} {w : World} {K : PySem.W.Frag} {mg : Str → Option Value} {base : Heap} {f : Addr} {fd : FuncData} {k : Nat}
theorem okGrown0 (g1 : FnA P w K mg base k "_law_take" spTake) (g2 : FnA P w K mg base k "_law_wrong" spWrong) (g3 : FnA P w K mg base k "_law_leaf" spLeaf) (Fn : Fun K "_law_grown" "_law_grown" sGrown f fd) : FnOk P w K mg base (L2.CX P w) (k + 1) f fd ["_law_box_here", "_law_due_here", "_law_depth"] (lift K (spGrown 0)) := by
  refine gate ?_
  simp (disch := with_unfolding_all (
      refine fnG (Ns := ["_law_box_here", "_law_due_here", "_law_depth", "_law_num", "_law_truth", "_law_pair", "_law_kind", "_law_way", "_law_one", "_law_sign", "_law_whole", "_law_first", "_law_parts"]) Fn rfl rfl ⟨rfl, rfl, rfl, by decide +kernel, rfl, by decide +kernel, by decide +kernel⟩ (fun ds O QA EA h => ?_) (by decide) (fun cdv A outer s H E hr T ds O QA EA F h G => ?_)
      · obtain ⟨p, m, kd, n, z, e, _⟩ := h
        rw [e]; rfl
      obtain ⟨p, m, kd, n, z, e, eO, hm, hk, ez, q⟩ := h
      subst e eO ez
      walk_at "r"
      walk_at "l"
      refine c_wrong hm fun d m hd hm => ?_
      obtain ⟨n, hk, rfl⟩ := k5_of hd hk
      walk_at "l"
      refine ite_d (fun _ => ?_) (fun z => absurd rfl z)
      walk_at "l"
      exact c_leaf hm hk fun e m' a b c => q e m' a b c
    )) only [↓gate_rule]
theorem okGrown {n : Nat} (g1 : FnA P w K mg base k "_law_take" spTake) (g2 : FnA P w K mg base k "_law_wrong" spWrong) (g3 : FnA P w K mg base k "_law_leaf" spLeaf) (g4 : FnA P w K mg base k "_law_grown" (spGrown n)) (Fn : Fun K "_law_grown" "_law_grown" sGrown f fd) : FnOk P w K mg base (L2.CX P w) (k + 1) f fd ["_law_box_here", "_law_due_here", "_law_depth"] (lift K (spGrown (n + 1))) := by
  refine gate ?_
  simp (disch := with_unfolding_all (
      refine fnG (Ns := ["_law_box_here", "_law_due_here", "_law_depth", "_law_num", "_law_truth", "_law_pair", "_law_kind", "_law_way", "_law_one", "_law_sign", "_law_whole", "_law_first", "_law_parts"]) Fn rfl rfl ⟨rfl, rfl, rfl, by decide +kernel, rfl, by decide +kernel, by decide +kernel⟩ (fun ds O QA EA h => ?_) (by decide) (fun cdv A outer s H E hr T ds O QA EA F h G => ?_)
      · obtain ⟨p, m, kd, kn, z, e, _⟩ := h
        rw [e]; rfl
      obtain ⟨p, m, kd, kn, z, e, eO, hm, hk, ez, q⟩ := h
      subst e eO ez
      walk_at "r"
      walk_at "l"
      refine c_wrong hm fun d m hd hm => ?_
      obtain ⟨kn, hk, rfl⟩ := k5_of hd hk
      walk_at "l"
      refine ite_d (fun z => absurd z (by omega)) (fun _ => ?_)
      walk_at "l"
      refine c_take hm (by decide) (by decide) fun i m i0 i1 hm => ?_
      walk_at "l"
      refine ite_d (fun _ => ?_) (fun _ => ?_)
      · walk_at "l"
        refine c_leaf hm hk fun e m' a b c => q e m' (a.le (by omega)) (Nat.le_trans b ?_) c
        exact szB_3
      walk_at "l"
      refine c_take hm (by decide) (by decide) fun way m w0 w1 hm => ?_
      walk_at "l"
      refine c_grown (kn := .num) (by omega) hm .num fun one m W1 S1 hm => ?_
      walk_at "l"
      have q' : ∀ e m', Bd (n + 1) e → BoxM kd m' → QA e.enc [(p, m')] := fun e m' b c => q e m' b.1 b.2 c
      have B1 : Bd n one := ⟨W1, S1⟩
      cases hk with
      | num =>
        walk_at "l"
        refine ite_d (fun _ => ?_) (fun _ => ?_)
        · walk_at "l"
          refine c_take hm (by decide) (by decide) fun i m i0 i1 hm => ?_
          refine ix_mem i0 i1 fun d hd => ?_
          obtain ⟨s1, rfl, h1⟩ := strs_mem (l := ["+", "-", "*", "/", "mod"]) hd
          walk_at "l"
          refine c_wrong hm fun d m hd hm => ?_
          obtain ⟨s2, rfl, h2⟩ := strs_of (l := ["<", "=", "and", "or"]) hd
          have h3 : s2 ∈ ops9 := by
            rcases List.mem_cons.mp h2 with rfl | h2
            · exact sub_ops h1
            · exact sub_ops h2
          walk_at "l"
          refine c_grown (kn := .num) (by omega) hm .num fun e2 m W2 S2 hm => ?_
          walk_at "l"
          exact q' (.mk (.two s2) [one, e2]) m (b2 ⟨rfl, h3⟩ B1 ⟨W2, S2⟩) hm
        walk_at "l"
        refine ite_d (fun _ => ?_) (fun _ => ?_)
        · walk_at "l"
          refine c_wrong hm fun d m hd hm => ?_
          obtain ⟨s2, rfl, h2⟩ := strs_of (l := ["not"]) hd
          walk_at "l"
          exact q' (.mk (.one s2) [one]) m (b1 ⟨rfl, by simpa using h2⟩ B1) hm
        walk_at "l"
        rcases (show way % 2 = 0 ∨ way % 2 = 1 by omega) with e | e
        · refine ixD_lst (d := Kd.enc (.row 2)) (by rw [e]; rfl) ?_
          walk_at "l"
          refine c_grown (kn := .row 2) (by omega) hm .row fun e2 m W2 S2 hm => ?_
          walk_at "l"
          refine c_wrong hm fun d m hd hm => ?_
          walk_at "l"
          refine ixD_lst (by rw [e]; rfl) ?_
          exact q' (.mk .index [e2, one]) m (b2 rfl ⟨W2, S2⟩ B1) hm
        · refine ixD_lst (d := Kd.enc (.named "pair")) (by rw [e]; rfl) ?_
          walk_at "l"
          refine c_grown (kn := .named "pair") (by omega) hm .pair fun e2 m W2 S2 hm => ?_
          walk_at "l"
          refine c_wrong hm fun d m hd hm => ?_
          obtain ⟨s2, rfl, h2⟩ := strs_of (l := ["y", "z", "a"]) hd
          walk_at "l"
          refine ixD_lst (by rw [e]; rfl) ?_
          exact q' (.mk (.field s2) [e2]) m (b1 ⟨rfl, strs_ok h2⟩ ⟨W2, S2⟩) hm
      | truth =>
        walk_at "l"
        refine ite_d (fun _ => ?_) (fun _ => ?_)
        · walk_at "l"
          refine ix_mem (by omega) (show way % 2 < 2 by omega) fun d hd => ?_
          obtain ⟨s1, rfl, h1⟩ := strs_mem (l := ["<", "="]) hd
          walk_at "l"
          refine c_grown (kn := .num) (by omega) hm .num fun e2 m W2 S2 hm => ?_
          walk_at "l"
          have h3 : s1 ∈ ops9 := sub_ops h1
          exact q' (.mk (.two s1) [one, e2]) m (b2 ⟨rfl, h3⟩ B1 ⟨W2, S2⟩) hm
        walk_at "l"
        refine c_grown (kn := .truth) (by omega) hm .truth fun e2 m W2 S2 hm => ?_
        walk_at "l"
        refine c_grown (kn := .truth) (by omega) hm .truth fun e3 m W3 S3 hm => ?_
        walk_at "l"
        rcases (show way % 2 = 0 ∨ way % 2 = 1 by omega) with e | e
        · refine ixD_lst (by rw [e]; rfl) ?_
          exact q' (.mk (.one "not") [e2]) m (b1 ⟨rfl, .inr rfl⟩ ⟨W2, S2⟩) hm
        · refine ixD_lst (by rw [e]; rfl) ?_
          exact q' (.mk (.two "and") [e2, e3]) m (b2 ⟨rfl, by decide +kernel⟩ ⟨W2, S2⟩ ⟨W3, S3⟩) hm
      | row =>
        walk_at "l"
        refine ite_d (fun _ => ?_) (fun _ => ?_)
        · walk_at "l"
          refine c_grown (kn := .num) (by omega) hm .num fun e2 m W2 S2 hm => ?_
          walk_at "l"
          refine c_wrong hm fun d m hd hm => ?_
          simp only [List.mem_cons, List.not_mem_nil, or_false] at hd
          rcases hd with rfl | rfl | rfl
          · refine .tup (Nat.le_of_ble_eq_true rfl) ?_
            walk_at "l"
            exact q' (.mk .row [one, e2]) m (b2 (.inl rfl) B1 ⟨W2, S2⟩) hm
          · refine .tup (Nat.le_of_ble_eq_true rfl) ?_
            walk_at "l"
            exact q' (.mk .row [one, e2, one]) m (b3 (.inr rfl) B1 ⟨W2, S2⟩ B1) hm
          · refine .tup (Nat.le_of_ble_eq_true rfl) ?_
            walk_at "l"
            exact q' (.mk .row [one, e2, .mk (.truth true) []]) m (b3 (.inr rfl) B1 ⟨W2, S2⟩ (b0 rfl)) hm
        walk_at "l"
        refine c_wrong hm fun d m hd hm => ?_
        obtain ⟨s2, rfl, h2⟩ := strs_of (l := ["f", "h", "main"]) hd
        walk_at "l"
        refine c_grown (kn := .named "pair") (by omega) hm .pair fun e2 m W2 S2 hm => ?_
        walk_at "l"
        exact q' (.mk (.call s2) [e2, one]) m (b2 ⟨by decide, strs_ok h2⟩ ⟨W2, S2⟩ B1) hm
      | pair =>
        walk_at "l"
        refine c_grown (kn := .truth) (by omega) hm .truth fun e2 m W2 S2 hm => ?_
        walk_at "l"
        refine c_wrong hm fun d m hd hm => ?_
        have B2 : Bd n e2 := ⟨W2, S2⟩
        simp only [List.mem_cons, List.not_mem_nil, or_false] at hd
        rcases hd with rfl | rfl
        · refine .tup (Nat.le_of_ble_eq_true rfl) ?_
          walk_at "l"
          refine ixD_tup (ds := [.str "named", .str "pair"]) (d := .str "pair") rfl ?_
          walk_at "l"
          refine c_wrong hm fun d m hd hm => ?_
          simp only [List.mem_cons, List.not_mem_nil, or_false] at hd
          rcases hd with rfl | rfl | rfl
          · walk_at "l"
            exact q' (.mk (.new "pair") [one, e2]) m (b2 ⟨Nat.le_of_ble_eq_true rfl, .inl rfl⟩ B1 B2) hm
          · walk_at "l"
            exact q' (.mk (.new "pair") [one]) m (b1 ⟨Nat.le_of_ble_eq_true rfl, .inl rfl⟩ B1) hm
          · walk_at "l"
            exact q' (.mk (.new "pair") []) m (b0 ⟨Nat.le_of_ble_eq_true rfl, .inl rfl⟩) hm
        · refine .tup (Nat.le_of_ble_eq_true rfl) ?_
          walk_at "l"
          refine ixD_tup (ds := [.str "named", .str "pair"]) (d := .str "pair") rfl ?_
          walk_at "l"
          refine c_wrong hm fun d m hd hm => ?_
          simp only [List.mem_cons, List.not_mem_nil, or_false] at hd
          rcases hd with rfl | rfl | rfl
          · walk_at "l"
            exact q' (.mk (.new "pair") [one, e2, one]) m (b3 ⟨Nat.le_of_ble_eq_true rfl, .inl rfl⟩ B1 B2 B1) hm
          · walk_at "l"
            exact q' (.mk (.new "pair") [one]) m (b1 ⟨Nat.le_of_ble_eq_true rfl, .inl rfl⟩ B1) hm
          · walk_at "l"
            exact q' (.mk (.new "pair") []) m (b0 ⟨Nat.le_of_ble_eq_true rfl, .inl rfl⟩) hm
      | twin =>
        walk_at "l"
        refine c_grown (kn := .truth) (by omega) hm .truth fun e2 m W2 S2 hm => ?_
        walk_at "l"
        refine c_wrong hm fun d m hd hm => ?_
        have B2 : Bd n e2 := ⟨W2, S2⟩
        simp only [List.mem_cons, List.not_mem_nil, or_false] at hd
        rcases hd with rfl | rfl
        · refine .tup (Nat.le_of_ble_eq_true rfl) ?_
          walk_at "l"
          refine ixD_tup (ds := [.str "named", .str "twin"]) (d := .str "twin") rfl ?_
          walk_at "l"
          refine c_wrong hm fun d m hd hm => ?_
          simp only [List.mem_cons, List.not_mem_nil, or_false] at hd
          rcases hd with rfl | rfl | rfl
          · walk_at "l"
            exact q' (.mk (.new "twin") [one, e2]) m (b2 ⟨Nat.le_of_ble_eq_true rfl, .inr rfl⟩ B1 B2) hm
          · walk_at "l"
            exact q' (.mk (.new "twin") [one]) m (b1 ⟨Nat.le_of_ble_eq_true rfl, .inr rfl⟩ B1) hm
          · walk_at "l"
            exact q' (.mk (.new "twin") []) m (b0 ⟨Nat.le_of_ble_eq_true rfl, .inr rfl⟩) hm
        · refine .tup (Nat.le_of_ble_eq_true rfl) ?_
          walk_at "l"
          refine ixD_tup (ds := [.str "named", .str "twin"]) (d := .str "twin") rfl ?_
          walk_at "l"
          refine c_wrong hm fun d m hd hm => ?_
          simp only [List.mem_cons, List.not_mem_nil, or_false] at hd
          rcases hd with rfl | rfl | rfl
          · walk_at "l"
            exact q' (.mk (.new "twin") [one, e2, one]) m (b3 ⟨Nat.le_of_ble_eq_true rfl, .inr rfl⟩ B1 B2 B1) hm
          · walk_at "l"
            exact q' (.mk (.new "twin") [one]) m (b1 ⟨Nat.le_of_ble_eq_true rfl, .inr rfl⟩ B1) hm
          · walk_at "l"
            exact q' (.mk (.new "twin") []) m (b0 ⟨Nat.le_of_ble_eq_true rfl, .inr rfl⟩) hm
    )) only [↓gate_rule]
end
/-! P5: a row, drawn, and rows. -/
open PySem.PyData (strOk)
abbrev sOne : Stmt := top 27
abbrev sSome : Stmt := top 28
def szR : Nat → Nat
  | 0 => 32
  | n + 1 => 6 * szR n + 1
theorem szR_32 : ∀ {n : Nat}, 32 ≤ szR n
  | 0 => Nat.le_refl 32
  | n + 1 => by have := @szR_32 n; show 32 ≤ 6 * szR n + 1; omega
def GdR (n : Nat) (r : Rw) : Prop := WfR (n + 5) r ∧ r.sz ≤ szR n
def GdS (n : Nat) (rs : Rws) : Prop := WfS (n + 5) rs ∧ Rws.sz rs ≤ 2 * szR n
def spGr : ASp := fun ds O Q E => spGrown 1 ds O Q E ∨ spGrown 2 ds O Q E
def spRow (n : Nat) : ASp := fun ds O Q _ => ∃ p m kn z, ds = [.ref p, .int z] ∧ O = [(p, m)] ∧ BoxM (Kd.enc kn) m ∧ K5 kn ∧ z = (n : Nat) ∧ ∀ r m', GdR n r → BoxM (Kd.enc kn) m' → Q r.enc [(p, m')]
def spRows (n : Nat) : ASp := fun ds O Q _ => ∃ p m kn z, ds = [.ref p, .int z] ∧ O = [(p, m)] ∧ BoxM (Kd.enc kn) m ∧ K5 kn ∧ z = (n : Nat) ∧ ∀ rs m', GdS n rs → BoxM (Kd.enc kn) m' → Q (.tup (Rws.encs rs)) [(p, m')]
section
variable {N : Ent} {Q : D → Os → Prop} {O : Os} {p : Addr} {m : MO} {kd : D}
theorem c_gr1 {kn : Kd} (hm : BoxM kd m) (hk : K5 kn) (h : ∀ e m', Wf 3 e → e.sz ≤ 10 → BoxM kd m' → Q (Ex.enc e) ((p, m') :: O)) : CallS N spGr [.ref p, kn.enc, .int 1] ((p, m) :: O) Q :=
  calls_1 (.inl ⟨p, m, kd, kn, 1, rfl, rfl, hm, hk, rfl, fun i m' a b c => ⟨_, pk_1, h i m' a b c⟩⟩)
theorem c_gr2 {kn : Kd} (hm : BoxM kd m) (hk : K5 kn) (h : ∀ e m', Wf 4 e → e.sz ≤ 31 → BoxM kd m' → Q (Ex.enc e) ((p, m') :: O)) : CallS N spGr [.ref p, kn.enc, .int 2] ((p, m) :: O) Q :=
  calls_1 (.inr ⟨p, m, kd, kn, 2, rfl, rfl, hm, hk, rfl, fun i m' a b c => ⟨_, pk_1, h i m' a b c⟩⟩)
theorem c_rows {kn : Kd} {n : Nat} {z : Int} (hz : z = (n : Nat)) (hm : BoxM kn.enc m) (hk : K5 kn) (h : ∀ rs m', GdS n rs → BoxM kn.enc m' → Q (.tup (Rws.encs rs)) ((p, m') :: O)) : CallS N (spRows n) [.ref p, .int z] ((p, m) :: O) Q :=
  calls_1 ⟨p, m, kn, z, rfl, rfl, hm, hk, hz, fun i m' a b => ⟨_, pk_1, h i m' a b⟩⟩
theorem c_row {kn : Kd} {n : Nat} {z : Int} (hz : z = (n : Nat)) (hm : BoxM kn.enc m) (hk : K5 kn) (h : ∀ rs m', GdR n rs → BoxM kn.enc m' → Q rs.enc ((p, m') :: O)) : CallS N (spRow n) [.ref p, .int z] ((p, m) :: O) Q :=
  calls_1 ⟨p, m, kn, z, rfl, rfl, hm, hk, hz, fun i m' a b => ⟨_, pk_1, h i m' a b⟩⟩
end
theorem r1 {n k : Nat} {w : RW} {e : Ex} (h : w.ok 1 0) (he : Wf k e) (hk : k ≤ 4) (hs : e.sz ≤ 31) : GdR n (.mk w [e] .nil) := ⟨.mk h (fun p hp => by rw [List.mem_singleton.mp hp]; exact he.le (by omega)) .nil, by
  have := @szR_32 n
  simp only [Rw.sz, Ex.szs, Bds.sz]; omega⟩
theorem r2 {n : Nat} {w : RW} {e e' : Ex} (h : w.ok 2 0) (he : Wf 3 e) (hs : e.sz ≤ 10) (he' : Wf 3 e') (hs' : e'.sz ≤ 10) : GdR n (.mk w [e, e'] .nil) := ⟨.mk h (fun p hp => by
    simp only [List.mem_cons, List.not_mem_nil, or_false] at hp
    rcases hp with rfl | rfl
    · exact he.le (by omega)
    · exact he'.le (by omega)) .nil, by
  have := @szR_32 n
  simp only [Rw.sz, Ex.szs, Bds.sz]; omega⟩
theorem rb0 {n : Nat} {w : RW} (h : w.ok 0 0) : GdR n (.mk w [] .nil) := ⟨.mk h (fun p hp => nomatch hp) .nil, by
  have := @szR_32 n
  simp only [Rw.sz, Ex.szs, Bds.sz]; omega⟩
theorem rb {n : Nat} {w : RW} {es : List Ex} {bs : Bds} (h : w.ok es.length bs.len) (he : ∀ e ∈ es, Wf 3 e) (hs : Ex.szs es ≤ 10) (hb : WfB (n + 5) bs) (hz : Bds.sz bs + Ex.szs es ≤ 6 * szR n) : GdR (n + 1) (.mk w es bs) := ⟨.mk h (fun p hp => (he p hp).le (by omega)) hb, by
  simp only [Rw.sz, szR]; omega⟩
theorem k3_of {d : D} (h : d ∈ [Kd.enc .num, Kd.enc .truth, Kd.enc (.row 2)]) : ∃ kn, d = Kd.enc kn ∧ K5 kn := by
  simp only [List.mem_cons, List.not_mem_nil, or_false] at h
  rcases h with e | e | e
  · exact ⟨_, e, .num⟩
  · exact ⟨_, e, .truth⟩
  · exact ⟨_, e, .row⟩
theorem k2_of {d : D} (h : d ∈ [Kd.enc .num, Kd.enc .truth]) : ∃ kn, d = Kd.enc kn ∧ K5 kn := by
  simp only [List.mem_cons, List.not_mem_nil, or_false] at h
  rcases h with e | e
  · exact ⟨_, e, .num⟩
  · exact ⟨_, e, .truth⟩
theorem ld_of {s : Str} (h : s ∈ (["log", "do"] : List Str)) : s = "log" ∨ s = "do" := by
  simpa only [List.mem_cons, List.not_mem_nil, or_false] using h
theorem three : ∀ {acc : List D}, acc.length = 3 → (∀ d ∈ acc, ∃ c, d = .str ⟨#[c]⟩ ∧ c < 0x110000) → ∃ a b c, a < 0x110000 ∧ b < 0x110000 ∧ c < 0x110000 ∧ acc = [.str ⟨#[a]⟩, .str ⟨#[b]⟩, .str ⟨#[c]⟩]
  | [x1, x2, x3], _, h => by
    obtain ⟨a, e1, o1⟩ := h x1 (by simp)
    obtain ⟨b, e2, o2⟩ := h x2 (by simp)
    obtain ⟨c, e3, o3⟩ := h x3 (by simp)
    exact ⟨a, b, c, o1, o2, o3, by rw [e1, e2, e3]⟩
theorem letters_ok {c : Nat} (h : c ∈ ("abcdefghijklmnopqrstuvwxyz" : Str).cps.toList) : c < 0x110000 := by
  have z : strOk "abcdefghijklmnopqrstuvwxyz" = true := by decide +kernel
  exact of_decide_eq_true (List.all_eq_true.mp (by rw [Array.all_toList]; exact z) c h)
theorem k5_row {d : D} (h : d ∈ [D.tup [.str "c", Kd.enc .num], .tup [.str "a", Kd.enc .num], .tup [.str "b", Kd.enc .truth], .tup [.str "r", Kd.enc (.row 2)], .tup [.str "p", Kd.enc (.named "pair")]]) : ∃ s kn, d = .tup [.str s, Kd.enc kn] ∧ strOk s = true ∧ K5 kn := by
  simp only [List.mem_cons, List.not_mem_nil, or_false] at h
  rcases h with e | e | e | e | e
  · exact ⟨_, _, e, by decide +kernel, .num⟩
  · exact ⟨_, _, e, by decide +kernel, .num⟩
  · exact ⟨_, _, e, by decide +kernel, .truth⟩
  · exact ⟨_, _, e, by decide +kernel, .row⟩
  · exact ⟨_, _, e, by decide +kernel, .pair⟩
theorem strs_okx {x : Str} {l : List Str} {d : D} (h : d = .str x ∨ d ∈ l.map D.str) (hx : strOk x = true) (ho : l.all strOk = true := by decide +kernel) : ∃ s, d = .str s ∧ strOk s = true := by
  rcases h with e | h
  · exact ⟨x, e, hx⟩
  · obtain ⟨s, e, hs⟩ := strs_mem h
    exact ⟨s, e, List.all_eq_true.mp ho s hs⟩
section
variable {P : Program} {w : World} {K : PySem.W.Frag} {mg : Str → Option Value} {base : Heap} {f : Addr} {fd : FuncData} {k : Nat}
theorem okRow0 (g1 : FnA P w K mg base k "_law_take" spTake) (g2 : FnA P w K mg base k "_law_wrong" spWrong) (g4 : FnA P w K mg base k "_law_grown" spGr) (Fn : Fun K "_law_one_row" "_law_one_row" sOne f fd) : FnOk P w K mg base (L2.CX P w) (k + 1) f fd ["_law_box_here", "_law_depth"] (lift K (spRow 0)) := by
  refine gate ?_
  simp (disch := with_unfolding_all (
      refine fnG (Ns := ["_law_box_here", "_law_depth", "_law_num", "_law_truth", "_law_way", "_law_name", "_law_kind", "_law_letters", "_law_catches", "_law_step"]) Fn rfl rfl ⟨rfl, rfl, rfl, by decide +kernel, rfl, by decide +kernel, by decide +kernel⟩ (fun ds O QA EA h => ?_) (by decide) (fun cdv A outer s H E hr T ds O QA EA F h G => ?_)
      · obtain ⟨p, m, kn, z, e, _⟩ := h
        rw [e]; rfl
      obtain ⟨p, m, kn, z, e, eO, hm, hk, ez, q⟩ := h
      subst e eO ez
      walk_at "r"
      walk_at "l"
      refine c_take hm (by decide) (by decide) fun way m w0 w1 hm => ?_
      walk_at "l"
      refine ix_mem (by omega) (show way % 5 < 5 by omega) fun d hd => ?_
      obtain ⟨nm, kx, rfl, hnm, hkx⟩ := k5_row hd
      walk_at "l"
      refine c_wrong hm fun d m hd hm => ?_
      obtain ⟨nm, rfl, hnm⟩ := strs_okx (l := ["a", "b", "z", "q", "p", "u"]) hd hnm
      walk_at "l"
      refine ite_d (fun _ => ?_) (fun _ => ?_)
      · walk_at "l"
        refine c_gr2 hm hkx fun e m W1 S1 hm => ?_
        walk_at "l"
        exact q (.mk (.set nm) [e] .nil) m (r1 ⟨rfl, rfl, hnm⟩ W1 (by decide) S1) hm
      walk_at "l"
      refine ite_d (fun _ => ?_) (fun _ => ?_)
      · walk_at "l"
        refine ae_join ?_ rfl rfl rfl
        walk_at "l"
        refine ⟨⟨_, rfl⟩, ?_⟩
        refine ae_lc true [("_law_step", 9)] (G.comp true) G.calm G.nd (blkOk_by (by kernel_rfl)) (by walk_at "b") (ai_lst ?_)
        walk_at "l"
        refine ⟨_, rfl, CompA.inv (fun ds acc O => O = [(p, m)] ∧ (∀ d ∈ ds, ∃ i : Int, d = .int i ∧ 0 < i ∧ i < 1073741824) ∧ (∀ d ∈ acc, ∃ c, d = .str ⟨#[c]⟩ ∧ c < 0x110000) ∧ acc.length + ds.length = 3) (fun acc O h => ?_) (fun d ds acc O h => ?_) ⟨rfl, ?_, (fun d hd => nomatch hd), rfl⟩⟩
        · obtain ⟨eO, _, ha, hl⟩ := h
          subst eO
          obtain ⟨c1, c2, c3, l1, l2, l3, ea⟩ := three (by simpa using hl) ha
          subst ea
          refine ⟨_, _, [⟨#[c1]⟩, ⟨#[c2]⟩, ⟨#[c3]⟩], rfl, rfl, rfl, Nat.le_of_ble_eq_true rfl, ?_⟩
          refine .str (by rw [join3]; exact Nat.le_of_ble_eq_true rfl) ?_
          have hnm := join3_ok c1 c2 c3 l1 l2 l3
          walk_at "l"
          refine c_wrong hm fun d m hd hm => ?_
          obtain ⟨nm, rfl, hnm⟩ := strs_okx (l := ["a", "c", "q", "uaaa"]) hd hnm
          walk_at "l"
          refine c_take hm (by decide) (by decide) fun i m i0 i1 hm => ?_
          refine ix_mem i0 i1 fun d hd => ?_
          obtain ⟨kx, rfl, hkx⟩ := k3_of hd
          walk_at "l"
          refine c_gr2 hm hkx fun e m W1 S1 hm => ?_
          walk_at "l"
          exact q (.mk (.let_ nm) [e] .nil) m (r1 ⟨rfl, rfl, hnm⟩ W1 (by decide) S1) hm
        · obtain ⟨eO, hd, ha, hl⟩ := h
          subst eO
          refine ⟨by omega, fun Xb N' bk => ?_⟩
          obtain ⟨⟨s0, H0, C0, cl0, fp0, xe0, eb⟩, hex, hps⟩ := bk
          subst eb
          refine ag_n G.nd (by walk_at "s") (by walk_at "p") ⟨by walk_at "sub", ?_⟩
          refine ifs_nil ?_
          obtain ⟨i, rfl, hi0, hi1⟩ := hd _ List.mem_cons_self
          obtain ⟨a, b, c, d, em, hdd⟩ := hm
          subst em
          refine ite_t ?_
          refine ae_ixS ?_
          walk_at "l"
          refine ixs_mem (x := "abcdefghijklmnopqrstuvwxyz") (Int.emod_nonneg _ (by decide)) (show c / i % 26 < 26 from Int.emod_lt_of_pos _ (by decide)) (Nat.le_of_ble_eq_true rfl) fun ch hch => ?_
          refine ⟨rfl, fun d hd' => hd d (List.mem_cons_of_mem _ hd'), fun z hz => ?_, by rw [List.length_append]; simp only [List.length_cons, List.length_nil] at hl ⊢; omega⟩
          rcases List.mem_append.mp hz with hz | hz
          · exact ha z hz
          · exact ⟨ch, by simpa using hz, letters_ok hch⟩
        · intro d hd
          simp only [List.mem_cons, List.not_mem_nil, or_false] at hd
          rcases hd with rfl | rfl | rfl <;> exact ⟨_, rfl, by decide, by decide⟩
      walk_at "l"
      refine ite_d (fun _ => ?_) (fun _ => ?_)
      · walk_at "l"
        refine c_wrong hm fun d m hd hm => ?_
        obtain ⟨nm, rfl, hnm⟩ := strs_okx (l := ["a", "p", "z"]) hd (by decide +kernel)
        walk_at "l"
        refine c_gr1 (kn := .num) hm .num fun e m W1 S1 hm => ?_
        walk_at "l"
        refine c_gr1 (kn := .num) hm .num fun e2 m W2 S2 hm => ?_
        walk_at "l"
        exact q (.mk (.setat nm) [e, e2] .nil) m (r2 ⟨rfl, rfl, hnm⟩ W1 S1 W2 S2) hm
      walk_at "l"
      refine ite_d (fun _ => ?_) (fun _ => ?_)
      · walk_at "l"
        refine c_take hm (by decide) (by decide) fun i m i0 i1 hm => ?_
        refine ix_mem i0 i1 fun d hd => ?_
        obtain ⟨n0, rfl, hn0⟩ := strs_mem (l := ["p", "q"]) hd
        walk_at "l"
        refine c_wrong hm fun d m hd hm => ?_
        obtain ⟨nm, rfl, hnm⟩ := strs_okx (l := ["a", "r", "z"]) hd (strs_ok hn0)
        walk_at "l"
        refine c_wrong hm fun d m hd hm => ?_
        obtain ⟨nf, rfl, hnf⟩ := strs_okx (l := ["x", "z", "q"]) hd (by decide +kernel)
        walk_at "l"
        refine c_gr1 (kn := .truth) hm .truth fun e m W1 S1 hm => ?_
        walk_at "l"
        exact q (.mk (.setf nm nf) [e] .nil) m (r1 ⟨rfl, rfl, hnm, hnf⟩ W1 (by decide) (by omega)) hm
      walk_at "l"
      refine ite_d (fun _ => ?_) (fun _ => ?_)
      · have hm0 := hm
        obtain ⟨a, b, c, d, em, hdd⟩ := hm
        subst em
        walk_at "l"
        refine c_gr2 hm0 hk fun e m W1 S1 hm => ?_
        walk_at "l"
        refine c_take hm (by decide) (by decide) fun i m i0 i1 hm => ?_
        rcases (show i = 0 ∨ i = 1 by omega) with rfl | rfl
        · refine ixD_lst rfl ?_
          exact q (.mk .ret [e] .nil) m (r1 ⟨rfl, rfl⟩ W1 (by decide) S1) hm
        · refine ixD_lst rfl ?_
          exact q (.mk (.raise "low") [] .nil) m (rb0 ⟨rfl, rfl, by decide +kernel⟩) hm
      walk_at "l"
      refine ite_d (fun _ => ?_) (fun _ => ?_)
      · walk_at "l"
        refine c_take hm (by decide) (by decide) fun i m i0 i1 hm => ?_
        refine ix_mem i0 i1 fun d hd => ?_
        obtain ⟨n0, rfl, hn0⟩ := strs_mem (l := ["log", "do"]) hd
        walk_at "l"
        refine c_take hm (by decide) (by decide) fun i m i0 i1 hm => ?_
        refine ix_mem i0 i1 fun d hd => ?_
        obtain ⟨kx, rfl, hkx⟩ := k2_of hd
        walk_at "l"
        refine c_gr2 hm hkx fun e m W1 S1 hm => ?_
        walk_at "l"
        rcases ld_of hn0 with rfl | rfl
        · exact q (.mk .log [e] .nil) m (r1 ⟨rfl, rfl⟩ W1 (by decide) S1) hm
        · exact q (.mk .do_ [e] .nil) m (r1 ⟨rfl, rfl⟩ W1 (by decide) S1) hm
      walk_at "l"
      refine ite_d (fun _ => ?_) (fun z => absurd rfl z)
      · walk_at "l"
        refine c_take hm (by decide) (by decide) fun i m i0 i1 hm => ?_
        refine ix_mem i0 i1 fun d hd => ?_
        obtain ⟨n0, rfl, hn0⟩ := strs_mem (l := ["log", "do"]) hd
        walk_at "l"
        refine c_take hm (by decide) (by decide) fun i m i0 i1 hm => ?_
        refine ix_mem i0 i1 fun d hd => ?_
        obtain ⟨kx, rfl, hkx⟩ := k2_of hd
        walk_at "l"
        refine c_gr2 hm hkx fun e m W1 S1 hm => ?_
        walk_at "l"
        rcases ld_of hn0 with rfl | rfl
        · exact q (.mk .log [e] .nil) m (r1 ⟨rfl, rfl⟩ W1 (by decide) S1) hm
        · exact q (.mk .do_ [e] .nil) m (r1 ⟨rfl, rfl⟩ W1 (by decide) S1) hm
    )) only [↓gate_rule]
theorem okRow {n : Nat} (g1 : FnA P w K mg base k "_law_take" spTake) (g2 : FnA P w K mg base k "_law_wrong" spWrong) (g4 : FnA P w K mg base k "_law_grown" spGr) (g5 : FnA P w K mg base k "_law_some_rows" (spRows n)) (Fn : Fun K "_law_one_row" "_law_one_row" sOne f fd) : FnOk P w K mg base (L2.CX P w) (k + 1) f fd ["_law_box_here", "_law_depth"] (lift K (spRow (n + 1))) := by
  refine gate ?_
  simp (disch := with_unfolding_all (
      refine fnG (Ns := ["_law_box_here", "_law_depth", "_law_num", "_law_truth", "_law_way", "_law_name", "_law_kind", "_law_letters", "_law_catches", "_law_step"]) Fn rfl rfl ⟨rfl, rfl, rfl, by decide +kernel, rfl, by decide +kernel, by decide +kernel⟩ (fun ds O QA EA h => ?_) (by decide) (fun cdv A outer s H E hr T ds O QA EA F h G => ?_)
      · obtain ⟨p, m, kn, z, e, _⟩ := h
        rw [e]; rfl
      obtain ⟨p, m, kn, z, e, eO, hm, hk, ez, q⟩ := h
      subst e eO ez
      walk_at "r"
      walk_at "l"
      refine c_take hm (by decide) (by decide) fun way m w0 w1 hm => ?_
      walk_at "l"
      refine ix_mem (by omega) (show way % 5 < 5 by omega) fun d hd => ?_
      obtain ⟨nm, kx, rfl, hnm, hkx⟩ := k5_row hd
      walk_at "l"
      refine c_wrong hm fun d m hd hm => ?_
      obtain ⟨nm, rfl, hnm⟩ := strs_okx (l := ["a", "b", "z", "q", "p", "u"]) hd hnm
      walk_at "l"
      refine ite_d (fun _ => ?_) (fun _ => ?_)
      · walk_at "l"
        refine c_gr2 hm hkx fun e m W1 S1 hm => ?_
        walk_at "l"
        exact q (.mk (.set nm) [e] .nil) m (r1 ⟨rfl, rfl, hnm⟩ W1 (by decide) S1) hm
      walk_at "l"
      refine ite_d (fun _ => ?_) (fun _ => ?_)
      · walk_at "l"
        refine ae_join ?_ rfl rfl rfl
        walk_at "l"
        refine ⟨⟨_, rfl⟩, ?_⟩
        refine ae_lc true [("_law_step", 9)] (G.comp true) G.calm G.nd (blkOk_by (by kernel_rfl)) (by walk_at "b") (ai_lst ?_)
        walk_at "l"
        refine ⟨_, rfl, CompA.inv (fun ds acc O => O = [(p, m)] ∧ (∀ d ∈ ds, ∃ i : Int, d = .int i ∧ 0 < i ∧ i < 1073741824) ∧ (∀ d ∈ acc, ∃ c, d = .str ⟨#[c]⟩ ∧ c < 0x110000) ∧ acc.length + ds.length = 3) (fun acc O h => ?_) (fun d ds acc O h => ?_) ⟨rfl, ?_, (fun d hd => nomatch hd), rfl⟩⟩
        · obtain ⟨eO, _, ha, hl⟩ := h
          subst eO
          obtain ⟨c1, c2, c3, l1, l2, l3, ea⟩ := three (by simpa using hl) ha
          subst ea
          refine ⟨_, _, [⟨#[c1]⟩, ⟨#[c2]⟩, ⟨#[c3]⟩], rfl, rfl, rfl, Nat.le_of_ble_eq_true rfl, ?_⟩
          refine .str (by rw [join3]; exact Nat.le_of_ble_eq_true rfl) ?_
          have hnm := join3_ok c1 c2 c3 l1 l2 l3
          walk_at "l"
          refine c_wrong hm fun d m hd hm => ?_
          obtain ⟨nm, rfl, hnm⟩ := strs_okx (l := ["a", "c", "q", "uaaa"]) hd hnm
          walk_at "l"
          refine c_take hm (by decide) (by decide) fun i m i0 i1 hm => ?_
          refine ix_mem i0 i1 fun d hd => ?_
          obtain ⟨kx, rfl, hkx⟩ := k3_of hd
          walk_at "l"
          refine c_gr2 hm hkx fun e m W1 S1 hm => ?_
          walk_at "l"
          exact q (.mk (.let_ nm) [e] .nil) m (r1 ⟨rfl, rfl, hnm⟩ W1 (by decide) S1) hm
        · obtain ⟨eO, hd, ha, hl⟩ := h
          subst eO
          refine ⟨by omega, fun Xb N' bk => ?_⟩
          obtain ⟨⟨s0, H0, C0, cl0, fp0, xe0, eb⟩, hex, hps⟩ := bk
          subst eb
          refine ag_n G.nd (by walk_at "s") (by walk_at "p") ⟨by walk_at "sub", ?_⟩
          refine ifs_nil ?_
          obtain ⟨i, rfl, hi0, hi1⟩ := hd _ List.mem_cons_self
          obtain ⟨a, b, c, d, em, hdd⟩ := hm
          subst em
          refine ite_t ?_
          refine ae_ixS ?_
          walk_at "l"
          refine ixs_mem (x := "abcdefghijklmnopqrstuvwxyz") (Int.emod_nonneg _ (by decide)) (show c / i % 26 < 26 from Int.emod_lt_of_pos _ (by decide)) (Nat.le_of_ble_eq_true rfl) fun ch hch => ?_
          refine ⟨rfl, fun d hd' => hd d (List.mem_cons_of_mem _ hd'), fun z hz => ?_, by rw [List.length_append]; simp only [List.length_cons, List.length_nil] at hl ⊢; omega⟩
          rcases List.mem_append.mp hz with hz | hz
          · exact ha z hz
          · exact ⟨ch, by simpa using hz, letters_ok hch⟩
        · intro d hd
          simp only [List.mem_cons, List.not_mem_nil, or_false] at hd
          rcases hd with rfl | rfl | rfl <;> exact ⟨_, rfl, by decide, by decide⟩
      walk_at "l"
      refine ite_d (fun _ => ?_) (fun _ => ?_)
      · walk_at "l"
        refine c_wrong hm fun d m hd hm => ?_
        obtain ⟨nm, rfl, hnm⟩ := strs_okx (l := ["a", "p", "z"]) hd (by decide +kernel)
        walk_at "l"
        refine c_gr1 (kn := .num) hm .num fun e m W1 S1 hm => ?_
        walk_at "l"
        refine c_gr1 (kn := .num) hm .num fun e2 m W2 S2 hm => ?_
        walk_at "l"
        exact q (.mk (.setat nm) [e, e2] .nil) m (r2 ⟨rfl, rfl, hnm⟩ W1 S1 W2 S2) hm
      walk_at "l"
      refine ite_d (fun _ => ?_) (fun _ => ?_)
      · walk_at "l"
        refine c_take hm (by decide) (by decide) fun i m i0 i1 hm => ?_
        refine ix_mem i0 i1 fun d hd => ?_
        obtain ⟨n0, rfl, hn0⟩ := strs_mem (l := ["p", "q"]) hd
        walk_at "l"
        refine c_wrong hm fun d m hd hm => ?_
        obtain ⟨nm, rfl, hnm⟩ := strs_okx (l := ["a", "r", "z"]) hd (strs_ok hn0)
        walk_at "l"
        refine c_wrong hm fun d m hd hm => ?_
        obtain ⟨nf, rfl, hnf⟩ := strs_okx (l := ["x", "z", "q"]) hd (by decide +kernel)
        walk_at "l"
        refine c_gr1 (kn := .truth) hm .truth fun e m W1 S1 hm => ?_
        walk_at "l"
        exact q (.mk (.setf nm nf) [e] .nil) m (r1 ⟨rfl, rfl, hnm, hnf⟩ W1 (by decide) (by omega)) hm
      walk_at "l"
      refine ite_d (fun _ => ?_) (fun _ => ?_)
      · have hm0 := hm
        obtain ⟨a, b, c, d, em, hdd⟩ := hm
        subst em
        walk_at "l"
        refine c_gr2 hm0 hk fun e m W1 S1 hm => ?_
        walk_at "l"
        refine c_take hm (by decide) (by decide) fun i m i0 i1 hm => ?_
        rcases (show i = 0 ∨ i = 1 by omega) with rfl | rfl
        · refine ixD_lst rfl ?_
          exact q (.mk .ret [e] .nil) m (r1 ⟨rfl, rfl⟩ W1 (by decide) S1) hm
        · refine ixD_lst rfl ?_
          exact q (.mk (.raise "low") [] .nil) m (rb0 ⟨rfl, rfl, by decide +kernel⟩) hm
      walk_at "l"
      refine ite_d (fun _ => ?_) (fun _ => ?_)
      · walk_at "l"
        refine c_take hm (by decide) (by decide) fun i m i0 i1 hm => ?_
        refine ix_mem i0 i1 fun d hd => ?_
        obtain ⟨n0, rfl, hn0⟩ := strs_mem (l := ["log", "do"]) hd
        walk_at "l"
        refine c_take hm (by decide) (by decide) fun i m i0 i1 hm => ?_
        refine ix_mem i0 i1 fun d hd => ?_
        obtain ⟨kx, rfl, hkx⟩ := k2_of hd
        walk_at "l"
        refine c_gr2 hm hkx fun e m W1 S1 hm => ?_
        walk_at "l"
        rcases ld_of hn0 with rfl | rfl
        · exact q (.mk .log [e] .nil) m (r1 ⟨rfl, rfl⟩ W1 (by decide) S1) hm
        · exact q (.mk .do_ [e] .nil) m (r1 ⟨rfl, rfl⟩ W1 (by decide) S1) hm
      walk_at "l"
      refine ite_d (fun z => absurd z (by omega)) (fun _ => ?_)
      walk_at "l"
      refine ite_d (fun _ => ?_) (fun _ => ?_)
      · walk_at "l"
        refine c_gr1 (kn := .truth) hm .truth fun e m W1 S1 hm => ?_
        walk_at "l"
        refine c_rows (by omega) hm hk fun rs m D1 hm => ?_
        walk_at "l"
        exact q (.mk .while_ [e] (.cons rs .nil)) m (rb ⟨rfl, rfl⟩ (fun z hz => by rw [List.mem_singleton.mp hz]; exact W1) (by simp only [Ex.szs]; omega) (.cons D1.1 .nil) (by have := @szR_32 n; have := D1.2; simp only [Ex.szs, Bds.sz]; omega)) hm
      walk_at "l"
      refine ite_d (fun _ => ?_) (fun _ => ?_)
      · walk_at "l"
        refine c_rows (by omega) hm hk fun rs m D1 hm => ?_
        walk_at "l"
        refine c_rows (by omega) hm hk fun rs2 m D2 hm => ?_
        walk_at "l"
        refine c_rows (by omega) hm hk fun rs3 m D3 hm => ?_
        walk_at "l"
        refine c_take hm (by decide) (by decide) fun i m i0 i1 hm => ?_
        have := @szR_32 n
        have := D1.2
        have := D2.2
        have := D3.2
        rcases (show i = 0 ∨ i = 1 by omega) with rfl | rfl
        · walk_at "l"
          exact q (.mk (.try_ ["low"]) [] (.cons rs3 (.cons rs .nil))) m (rb ⟨rfl, rfl, .inl rfl, fun z hz => strs_ok hz⟩ (fun z hz => nomatch hz) (by simp only [Ex.szs]; omega) (.cons D3.1 (.cons D1.1 .nil)) (by simp only [Ex.szs, Bds.sz]; omega)) hm
        · walk_at "l"
          exact q (.mk (.try_ ["low", "zero"]) [] (.cons rs3 (.cons rs (.cons rs2 .nil)))) m (rb ⟨rfl, rfl, .inr rfl, fun z hz => strs_ok hz⟩ (fun z hz => nomatch hz) (by simp only [Ex.szs]; omega) (.cons D3.1 (.cons D1.1 (.cons D2.1 .nil))) (by simp only [Ex.szs, Bds.sz]; omega)) hm
      walk_at "l"
      refine c_gr1 (kn := .truth) hm .truth fun e m W1 S1 hm => ?_
      walk_at "l"
      refine c_rows (by omega) hm hk fun rs m D1 hm => ?_
      walk_at "l"
      refine c_rows (by omega) hm hk fun rs2 m D2 hm => ?_
      walk_at "l"
      exact q (.mk .if_ [e] (.cons rs (.cons rs2 .nil))) m (rb ⟨rfl, rfl⟩ (fun z hz => by rw [List.mem_singleton.mp hz]; exact W1) (by simp only [Ex.szs]; omega) (.cons D1.1 (.cons D2.1 .nil)) (by have := @szR_32 n; have := D1.2; have := D2.2; simp only [Ex.szs, Bds.sz]; omega)) hm
    )) only [↓gate_rule]
theorem okRows {n : Nat} (B : Lib mg) (g1 : FnA P w K mg base k "_law_take" spTake) (g2 : FnA P w K mg base k "_law_one_row" (spRow n)) (Fn : Fun K "_law_some_rows" "_law_some_rows" sSome f fd) : FnOk P w K mg base (L2.CX P w) (k + 1) f fd ["_law_box_here", "_law_depth"] (lift K (spRows n)) := by
  refine gate ?_
  simp (disch := with_unfolding_all (
      refine fnG (Ns := ["_law_box_here", "_law_depth", "_law_k"]) Fn rfl rfl ⟨rfl, rfl, rfl, by decide +kernel, rfl, by decide +kernel, by decide +kernel⟩ (fun ds O QA EA h => ?_) (by decide) (fun cdv A outer s H E hr T ds O QA EA F h G => ?_)
      · obtain ⟨p, m, kn, z, e, _⟩ := h
        rw [e]; rfl
      obtain ⟨p, m, kn, z, e, eO, hm, hk, ez, q⟩ := h
      subst e eO ez
      walk_at "r"
      walk_at "l"
      refine ae_lc true [("_law_k", 2)] (G.comp true) G.calm G.nd (blkOk_by (by kernel_rfl)) (by walk_at "b") (ai_rangeE rfl B.rng ?_)
      walk_at "l"
      refine c_take hm (by decide) (by decide) fun i m i0 i1 hm => ⟨i.toNat, by rw [Int.toNat_of_nonneg i0], by omega, ?_⟩
      refine CompA.inv (fun ds acc O => ∃ m rs, O = [(p, m)] ∧ BoxM kn.enc m ∧ acc = Rws.encs rs ∧ WfS (n + 5) rs ∧ Rws.sz rs ≤ acc.length * szR n ∧ acc.length + ds.length ≤ 2) (fun acc O h => ?_) (fun d ds acc O h => ?_) ⟨m, .nil, rfl, hm, rfl, .nil, Nat.zero_le _, by rw [nats_len]; show 0 + i.toNat ≤ 2; omega⟩
      · obtain ⟨m, rs, eO, hm, ea, hw, hs, hl⟩ := h
        subst eO
        refine ⟨_, .inl rfl, ?_⟩
        rw [ea]
        refine q rs m ⟨hw, Nat.le_trans hs (Nat.mul_le_mul_right _ (by simpa using hl))⟩ hm
      · obtain ⟨m, rs, eO, hm, ea, hw, hs, hl⟩ := h
        subst eO
        refine ⟨by omega, fun Xb N' bk => ?_⟩
        obtain ⟨⟨s0, H0, C0, cl0, fp0, xe0, eb⟩, hex, hps⟩ := bk
        subst eb
        have hps := hps rfl
        refine ag_n G.nd (by walk_at "s") (by walk_at "p") ⟨by walk_at "sub", ?_⟩
        refine ifs_nil ?_
        refine ite_t ?_
        walk_at "l"
        refine c_row rfl hm hk fun r m hr hm => ⟨m, rs.app (.cons r .nil), rfl, hm, ?_, app_wf hw (.cons hr.1 .nil), ?_, ?_⟩
        · rw [app_encs, ea]; rfl
        · have := hr.2
          rw [app_sz, List.length_append]
          simp only [Rws.sz, List.length_cons, List.length_nil, Nat.add_mul]
          omega
        · rw [List.length_append]
          simp only [List.length_cons, List.length_nil] at hl ⊢
          omega
    )) only [↓gate_rule]
end
end K12
/-! A21: extend by a tuple. -/
namespace K12
open PySem PySem.Spec PyProof.Rows L2

theorem extend_tup (l : Addr) (items : Array Value) (n : Nat) (b : Addr) (items2 : Array Value) (n2 : Nat) (dd : Option Addr) (sl : Array (Option Value)) (hs0 : ¬(!items.isEmpty && Builtin.List.listTooLong (items.size + items2.size)) = true) (hs1 : items.size ≤ sizeLine) (hs2 : items.size + items2.size ≤ sizeLine + 1) :
    Meets (Builtin.«list.extend» ⟨[.ref l, .ref b], []⟩) (fun _ R s => s.heap.get? l = some { cls := .type "list", dict := none, data := .seq items n, slots := #[] } ∧ s.heap.get? b = some { cls := .type "tuple", dict := dd, data := .seq items2 n2, slots := sl } ∧ R (.ok (.ret Value.none)) { s with heap := s.heap.update l (Obj.mapSeq fun x => x ++ items2), toks := s.toks }) :=
  .of_wp fun prog w A R s h => by
    obtain ⟨hp, g, d, tk, os⟩ := s; obtain ⟨hl, hb, h⟩ := h; have f1 := AutoSeq1.idx_int; have f2 := AutoSeq1.sub_tuple_tuple; have f3 := AutoSeq1.sub_list_list; have f4 := AutoSeq1.sub_tuple_list; have f5 := AutoSeq1.sub_list_tuple;
    have hz' : (items ++ items2).size ≤ sizeLine + 1 := by rw [Array.size_append]; exact hs2
    wp_walk using (wpAny_updateSeq hl rfl (hz := hs1) (_hz' := hz')), AutoSeq1.wpAny_loadPart' hl, AutoSeq1.wpAny_loadPart' hb; exact ⟨_, rfl, h⟩
section
variable {X : Cx} {N : Ent} {R : Rho} {O : Os} {Q : D → Os → Prop} {o a : Expr} {apos cpos : Pos}
def rExtT (K : PySem.W.Frag) : V → List V → Hp → VK → Prop := fun x vs H Q => ∃ l b xs zs, x = .ref l ∧ vs = [.ref b] ∧ H l = some (.lst xs) ∧ SqT K H b zs ∧ xs.length + zs.length ≤ sizeLine ∧ Q .non (upd H l (.lst (xs ++ zs)))
theorem mt_extT : MtM X "list.extend" (rExtT X.K) := by
  intro pins s σ H x vs v us Q I rx rv h
  obtain ⟨l, b, xs, zs, rfl, rfl, hH, hB, hz, q⟩ := h
  cases rx
  obtain ⟨u, rfl, ru⟩ := rv.one
  cases ru
  obtain ⟨z, its, n, r, hl, e⟩ := I.lstM hH
  obtain ⟨its2, r2, ⟨⟨c2, dd, dt, sl⟩, e2, hc2, n2, hd2⟩, hl2⟩ := I.tuple hB
  dsimp only at hc2 hd2
  subst hc2 hd2
  have hl2' : its2.length = zs.length := r2.length.symm
  have hsz : its.toArray.size + its2.toArray.size ≤ sizeLine := by rw [List.size_toArray, List.size_toArray]; omega
  have hlong : ¬ (!its.toArray.isEmpty && Builtin.List.listTooLong (its.toArray.size + its2.toArray.size)) = true := by
    rw [notLongL hsz, Bool.and_false]
    exact Bool.false_ne_true
  refine call_meets F.slot_list_extend ⟨_, e, rfl⟩ F.entry_list_extend (F.args_list_extend_2 _ _)
    (extend_tup l its.toArray n b its2.toArray n2 dd sl hlong (by rw [List.size_toArray]; omega) (by omega)) ⟨e, e2, ?_⟩
  refine ⟨.non, _, I.lset (its' := its ++ its2) hH e (by simp) (r.append r2) ?_, rfl, q⟩
  rw [List.length_append]
  omega
theorem ae_extT (h : AE X N o R O fun d1 O1 => ∃ l, d1 = .ref l ∧ (∃ xs, (l, MO.lst xs) ∈ O1) ∧ AE X N a R O1 fun d2 O2 => ∃ xs ys O3, d2 = .tup ys ∧ U O2 l (.lst xs) (.lst (xs ++ ys)) O3 ∧ xs.length + ys.length ≤ 100000 ∧ Q .non O3)
    (hbase : attributeBase o "extend" X.env (eval o X.env) = eval o X.env := by rfl)
    (hfew : ((backTo cpos (starEach (a :: []) X.env)).all (fun x => !x.1) && (backToKw cpos (keywordEach [] X.env)).all (fun x => x.1.isSome)
      && decide ((a :: []).length + ([] : List Keyword).length + (if ([] : List Keyword).isEmpty then 0 else 1) < 30)) = true := by rfl)
    (hline : (apos.endLine == cpos.line) = true := by rfl) (hs : starEach (a :: []) X.env = (false, eval a X.env) :: starEach [] X.env := by rfl) (hplain : (backTo cpos (starEach [] X.env)).any (·.1) = false := by rfl) :
    AE X N (.Call (.Attribute o "extend" apos) [a] [] cpos) R O Q := fun σ H F r0 =>
  tM.of (pe_bm PySem.F.plainAttrs_list PySem.F.slot_list_extend PySem.F.type_list_extend mt_extT peM (pa_cons peM pa_nil hs) hbase hfew hline hs hplain) ((h σ H F r0).imp fun v H1 ⟨d1, O1, F1, s1, r1, p1, l, e1, ⟨xs0, hm⟩, q1⟩ => by
    subst e1
    cases p1
    obtain ⟨ws0, h0, _⟩ := (r1.o.ob _ hm).2
    refine ⟨.inl ⟨rfl, ws0, SqL.of h0⟩, (q1 σ H1 F1 r1).imp fun u H2 ⟨d2, O2, F2, s2, r2, p2, xs, ys, O3, e2, hu, hl, q⟩ => ?_⟩
    subst e2
    obtain ⟨ws, h2, l2⟩ := (r2.o.ob _ hu.mem).2
    cases p2 with
    | @tup b zs ys hb lb =>
      refine ⟨l, b, ws, zs, rfl, rfl, h2, same_t r2.o.ex hb, by rw [l2.len, lb.len]; exact le_line hl, QV.more (s1.trans s2) ?_⟩
      have hm' : MR X.K F2 (L2.upd H2 l (.lst (ws ++ zs))) l (.lst (xs ++ ys)) := ⟨_, upd_same, l2.app lb⟩
      exact QV.same (r2.go (r2.o.upd hu hm') (Same.refl _)) .non q)
end
theorem ite_dt {p : Prop} [Decidable p] {A B : Prop} (h : p) (a : A) : if decide p = true then A else B := by rw [if_pos (decide_eq_true h)]; exact a
theorem ite_df {p : Prop} [Decidable p] {A B : Prop} (h : ¬ p) (b : B) : if decide p = true then A else B := by rw [if_neg (by rw [decide_eq_true_eq]; exact h)]; exact b
theorem ite_ndt {p : Prop} [Decidable p] {A B : Prop} (h : ¬ p) (a : A) : if (!decide p) = true then A else B := by rw [if_pos (by rw [decide_eq_false h]; rfl)]; exact a
theorem ite_ndf {p : Prop} [Decidable p] {A B : Prop} (h : p) (b : B) : if (!decide p) = true then A else B := by rw [if_neg (by rw [decide_eq_true h]; exact Bool.noConfusion)]; exact b
theorem of_l {xs : List D} {P : List D → Prop} (q : P xs) : ∃ ds, (D.lst xs = .lst ds ∨ D.lst xs = .tup ds) ∧ P ds := ⟨xs, .inl rfl, q⟩
theorem of_t {xs : List D} {P : List D → Prop} (q : P xs) : ∃ ds, (D.tup xs = .lst ds ∨ D.tup xs = .tup ds) ∧ P ds := ⟨xs, .inr rfl, q⟩
section
variable {X : Cx} {N : Ent} {tg : Expr} {body : List Stmt} {E : AEnds} {R : Rho} {O O1 : Os} {d : D} {ds : List D}
theorem loop_nil (h : E.nx R O) : LoopA X N tg body E [] R O := h
theorem loop_cons (h : AG X tg d R fun R1 => ASs X N body R1 O { nx := fun R2 O2 => LoopA X N tg body E ds R2 O2, rt := E.rt, bk := E.nx, ct := fun R2 O2 => LoopA X N tg body E ds R2 O2 }) : LoopA X N tg body E (d :: ds) R O := h
theorem loop_nil' (e : ds = []) (h : E.nx R O) : LoopA X N tg body E ds R O := by rw [e]; exact h
theorem loop_cons' {es : List D} (e : es = d :: ds) (h : AG X tg d R fun R1 => ASs X N body R1 O { nx := fun R2 O2 => LoopA X N tg body E ds R2 O2, rt := E.rt, bk := E.nx, ct := fun R2 O2 => LoopA X N tg body E ds R2 O2 }) : LoopA X N tg body E es R O := by rw [e]; exact h
theorem app_i {l : Addr} {xs : List D} {P : Addr → Prop} (m : (l, MO.lst xs) ∈ O) (h : P l) : ∃ l', D.ref l = .ref l' ∧ (∃ xs, (l', MO.lst xs) ∈ O) ∧ P l' := ⟨l, rfl, ⟨xs, m⟩, h⟩
theorem app_j {l : Addr} {xs : List D} {P : Os → Prop} (u : U O l (.lst xs) (.lst (xs ++ [d])) O1) (hl : xs.length ≤ 100000) (h : P O1) : ∃ xs O3, U O l (.lst xs) (.lst (xs ++ [d])) O3 ∧ xs.length ≤ 100000 ∧ P O3 := ⟨xs, O1, u, hl, h⟩
theorem ext_j {l : Addr} {xs ys : List D} {P : Os → Prop} (u : U O l (.lst xs) (.lst (xs ++ ys)) O1) (hl : xs.length + ys.length ≤ 100000) (h : P O1) : ∃ xs ys' O3, D.lst ys = .lst ys' ∧ U O l (.lst xs) (.lst (xs ++ ys')) O3 ∧ xs.length + ys'.length ≤ 100000 ∧ P O3 := ⟨xs, ys, O1, rfl, u, hl, h⟩
theorem extT_j {l : Addr} {xs ys : List D} {P : Os → Prop} (u : U O l (.lst xs) (.lst (xs ++ ys)) O1) (hl : xs.length + ys.length ≤ 100000) (h : P O1) : ∃ xs ys' O3, D.tup ys = .tup ys' ∧ U O l (.lst xs) (.lst (xs ++ ys')) O3 ∧ xs.length + ys'.length ≤ 100000 ∧ P O3 := ⟨xs, ys, O1, rfl, u, hl, h⟩
theorem tup_i {P : List D → Prop} (h : P ds) : ∃ ds', D.tup ds = .tup ds' ∧ P ds' := ⟨ds, rfl, h⟩
theorem lst_i {P : List D → Prop} (h : P ds) : ∃ ds', D.lst ds = .lst ds' ∧ P ds' := ⟨ds, rfl, h⟩
end
theorem aug_i {R R' : Rho} {x : Str} {z j : Int} {P : Rho → Prop} (p : Put R x (.int (z + j)) R') (h : P R') : ∃ j' R', D.int j = .int j' ∧ Put R x (.int (z + j')) R' ∧ P R' := ⟨j, R', rfl, p, h⟩
theorem pop_i {O O3 : Os} {l : Addr} {xs : List D} {d : D} {P : D → Os → Prop} (u : U O l (.lst xs) (.lst xs.dropLast) O3) (e : xs[xs.length - 1]? = some d) (h : P d O3) : ∃ l' xs d' O3, D.ref l = .ref l' ∧ U O l' (.lst xs) (.lst xs.dropLast) O3 ∧ xs[xs.length - 1]? = some d' ∧ P d' O3 := ⟨l, xs, d, O3, rfl, u, e, h⟩
section
variable {X : Cx} {N : Ent} {R : Rho} {O : Os} {a : Expr} {es : List Expr} {kk : Nat} {p pos : Pos} {Q : Bool → Os → Prop}
theorem at_inTup (h : AE X N a R O fun d1 O1 => AE X N (.Tuple es kk p) R O1 fun d2 O2 => inD d1 d2 fun s l => Q (decide (s ∈ l)) O2) (hm : behindInMarks .In (.Tuple es kk p) = false) : AT X N (.Compare a [.In] [.Tuple es kk p] pos) R O Q := at_in h hm
theorem at_niTup (h : AE X N a R O fun d1 O1 => AE X N (.Tuple es kk p) R O1 fun d2 O2 => inD d1 d2 fun s l => Q (!decide (s ∈ l)) O2) (hm : behindInMarks .NotIn (.Tuple es kk p) = false) : AT X N (.Compare a [.NotIn] [.Tuple es kk p] pos) R O Q := at_ni h hm
end
end K12
/-! M2: trees and the count. -/
namespace K12
open PySem PySem.Spec PyProof.Rows L2
open PySem.PyData (strOk)
def hD (fs : Str) (b : List D) : D := .tup [.str fs, .tup b]
/-- the rows that hold rows: what stands in them -/
inductive VwR : D → List D → Prop
  | if_ {c : D} {b1 b2 : List D} : VwR (.tup [.str "if", c, .tup b1, .tup b2]) (c :: b1 ++ b2)
  | while_ {c : D} {b1 : List D} : VwR (.tup [.str "while", c, .tup b1]) (c :: b1)
  | try1 {f : Str} {b0 b1 : List D} : VwR (.tup [.str "try", .tup b0, .tup [hD f b1]]) (b0 ++ b1)
  | try2 {f f' : Str} {b0 b1 b2 : List D} : VwR (.tup [.str "try", .tup b0, .tup [hD f b1, hD f' b2]]) (b0 ++ b1 ++ b2)
/-- any node: what stands in it -/
inductive Vw : D → List D → Prop
  | num {n : Int} : Vw (.tup [.str "num", .int n]) []
  | truth {b : Bool} : Vw (.tup [.str "truth", .bl b]) []
  | name {s : Str} : Vw (.tup [.str "name", .str s]) []
  | two {s : Str} {a b : D} : Vw (.tup [.str "two", .str s, a, b]) [a, b]
  | one {s : Str} {a : D} : Vw (.tup [.str "one", .str s, a]) [a]
  | call {s : Str} {ps : List D} : Vw (.tup [.str "call", .str s, .tup ps]) ps
  | new {s : Str} {ps : List D} : Vw (.tup [.str "new", .str s, .tup ps]) ps
  | row {ps : List D} : Vw (.tup [.str "row", .tup ps]) ps
  | field {s : Str} {a : D} : Vw (.tup [.str "field", a, .str s]) [a]
  | index {a b : D} : Vw (.tup [.str "index", a, b]) [a, b]
  | let_ {s : Str} {a : D} : Vw (.tup [.str "let", .str s, a]) [a]
  | set {s : Str} {a : D} : Vw (.tup [.str "set", .str s, a]) [a]
  | setat {s : Str} {a b : D} : Vw (.tup [.str "setat", .str s, a, b]) [a, b]
  | setf {s f : Str} {a : D} : Vw (.tup [.str "setfield", .str s, .str f, a]) [a]
  | log {a : D} : Vw (.tup [.str "log", a]) [a]
  | do_ {a : D} : Vw (.tup [.str "do", a]) [a]
  | ret {a : D} : Vw (.tup [.str "return", a]) [a]
  | raise {s : Str} : Vw (.tup [.str "raise", .str s]) []
  | fn {a b c : D} {ps : List D} : Vw (.tup [.str "fun", a, b, c, .tup ps]) ps
  | r {d : D} {ps : List D} : VwR d ps → Vw d ps
mutual
/-- so many nodes stand in it -/
inductive Sz : D → Nat → Prop
  | mk {d : D} {ps : List D} {m : Nat} : Vw d ps → Ok 62 d → SzL ps m → Sz d (m + 1)
inductive SzL : List D → Nat → Prop
  | nil : SzL [] 0
  | cons {d : D} {ds : List D} {n m : Nat} : Sz d n → SzL ds m → SzL (d :: ds) (n + m)
end
theorem Sz.pos {d : D} {n : Nat} (h : Sz d n) : 0 < n := by
  cases h; omega
theorem Sz.ok {d : D} {n : Nat} (h : Sz d n) : Ok 62 d := by
  cases h with | mk _ h _ => exact h
theorem SzL.len : ∀ {ds : List D} {n : Nat}, SzL ds n → ds.length ≤ n
  | [], _, .nil => Nat.le_refl _
  | d :: ds, _, .cons h t => by have := h.pos; have := SzL.len t; simp only [List.length_cons]; omega
theorem SzL.ok : ∀ {ds : List D} {n : Nat}, SzL ds n → ∀ d ∈ ds, Ok 62 d
  | _ :: _, _, .cons h t, d, hd => by
    rcases List.mem_cons.mp hd with e | hd
    · rw [e]; exact h.ok
    · exact SzL.ok t d hd
theorem SzL.app : ∀ {xs ys : List D} {n m : Nat}, SzL xs n → SzL ys m → SzL (xs ++ ys) (n + m)
  | [], _, _, _, .nil, h => by rw [Nat.zero_add]; exact h
  | x :: xs, ys, _, _, .cons h t, h2 => by rw [Nat.add_assoc]; exact .cons h (SzL.app t h2)
theorem SzL.last : ∀ {xs : List D} {n : Nat}, SzL xs n → xs ≠ [] → ∃ d a b, xs[xs.length - 1]? = some d ∧ SzL xs.dropLast a ∧ Sz d b ∧ n = a + b
  | [x], _, .cons h .nil, _ => ⟨x, 0, _, rfl, .nil, h, by omega⟩
  | x :: y :: r, _, .cons h t, _ => by
    obtain ⟨d, a, b, e1, e2, e3, e4⟩ := SzL.last t (fun z => nomatch z)
    refine ⟨d, _ + a, b, ?_, .cons h e2, e3, by omega⟩
    simpa using e1
theorem mem_ok {l : List Str} {s : Str} (h : s ∈ l) (ho : l.all strOk = true := by decide +kernel) : strOk s = true := List.all_eq_true.mp ho s h
theorem encs_mem {es : List Ex} {d : D} (h : d ∈ Ex.encs es) : ∃ e ∈ es, d = e.enc := by
  rw [encs_map] at h
  obtain ⟨e, he, x⟩ := List.mem_map.mp h
  exact ⟨e, he, x.symm⟩
theorem okS {n : Nat} {s : Str} (h : strOk s = true := by decide +kernel) : Ok n (.str s) := .str h
theorem ok_nil {P : D → Prop} : ∀ d ∈ ([] : List D), P d := fun _ h => nomatch h
theorem ok_cons {P : D → Prop} {d : D} {ds : List D} (h : P d) (t : ∀ x ∈ ds, P x) : ∀ x ∈ d :: ds, P x := fun x hx => by
  rcases List.mem_cons.mp hx with e | hx
  · rw [e]; exact h
  · exact t x hx
theorem ops9_ok {s : Str} (h : s ∈ ops9) : strOk s = true := mem_ok h
theorem wpair_ok {c : Str} (h : c = "pair" ∨ c = "twin") : strOk c = true := by
  rcases h with rfl | rfl <;> decide +kernel
theorem wone_ok {c : Str} (h : c = "-" ∨ c = "not") : strOk c = true := by
  rcases h with rfl | rfl <;> decide +kernel
/-- what an expression looks like -/
theorem ex_vw : ∀ {w : EW} {ps : List Ex}, w.ok ps.length → Vw (w.enc (Ex.encs ps)) (Ex.encs ps)
  | .num _, [], _ => .num
  | .truth _, [], _ => .truth
  | .name _, [], _ => .name
  | .two _, [a, b], _ => .two
  | .one _, [a], _ => .one
  | .call _, ps, _ => .call
  | .new _, ps, _ => .new
  | .row, ps, _ => .row
  | .field _, [a], _ => .field
  | .index, [a, b], _ => .index
theorem ex_ok1 {n : Nat} : ∀ {w : EW} {ps : List Ex}, w.ok ps.length → (∀ d ∈ Ex.encs ps, Ok n d) → Ok (n + 2) (w.enc (Ex.encs ps))
  | .num _, [], _, _ => .tup (ok_cons okS (ok_cons (.int _) ok_nil))
  | .truth _, [], _, _ => .tup (ok_cons okS (ok_cons (.bl _) ok_nil))
  | .name _, [], h, _ => .tup (ok_cons okS (ok_cons (.str h.2) ok_nil))
  | .two _, ps, h, p => .tup (ok_cons okS (ok_cons (.str (ops9_ok h.2)) fun d hd => (p d hd).le (by omega)))
  | .one _, ps, h, p => .tup (ok_cons okS (ok_cons (.str (wone_ok h.2)) fun d hd => (p d hd).le (by omega)))
  | .call _, ps, h, p => .tup (ok_cons okS (ok_cons (.str h.2) (ok_cons (.tup p) ok_nil)))
  | .new _, ps, h, p => .tup (ok_cons okS (ok_cons (.str (wpair_ok h.2)) (ok_cons (.tup p) ok_nil)))
  | .row, ps, _, p => .tup (ok_cons okS (ok_cons (.tup p) ok_nil))
  | .field _, ps, h, p => .tup (ok_cons okS fun d hd => by
    rcases List.mem_append.mp hd with hd | hd
    · exact (p d hd).le (by omega)
    · rw [List.mem_singleton.mp hd]; exact .str h.2)
  | .index, ps, _, p => .tup (ok_cons okS fun d hd => (p d hd).le (by omega))
theorem ex_ok : ∀ {n : Nat} {e : Ex}, Wf n e → Ok (2 * n) e.enc
  | n + 1, .mk w ps, .mk h hp => by
    have z : ∀ d ∈ Ex.encs ps, Ok (2 * n) d := fun d hd => by
      obtain ⟨e, he, x⟩ := encs_mem hd
      rw [x]; exact ex_ok (hp e he)
    exact ex_ok1 h z
theorem szL_of : ∀ {es : List Ex}, (∀ e ∈ es, Sz e.enc e.sz) → SzL (Ex.encs es) (Ex.szs es)
  | [], _ => by simp only [Ex.encs, Ex.szs]; exact .nil
  | e :: es, h => by simp only [Ex.encs, Ex.szs]; exact .cons (h e List.mem_cons_self) (szL_of fun x hx => h x (List.mem_cons_of_mem _ hx))
theorem ex_sz : ∀ {n : Nat} {e : Ex}, Wf n e → 2 * n ≤ 62 → Sz e.enc e.sz
  | n + 1, .mk w ps, .mk h hp, l => by
    simp only [Ex.sz]
    exact .mk (ex_vw h) ((ex_ok (.mk h hp)).le l) (szL_of fun e he => ex_sz (hp e he) (by omega))
/-! ### rows -/
def Bds.flat : Bds → List D
  | .nil => []
  | .cons b bs => Rws.encs b ++ Bds.flat bs
theorem rw_vw : ∀ {w : RW} {es : List Ex} {bs : Bds}, w.ok es.length bs.len → Vw (w.enc (Ex.encs es) (Bds.encs bs)) (Ex.encs es ++ bs.flat)
  | .let_ _, [e], .nil, _ => .let_
  | .set _, [e], .nil, _ => .set
  | .setat _, [a, b], .nil, _ => .setat
  | .setf _ _, [a], .nil, _ => .setf
  | .if_, [c], .cons b1 (.cons b2 .nil), _ => by
    have := Vw.r (VwR.if_ (c := c.enc) (b1 := Rws.encs b1) (b2 := Rws.encs b2))
    simpa only [Bds.flat, List.append_nil, Ex.encs, RW.enc, Bds.encs, List.cons_append, List.nil_append] using this
  | .while_, [c], .cons b1 .nil, _ => by
    have := Vw.r (VwR.while_ (c := c.enc) (b1 := Rws.encs b1))
    simpa only [Bds.flat, List.append_nil, Ex.encs, RW.enc, Bds.encs, List.cons_append, List.nil_append] using this
  | .log, [e], .nil, _ => .log
  | .do_, [e], .nil, _ => .do_
  | .ret, [e], .nil, _ => .ret
  | .raise _, [], .nil, _ => .raise
  | .try_ [f], [], .cons b0 (.cons b1 .nil), _ => by
    have := Vw.r (VwR.try1 (f := f) (b0 := Rws.encs b0) (b1 := Rws.encs b1))
    simpa only [Bds.flat, List.append_nil, List.nil_append, Ex.encs, RW.enc, Bds.encs, tryD, List.map_cons, List.map_nil, zips, hD] using this
  | .try_ [f, f'], [], .cons b0 (.cons b1 (.cons b2 .nil)), _ => by
    have := Vw.r (VwR.try2 (f := f) (f' := f') (b0 := Rws.encs b0) (b1 := Rws.encs b1) (b2 := Rws.encs b2))
    simpa only [Bds.flat, List.append_nil, List.nil_append, List.append_assoc, Ex.encs, RW.enc, Bds.encs, tryD, List.map_cons, List.map_nil, zips, hD] using this
  | .try_ [], _, _, h => by rcases h.2.2.1 with z | z <;> cases z
theorem zips_ok {n : Nat} : ∀ {fs : List Str} {bs : List D}, (∀ f ∈ fs, strOk f = true) → (∀ d ∈ bs, Ok n d) → ∀ d ∈ zips (fs.map .str) bs, Ok (n + 1) d
  | [], _, _, _, d, h => by simp [zips] at h
  | f :: fs, [], _, _, d, h => by simp [zips] at h
  | f :: fs, b :: bs, h1, h2, d, h => by
    simp only [List.map_cons, zips] at h
    rcases List.mem_cons.mp h with e | h
    · rw [e]
      exact .tup (ok_cons (.str (h1 f List.mem_cons_self)) (ok_cons (h2 b List.mem_cons_self) ok_nil))
    · exact zips_ok (fun f hf => h1 f (List.mem_cons_of_mem _ hf)) (fun d hd => h2 d (List.mem_cons_of_mem _ hd)) d h
theorem ok_app {P : D → Prop} {xs ys : List D} (h1 : ∀ d ∈ xs, P d) (h2 : ∀ d ∈ ys, P d) : ∀ d ∈ xs ++ ys, P d := fun d hd => by
  rcases List.mem_append.mp hd with h | h
  · exact h1 d h
  · exact h2 d h
theorem rw_ok1 {n : Nat} : ∀ {w : RW} {es : List Ex} {bs : Bds}, w.ok es.length bs.len → (∀ d ∈ Ex.encs es, Ok n d) → (∀ d ∈ Bds.encs bs, Ok (n + 1) d) → Ok (n + 4) (w.enc (Ex.encs es) (Bds.encs bs))
  | .let_ _, es, _, h, p, _ => .tup (ok_cons okS (ok_cons (.str h.2.2) fun d hd => (p d hd).le (by omega)))
  | .set _, es, _, h, p, _ => .tup (ok_cons okS (ok_cons (.str h.2.2) fun d hd => (p d hd).le (by omega)))
  | .setat _, es, _, h, p, _ => .tup (ok_cons okS (ok_cons (.str h.2.2) fun d hd => (p d hd).le (by omega)))
  | .setf _ _, es, _, h, p, _ => .tup (ok_cons okS (ok_cons (.str h.2.2.1) (ok_cons (.str h.2.2.2) fun d hd => (p d hd).le (by omega))))
  | .if_, es, bs, h, p, q => .tup (ok_cons okS (ok_app (fun d hd => (p d hd).le (by omega)) fun d hd => (q d hd).le (by omega)))
  | .while_, es, bs, h, p, q => .tup (ok_cons okS (ok_app (fun d hd => (p d hd).le (by omega)) fun d hd => (q d hd).le (by omega)))
  | .log, es, bs, h, p, q => .tup (ok_cons okS (ok_app (fun d hd => (p d hd).le (by omega)) fun d hd => (q d hd).le (by omega)))
  | .do_, es, bs, h, p, q => .tup (ok_cons okS (ok_app (fun d hd => (p d hd).le (by omega)) fun d hd => (q d hd).le (by omega)))
  | .ret, es, bs, h, p, q => .tup (ok_cons okS (ok_app (fun d hd => (p d hd).le (by omega)) fun d hd => (q d hd).le (by omega)))
  | .raise _, es, bs, h, p, q => .tup (ok_cons okS (ok_cons (.str h.2.2) ok_nil))
  | .try_ fs, es, .nil, h, p, q => by have := h.2.1; simp only [Bds.len] at this; omega
  | .try_ fs, es, .cons b bs, h, p, q => by
    simp only [Bds.encs] at q
    simp only [RW.enc, Bds.encs, tryD]
    refine .tup (ok_cons okS (ok_cons ((q _ List.mem_cons_self).le (by omega)) (ok_cons (.tup (zips_ok h.2.2.2 fun d hd => q d (List.mem_cons_of_mem _ hd))) ok_nil)))
mutual
theorem rw_ok : ∀ {n : Nat} {r : Rw}, WfR n r → Ok (4 * n) r.enc
  | n + 1, .mk w es bs, .mk h he hb => by
    simp only [Rw.enc]
    refine rw_ok1 (n := 4 * n) h (fun d hd => ?_) (bds_ok hb)
    obtain ⟨e, hm, x⟩ := encs_mem hd
    rw [x]
    exact (ex_ok (he e hm)).le (by omega)
theorem rws_ok : ∀ {n : Nat} {r : Rws}, WfS n r → ∀ d ∈ r.encs, Ok (4 * n) d
  | _, .nil, _ => fun d hd => by simp [Rws.encs] at hd
  | _, .cons r rs, .cons h1 h2 => by
    simp only [Rws.encs]
    exact ok_cons (rw_ok h1) (rws_ok h2)
theorem bds_ok : ∀ {n : Nat} {r : Bds}, WfB n r → ∀ d ∈ r.encs, Ok (4 * n + 1) d
  | _, .nil, _ => fun d hd => by simp [Bds.encs] at hd
  | _, .cons b bs, .cons h1 h2 => by
    simp only [Bds.encs]
    exact ok_cons (.tup (rws_ok h1)) (bds_ok h2)
end
mutual
theorem rw_szD : ∀ {n : Nat} {r : Rw}, WfR n r → 4 * n ≤ 60 → Sz r.enc r.sz
  | n + 1, .mk w es bs, .mk h he hb, l => by
    simp only [Rw.sz]
    exact .mk (rw_vw h) ((rw_ok (.mk h he hb)).le (by omega)) ((szL_of fun e hm => ex_sz (he e hm) (by omega)).app (bds_szL hb (by omega)))
theorem rws_szL : ∀ {n : Nat} {r : Rws}, WfS n r → 4 * n ≤ 60 → SzL r.encs r.sz
  | _, .nil, _, _ => by simp only [Rws.encs, Rws.sz]; exact .nil
  | _, .cons r rs, .cons h1 h2, l => by
    simp only [Rws.encs, Rws.sz]
    exact .cons (rw_szD h1 l) (rws_szL h2 l)
theorem bds_szL : ∀ {n : Nat} {r : Bds}, WfB n r → 4 * n ≤ 60 → SzL r.flat r.sz
  | _, .nil, _, _ => by simp only [Bds.flat, Bds.sz]; exact .nil
  | _, .cons b bs, .cons h1 h2, l => by
    simp only [Bds.flat, Bds.sz]
    exact (rws_szL h1 l).app (bds_szL h2 l)
end
end K12
namespace K12
open PySem PySem.Spec PyProof.Rows L2
open PySem.PyData (strOk)
local macro_rules | `(tactic| walk_at "g") => `(tactic| repeat (first | (with_reducible exact Get.head) | (with_reducible apply Get.tail)))
local macro_rules | `(tactic| walk_at "p") => `(tactic| repeat (first | (with_reducible exact Put.head) | (with_reducible apply Put.tail)))
local macro_rules | `(tactic| walk_at "s") => `(tactic| exact ⟨⟨(by first | exact Or.inl rfl | exact Or.inr (Or.inl rfl) | exact Or.inr (Or.inr rfl)), (by decide), (by decide)⟩, (by first | exact Or.inl rfl | exact Or.inr rfl), (by first | exact Or.inl rfl | exact Or.inr rfl)⟩)
local macro_rules | `(tactic| walk_at "m") => `(tactic| repeat (first | (with_reducible exact List.mem_cons_self) | (with_reducible apply List.mem_cons_of_mem)))
local macro_rules | `(tactic| walk_at "u") => `(tactic| repeat (first | (with_reducible exact U.head) | (with_reducible apply U.tail)))
local macro_rules | `(tactic| walk_at "gc") => `(tactic| first | exact Gd.calm (by assumption) | ((have g : Gd _ _ := (by assumption)); exact g.calm))
local macro_rules | `(tactic| walk_at "gn") => `(tactic| first | exact Gd.nd (by assumption) | ((have g : Gd _ _ := (by assumption)); exact g.nd))
local macro_rules | `(tactic| walk_at "gu") => `(tactic| first | exact Gd.un (by assumption) | ((have g : Gd _ _ := (by assumption)); exact g.un))
local macro_rules | `(tactic| walk_at "nCall") => `(tactic| first
  | ((with_reducible refine' ae_c ?G ?_); (case G => assumption))
  | ((with_reducible refine' ae_len ?m ?_ ?hg ?he ?hpl); (case m => exact Lib.len (by assumption)); (case hg => rfl); (case he => rfl); (case hpl => rfl))
  | ((with_reducible refine' ae_tupOf ?m ?_ ?g ?he ?hp); (case m => exact Lib.tup (by assumption)); (case g => rfl); (case he => rfl); (case hp => rfl))
  | ((with_reducible refine' ae_intB ?m ?_ ?g ?he ?hp); (case m => exact Lib.int (by assumption)); (case g => rfl); (case he => rfl); (case hp => rfl))
  | ((with_reducible refine' ae_app ?_ ?hb ?hf ?hl ?hs ?hp); (case hb => rfl); (case hf => rfl); (case hl => rfl); (case hs => rfl); (case hp => rfl))
  | ((with_reducible refine' ae_pop ?_ ?hb ?hl); (case hb => rfl); (case hl => rfl))
  | ((with_reducible refine' ae_meth ?G ?hr ?ps ?_ ?hst ?hpl ?ht); (case G => assumption); (case hr => assumption); (case ps => first | assumption | exact Gd.ps (by assumption)); (case hst => with_unfolding_all rfl); (case hpl => with_unfolding_all rfl); (case ht => with_unfolding_all rfl))
  | ((with_reducible refine' ae_meth0 ?G ?hr ?ps ?_ ?ht); (case G => assumption); (case hr => assumption); (case ps => first | assumption | exact Gd.ps (by assumption)); (case ht => with_unfolding_all rfl)))
local macro_rules | `(tactic| walk_at "nBin") => `(tactic| first
  | (with_reducible refine ae_add ?_)
  | (with_reducible refine ae_subI ?_)
  | (with_reducible refine ae_mulI ?_)
  | (with_reducible refine ae_modI ?_)
  | (with_reducible refine ae_divI ?_)
  | (with_reducible refine ae_powI ?_))
local macro_rules | `(tactic| walk_at "nSub") => `(tactic| first
  | ((with_reducible refine' ae_ixD ?_ ?hs); (case hs => exact fun _ _ => rfl))
  | ((with_reducible refine' ae_sl ?_)))
local macro_rules | `(tactic| walk_at "nE") => `(tactic| first
  | ((with_reducible refine' ae_n ?g ?_); (case g => walk_at "g"))
  | (with_reducible refine ae_str ?_)
  | ((with_reducible refine pSub ?_); walk_at "nSub")
  | ((with_reducible refine pCall ?_); walk_at "nCall")
  | (with_reducible refine ae_int ?_)
  | (with_reducible refine ae_bl ?_)
  | (with_reducible refine ae_non ?_)
  | (with_reducible refine ae_tup ?_)
  | ((with_reducible refine' ae_eq ?un ?_); (case un => walk_at "gu"))
  | ((with_reducible refine' ae_ne ?un ?_); (case un => walk_at "gu"))
  | (with_reducible refine ae_neg ?_)
  | ((with_reducible refine' ae_fld ?c ?n ?_ ?hb); (case n => assumption); (case c => assumption); (case hb => rfl))
  | ((with_reducible refine pBin ?_); walk_at "nBin"))
local macro_rules | `(tactic| walk_at "nS") => `(tactic| first
  | (with_reducible refine as_if ?_)
  | (with_reducible refine as_pass ?_)
  | ((with_reducible refine' as_aug ?nd ?sx ?g ?_); (case nd => walk_at "gn"); (case sx => walk_at "s"); (case g => walk_at "g"))
  | ((with_reducible refine' as_set ?nd ?sx ?_ ?hs); (case nd => walk_at "gn"); (case sx => walk_at "s"); (case hs => rfl))
  | ((with_reducible refine' as_par3 ?c ?nd ?sx ?sy ?sz ?xy ?xz ?yz ?hx ?hy ?hz ?g1 ?g2 ?g3 ?_ ?hw ?hs); (case hw => rfl); (case hs => rfl); (case c => walk_at "gc"); (case nd => walk_at "gn"); (case sx => walk_at "s"); (case sy => walk_at "s"); (case sz => walk_at "s"); (case xy => decide); (case xz => decide); (case yz => decide); (case hx => rfl); (case hy => rfl); (case hz => rfl); (case g1 => walk_at "m"); (case g2 => walk_at "m"); (case g3 => walk_at "m"))
  | ((with_reducible refine' as_par ?c ?nd ?sx ?sy ?xy ?hx ?hy ?g1 ?g2 ?_ ?hw ?hs); (case hw => rfl); (case hs => rfl); (case c => walk_at "gc"); (case nd => walk_at "gn"); (case sx => walk_at "s"); (case sy => walk_at "s"); (case xy => decide); (case hx => rfl); (case hy => rfl); (case g1 => walk_at "m"); (case g2 => walk_at "m"))
  | ((with_reducible refine' as_expr ?_ ?hs); (case hs => rfl))
  | ((with_reducible refine' as_dputT ?un ?_ ?hs); (case un => walk_at "gu"); (case hs => rfl))
  | ((with_reducible refine' as_lput ?_ ?hs ?hw ?h1 ?ha); (case hs => rfl); (case hw => rfl); (case h1 => rfl); (case ha => exact fun _ => rfl))
  | ((with_reducible refine' as_for ?hp ?hc ?_ ?hs); (case hp => exact Gd.own (by assumption)); (case hc => exact Gd.calm (by assumption)); (case hs => intro _; rfl))
  | ((with_reducible refine' as_rs ?Rc ?G ?_ ?hr ?hg ?hdb ?he ?hpl); (case Rc => assumption); (case G => assumption); (case hr => assumption); (case hg => with_unfolding_all rfl); (case hdb => decide); (case he => with_unfolding_all rfl); (case hpl => with_unfolding_all rfl))
  | ((with_reducible refine' as_asg ?_ ?hs ?hw ?h1); (case hw => rfl); (case hs => rfl); (case h1 => rfl)))
local macro_rules | `(tactic| walk_at "nT") => `(tactic| first
  | ((with_reducible refine' at_eq ?un ?_); (case un => walk_at "gu"))
  | ((with_reducible refine' at_ne ?un ?_); (case un => walk_at "gu"))
  | (with_reducible refine at_gt ?_)
  | (with_reducible refine at_ge ?_)
  | (with_reducible refine at_lt ?_)
  | ((with_reducible refine' at_dinA ?un ?_ ?hm); (case un => walk_at "gu"); (case hm => rfl))
  | ((with_reducible refine' at_dniA ?un ?_ ?hm); (case un => walk_at "gu"); (case hm => rfl))
  | ((with_reducible refine' at_inTup ?_ ?hm); (case hm => rfl))
  | ((with_reducible refine' at_niTup ?_ ?hm); (case hm => rfl))
  | (with_reducible refine atBool ?_))
local macro_rules | `(tactic| walk_at "nW") => `(tactic| first
  | (with_reducible refine at_and ?_)
  | (with_reducible refine at_and1 ?_)
  | (with_reducible refine at_or ?_)
  | (with_reducible refine at_or1 ?_))
local macro_rules | `(tactic| walk_at "nI") => `(tactic| first
  | (with_reducible refine ite_t ?_)
  | (with_reducible refine ite_f ?_)
  | (with_reducible refine ite_nf ?_)
  | (with_reducible refine ite_nt ?_)
  | ((with_reducible refine' ite_dt ?h ?_); (case h => first | decide +kernel | (focus ((simp only [List.length_cons, List.length_nil]); omega))))
  | ((with_reducible refine' ite_df ?h ?_); (case h => first | decide +kernel | (focus ((simp only [List.length_cons, List.length_nil]); omega))))
  | ((with_reducible refine' ite_ndt ?h ?_); (case h => decide +kernel))
  | ((with_reducible refine' ite_ndf ?h ?_); (case h => decide +kernel)))
local macro_rules | `(tactic| walk_at "nX") => `(tactic| first
  | ((with_reducible refine' par2_i ?p1 ?p2 ?_); (case p1 => walk_at "p"); (case p2 => walk_at "p"))
  | ((with_reducible refine' par3_i ?p1 ?p2 ?p3 ?_); (case p1 => walk_at "p"); (case p2 => walk_at "p"); (case p3 => walk_at "p"))
  | ((with_reducible refine' lput_i ?u ?h ?_); (case u => walk_at "u"); (case h => rfl))
  | (with_reducible refine len_i lenD_lst ?_)
  | (with_reducible refine len_i lenD_tup ?_)
  | (with_reducible refine len_i lenD_arg ?_)
  | (with_reducible refine eq_int ?_)
  | ((with_reducible refine' eq_t ?h ?_); (case h => decide +kernel))
  | ((with_reducible refine' eq_f ?h ?_); (case h => decide +kernel))
  | ((with_reducible refine' app_i ?m ?_); (case m => walk_at "m"))
  | ((with_reducible refine' app_j ?u ?hl ?_); (case u => walk_at "u"); (case hl => first | exact Nat.le_of_ble_eq_true rfl | (focus ((try simp only [List.length_append, List.length_cons, List.length_nil]); omega))))
  | ((with_reducible refine' ext_j ?u ?hl ?_); (case u => walk_at "u"); (case hl => first | exact Nat.le_of_ble_eq_true rfl | (focus ((try simp only [List.length_append, List.length_cons, List.length_nil]); omega))))
  | ((with_reducible refine' extT_j ?u ?hl ?_); (case u => walk_at "u"); (case hl => first | exact Nat.le_of_ble_eq_true rfl | (focus ((try simp only [List.length_append, List.length_cons, List.length_nil]); omega))))
  | (with_reducible refine tup_i ?_)
  | (with_reducible refine lst_i ?_)
  | ((with_reducible refine' aug_i ?p ?_); (case p => walk_at "p"))
  | (with_reducible refine two_i ?_)
  | ((with_reducible refine' ins_ref ?m ?e ?_); (case m => walk_at "m"); (case e => rfl))
  | ((with_reducible refine' ins_ins ?e ?_); (case e => rfl))
  | (with_reducible refine of_l ?_)
  | (with_reducible refine of_t ?_)
  | ((with_reducible refine' put_i ?p ?_); (case p => walk_at "p"))
  | (with_reducible refine int_i ?_)
  | (with_reducible refine bl_i ?_)
  | (with_reducible refine two_l ?_)
  | (with_reducible refine two_t ?_))
local macro_rules | `(tactic| walk_at "nA") => `(tactic| first
  | ((with_reducible refine' mt_ref ?m ?e ?_); (case m => walk_at "m"); (case e => rfl))
  | ((with_reducible refine' mt_ins ?e ?_); (case e => rfl))
  | ((with_reducible refine' and_mul ?c ?_); (case c => first | (refine Or.inr ⟨?_, ?_⟩ <;> omega) | (refine Or.inl ⟨?_, ?_⟩ <;> omega)))
  | ((with_reducible refine' and_len ?c ?_); (case c => exact Nat.le_of_ble_eq_true rfl))
  | ((with_reducible refine' and_div ?c ?_); (case c => constructor <;> omega))
  | ((with_reducible refine' and_pow ?c ?_); (case c => exact ⟨by decide, by decide, by decide⟩))
  | ((with_reducible refine' and_pos ?c ?_); (case c => omega)))
local macro_rules | `(tactic| walk_at "nG") => `(tactic| first
  | ((with_reducible refine' ag_n ?nd ?sx ?p ?_); (case nd => walk_at "gn"); (case sx => walk_at "s"); (case p => walk_at "p"))
  | ((with_reducible refine' ag_tup ?c ?_ ?l ?hn ?hst); (case c => walk_at "gc"); (case l => rfl); (case hn => rfl); (case hst => rfl))
  | ((with_reducible refine' ag_lst ?c ?_ ?l ?hn ?hst); (case c => walk_at "gc"); (case l => rfl); (case hn => rfl); (case hst => rfl)))
local macro_rules | `(tactic| walk_at "nR") => `(tactic| first
  | (with_reducible refine AddX.int ?_)
  | (with_reducible refine intsD_mk ?_)
  | ((with_reducible refine' inD_tup ?h ?_); (case h => rfl))
  | (with_reducible refine loop_nil ?_)
  | (with_reducible refine loop_cons ?_)
  | ((with_reducible refine' loop_nil' ?e ?_); (case e => rfl))
  | ((with_reducible refine' loop_cons' ?e ?_); (case e => rfl))
  | ((with_reducible refine' ixD_tup ?h ?_); (case h => rfl))
  | ((with_reducible refine' ixD_lst ?h ?_); (case h => rfl))
  | ((with_reducible refine' ixD_ref ?m ?h ?_); (case m => walk_at "m"); (case h => rfl))
  | (with_reducible refine slD_tup ?_)
  | (with_reducible refine slD_lst ?_)
  | (with_reducible refine slD_arg ?_)
  | (with_reducible refine ao_some ?_)
  | (with_reducible refine ao_none ?_))
local macro_rules | `(tactic| walk_at "n") => `(tactic| first
  | ((with_reducible refine pAE ?_); walk_at "nE")
  | ((with_reducible refine' aa_cons ?_ ?hs); (case hs => rfl))
  | (with_reducible refine aa_nil ?_)
  | ((with_reducible refine pEx ?_); walk_at "nX")
  | ((with_reducible refine pIte ?_); walk_at "nI")
  | (with_reducible refine ab_cons ?_)
  | (with_reducible refine ab_nil ?_)
  | ((with_reducible refine pAS ?_); walk_at "nS")
  | ((with_reducible refine pAT ?_); walk_at "nT")
  | ((with_reducible refine pAW ?_); walk_at "nW")
  | ((with_reducible refine pAnd ?_); walk_at "nA")
  | ((with_reducible refine pAG ?_); walk_at "nG")
  | ((with_reducible refine' ags_cons ?_ ?hs); (case hs => rfl))
  | (with_reducible refine ags_nil ?_)
  | walk_at "nR")
local macro_rules | `(tactic| walk_at "k") => `(tactic| first | walk_at "n" | (with_reducible refine as_ret ?_))
local macro_rules | `(tactic| walk_at "ns") => `(tactic| repeat walk_at "n")
local macro_rules | `(tactic| walk_at "l") => `(tactic| repeat (first | walk_at "k" | (with_reducible refine ae_lst ?_) | ((with_reducible refine' ae_lstOf ?m ?_ ?g ?he ?hp); (case m => exact Lib.lst (by assumption)); (case g => rfl); (case he => rfl); (case hp => rfl))))
local macro_rules | `(tactic| walk_at "ks") => `(tactic| repeat walk_at "k")
local macro_rules | `(tactic| walk_at "r") => `(tactic| dsimp only [startR])
local macro_rules | `(tactic| walk_at "v") => `(tactic| first | exact Or.inl rfl | exact Or.inr (Or.inl rfl) | exact Or.inr (Or.inr rfl))
local macro_rules | `(tactic| walk_at "b") => `(tactic| repeat (first
  | exact RbOk.nil
  | (apply RbOk.keep; (focus (refine ⟨?_, ?_, ?_⟩; (focus walk_at "v"); (focus decide); (focus decide))); (focus decide))
  | apply RbOk.drop))
local macro_rules | `(tactic| walk_at "sub") => `(tactic| repeat (first | (with_reducible exact SubR.nil) | (with_reducible apply SubR.same) | (with_reducible apply SubR.skip)))
local macro_rules | `(tactic| walk_at "a") => `(tactic| repeat (first
  | ((with_reducible refine' ag_n ?nd ?sx ?p ?_); (case nd => walk_at "gn"); (case sx => walk_at "s"); (case p => walk_at "p"))
  | ((with_reducible refine' ag_tup ?c ?_ ?l ?hn ?hst); (case c => walk_at "gc"); (case l => rfl); (case hn => rfl); (case hst => rfl))
  | ((with_reducible refine' ag_lst ?c ?_ ?l ?hn ?hst); (case c => walk_at "gc"); (case l => rfl); (case hn => rfl); (case hst => rfl))
  | ((with_reducible refine' ags_cons ?_ ?hs); (case hs => rfl))
  | (with_reducible refine ags_nil ?_)))
local macro_rules | `(tactic| walk_at "zr") => `(tactic| repeat (first | (with_reducible exact RlR.nil) | ((with_reducible apply RlR.cons); (focus first | (with_reducible exact RlD.here) | (exact RlD.same))) | (with_reducible apply RlR.skip)))
local macro_rules | `(tactic| walk_at "zo") => `(tactic| repeat (first | (with_reducible exact RlO.nil) | ((with_reducible apply RlO.cons); (focus (exact RlM.same)))))
local macro_rules | `(tactic| walk_at "zt") => `(tactic| repeat (first | (with_reducible exact Take.head) | (with_reducible apply Take.tail)))
local macro_rules | `(tactic| walk_at "z") => `(tactic| (first | (with_reducible refine' as_still Take.head ?ro ?rr ?_) | (with_reducible refine' ab_still Take.head ?ro ?rr ?_)); (case ro => walk_at "zo"); (case rr => walk_at "zr"))
local macro_rules | `(tactic| walk_at "x") => `(tactic| (with_reducible refine' ae_extT ?_ ?hb ?hf ?hl ?hs ?hp); (case hb => rfl); (case hf => rfl); (case hl => rfl); (case hs => rfl); (case hp => rfl))
local macro_rules | `(tactic| walk_at "e") => `(tactic| (with_reducible refine' ae_ext ?_ ?hb ?hf ?hl ?hs ?hp); (case hb => rfl); (case hf => rfl); (case hl => rfl); (case hs => rfl); (case hp => rfl))
local macro_rules | `(tactic| walk_at "cb") => `(tactic| (with_reducible refine comp_cons ?_ ?_); (focus (exact Nat.le_of_ble_eq_true rfl)); (intro Xb N' bk); (obtain ⟨⟨s0, H0, C0, cl0, fp0, xe0, eb⟩, hex, hps⟩ := bk); (subst eb); (have hps := hps rfl))
local macro_rules | `(tactic| walk_at "sb") => `(tactic| (with_reducible refine and_sub ?_ ?_); (focus (walk_at "sub")); (with_reducible refine ifs_nil ?_); (with_reducible refine ite_t ?_))
/-! P6: a program, drawn. -/
open PySem.PyData (strOk)
abbrev sProg : Stmt := top 29
def fldsD : D := .tup [.tup [.str "x", .tup [.str "num"]], .tup [.str "y", .tup [.str "truth"]]]
def recsD : D := .tup [.tup [.str "pair", fldsD], .tup [.str "twin", fldsD]]
def takesM : List D := [.tup [.str "a", Kd.enc .num], .tup [.str "b", Kd.enc .truth], .tup [.str "r", Kd.enc (.row 2)], .tup [.str "p", Kd.enc (.named "pair")]]
def takesG : List D := [.tup [.str "p", Kd.enc (.named "pair")], .tup [.str "a", Kd.enc .num]]
def fnMD (b : Rws) : D := .tup [.str "fun", .str "main", .tup takesM, Kd.enc .num, .tup (Rws.encs b)]
def fnGD (b : Rws) : D := .tup [.str "fun", .str "g", .tup takesG, Kd.enc (.row 2), .tup (Rws.encs b)]
def progD (b1 b2 : Rws) : D := .tup [recsD, .tup [fnMD b1, fnGD b2]]
def GdP (b : Rws) : Prop := WfS 7 b ∧ b.sz ≤ 3000
def spProg : ASp := fun ds O Q _ => ∃ p m, ds = [.ref p] ∧ O = [(p, m)] ∧ BoxM (Kd.enc .num) m ∧ ∀ b1 b2 m', GdP b1 → GdP b2 → Q (progD b1 b2) [(p, m')]
section
variable {P : Program} {w : World} {K : PySem.W.Frag} {mg : Str → Option Value} {base : Heap} {f : Addr} {fd : FuncData} {k : Nat}
def spSm : ASp := fun ds O Q E => spRows 2 ds O Q E ∨ spRows 1 ds O Q E
theorem c_sm2 {N : Ent} {Q : D → Os → Prop} {O : Os} {p : Addr} {m : MO} {kn : Kd} (hm : BoxM kn.enc m) (hk : K5 kn) (h : ∀ rs m', GdS 2 rs → BoxM kn.enc m' → Q (.tup (Rws.encs rs)) ((p, m') :: O)) : CallS N spSm [.ref p, .int 2] ((p, m) :: O) Q :=
  calls_1 (.inl ⟨p, m, kn, 2, rfl, rfl, hm, hk, rfl, fun i m' a b => ⟨_, pk_1, h i m' a b⟩⟩)
theorem c_sm1 {N : Ent} {Q : D → Os → Prop} {O : Os} {p t : Addr} {m n : MO} {kn : Kd} (hm : BoxM kn.enc m) (hk : K5 kn) (h : ∀ rs m', GdS 1 rs → BoxM kn.enc m' → Q (.tup (Rws.encs rs)) ((t, n) :: (p, m') :: O)) : CallS N spSm [.ref p, .int 1] ((t, n) :: (p, m) :: O) Q :=
  calls_2 (.inr ⟨p, m, kn, 1, rfl, rfl, hm, hk, rfl, fun i m' a b => ⟨_, pk_2, h i m' a b⟩⟩)
theorem rw_sz : ∀ (r : Rw), 1 ≤ r.sz
  | .mk _ _ _ => by simp only [Rw.sz]; omega
theorem len_sz : ∀ (rs : Rws), rs.len ≤ rs.sz
  | .nil => Nat.le_refl _
  | .cons r rs => by have := len_sz rs; have := rw_sz r; simp only [Rws.len, Rws.sz]; omega
def exI (i : Int) : Ex := .mk (.num i) []
def exB (i : Bool) : Ex := .mk (.truth i) []
theorem wI {n : Nat} {i : Int} : Wf (n + 1) (exI i) := .mk rfl fun _ z => nomatch z
theorem wB {n : Nat} {i : Bool} : Wf (n + 1) (exB i) := .mk rfl fun _ z => nomatch z
theorem wN {n : Nat} {s : Str} (h : strOk s = true) : Wf (n + 1) (exN s) := .mk ⟨rfl, h⟩ fun _ z => nomatch z
theorem wf2 {n : Nat} {w : EW} {a b : Ex} (h : w.ok 2) (ha : Wf n a) (hb : Wf n b) : Wf (n + 1) (.mk w [a, b]) := .mk h fun p hp => by
  simp only [List.mem_cons, List.not_mem_nil, or_false] at hp
  rcases hp with rfl | rfl
  · exact ha
  · exact hb
theorem wl {n : Nat} {x : Str} {e : Ex} (h : strOk x = true) (he : Wf n e) : WfR (n + 1) (.mk (.let_ x) [e] .nil) := .mk ⟨rfl, rfl, h⟩ (fun z hz => by rw [List.mem_singleton.mp hz]; exact he) .nil
def firstR : Rws := .cons (.mk (.let_ "c") [exI 1] .nil) (.cons (.mk (.let_ "q") [.mk (.new "twin") [exI 1, exB true]] .nil) .nil)
def gR : Rws := .cons (.mk (.let_ "b") [exB false] .nil) (.cons (.mk (.let_ "r") [.mk .row [exN "a", exI 2]] .nil) .nil)
theorem firstR_wf : WfS 7 firstR := .cons (wl (by decide +kernel) wI) (.cons (wl (by decide +kernel) (wf2 ⟨by decide, .inr rfl⟩ wI wB)) .nil)
theorem gR_wf : WfS 7 gR := .cons (wl (by decide +kernel) wB) (.cons (wl (by decide +kernel) (wf2 (.inl rfl) (wN (by decide +kernel)) wI)) .nil)
theorem okProg (B : Lib mg) (g1 : FnA P w K mg base k "_law_some_rows" spSm) (g2 : FnA P w K mg base k "_law_grown" spGr) (Fn : Fun K "_law_program" "_law_program" sProg f fd) : FnOk P w K mg base (L2.CX P w) (k + 1) f fd ["_law_box_here"] (lift K spProg) := by
  refine gate ?_
  simp (disch := with_unfolding_all (
      refine fnG (Ns := ["_law_box_here", "_law_num", "_law_truth", "_law_fields", "_law_first", "_law_takes", "_law_functions", "_law_rows"]) Fn rfl rfl ⟨rfl, rfl, rfl, by decide +kernel, rfl, by decide +kernel, by decide +kernel⟩ (fun ds O QA EA h => ?_) (by decide) (fun cdv A outer s H E hr T ds O QA EA F h G => ?_)
      · obtain ⟨p, m, e, _⟩ := h
        rw [e]; rfl
      obtain ⟨p, m, e, eO, hm, q⟩ := h
      subst e eO
      walk_at "r"
      walk_at "ks"
      refine ae_lstm ?_
      walk_at "ks"
      refine c_sm2 hm .num fun rs1 m D1 hm => ?_
      have hl1 : (Rws.encs rs1).length ≤ 2400 := by
        have := len_sz rs1; have := D1.2; rw [rws_len]
        have e : szR 2 = 1159 := by decide
        omega
      refine .tup (by show 2 + (Rws.encs rs1).length ≤ 100000; omega) ?_
      walk_at "ks"
      refine c_gr2 (kn := .num) hm .num fun e1' m W1 S1 hm => ?_
      walk_at "ks"
      refine .tup (by rw [List.length_append]; show 2 + (Rws.encs rs1).length + 1 ≤ 100000; omega) ?_
      walk_at "ks"
      intro t
      walk_at "ks"
      refine .tup (by decide) ?_
      walk_at "ks"
      obtain ⟨a, b, c, d, em, hdd⟩ := hm
      subst em
      walk_at "ks"
      refine c_sm1 (kn := .row 2) ⟨a, b, c, d, rfl, hdd⟩ .row fun rs2 m D2 hm => ?_
      have hl2 : (Rws.encs rs2).length ≤ 2400 := by
        have := len_sz rs2; have := D2.2; rw [rws_len]
        have e : szR 1 = 193 := by decide
        omega
      refine .tup (by show 4 + (Rws.encs rs2).length ≤ 100000; omega) ?_
      walk_at "ks"
      refine .tup (by rw [List.length_append]; show 4 + (Rws.encs rs2).length + 1 ≤ 100000; omega) ?_
      walk_at "ns"
      walk_at "z"
      walk_at "ks"
      walk_at "ks"
      refine ⟨_, .inl rfl, ?_⟩
      walk_at "ks"
      have q' : ∀ x1 x2 m', (∃ b1, x1 = Rws.encs b1 ∧ GdP b1) → (∃ b2, x2 = Rws.encs b2 ∧ GdP b2) → QA (.tup [recsD, .tup [.tup [.str "fun", .str "main", .tup takesM, Kd.enc .num, .tup x1], .tup [.str "fun", .str "g", .tup takesG, Kd.enc (.row 2), .tup x2]]]) [(p, m')] := by
        rintro x1 x2 m' ⟨b1, rfl, h1⟩ ⟨b2, rfl, h2⟩
        exact q b1 b2 m' h1 h2
      have e2 : szR 2 = 1159 := by decide
      have e1 : szR 1 = 193 := by decide
      have z1 := D1.2
      have z2 := D2.2
      refine q' _ _ _ ⟨(firstR.app rs1).app (.cons (.mk .ret [e1'] .nil) .nil), ?_, app_wf (app_wf firstR_wf D1.1) (.cons (.mk ⟨rfl, rfl⟩ (fun z hz => by rw [List.mem_singleton.mp hz]; exact W1.le (by decide)) .nil) .nil), ?_⟩ ⟨((gR.app firstR).app rs2).app (.cons (.mk .ret [exN "r"] .nil) .nil), ?_, app_wf (app_wf (app_wf gR_wf firstR_wf) (D2.1.le (by decide))) (.cons (.mk ⟨rfl, rfl⟩ (fun z hz => by rw [List.mem_singleton.mp hz]; exact .mk ⟨rfl, by decide +kernel⟩ (fun z hz => nomatch hz)) .nil) .nil), ?_⟩
      · rw [app_encs, app_encs]; rfl
      · rw [app_sz, app_sz]
        have z : firstR.sz = 6 := by decide
        simp only [z, Rws.sz, Rw.sz, Ex.szs, Bds.sz]
        omega
      · rw [app_encs, app_encs, app_encs]; rfl
      · rw [app_sz, app_sz, app_sz]
        have z : firstR.sz = 6 := by decide
        have z' : gR.sz = 6 := by decide
        simp only [z, z', Rws.sz, Rw.sz, Ex.szs, Bds.sz, exN, Ex.sz]
        omega
    )) only [↓gate_rule]
end
/-! P7: the parts of a node, the count of nodes. -/
open PySem.PyData (strOk)
abbrev sPartsRow : Stmt := top 7
abbrev sPartsIn : Stmt := top 8
abbrev sCounted : Stmt := top 9
def spPartsRow : ASp := fun ds O Q _ => ∃ d ps, ds = [d] ∧ O = [] ∧ VwR d ps ∧ ps.length ≤ 10000 ∧ Q (.lst ps) []
def spPartsIn : ASp := fun ds O Q _ => ∃ d ps, ds = [d] ∧ O = [] ∧ Vw d ps ∧ ps.length ≤ 10000 ∧ Q (.lst ps) []
section
variable {P : Program} {w : World} {K : PySem.W.Frag} {mg : Str → Option Value} {base : Heap} {f : Addr} {fd : FuncData} {k : Nat}
theorem okPartsRow (B : Lib mg) (Fn : Fun K "parts_of_row" "parts_of_row" sPartsRow f fd) : FnOk P w K mg base (L2.CX P w) (k + 1) f fd ["row"] (lift K spPartsRow) := by
  refine gate ?_
  simp (disch := with_unfolding_all (
      refine fnG (Ns := ["row", "found", "name", "rows"]) Fn rfl rfl ⟨rfl, rfl, rfl, by decide +kernel, rfl, by decide +kernel, by decide +kernel⟩ (fun ds O QA EA h => ?_) (by decide) (fun cdv A outer s H E hr T ds O QA EA F h G => ?_)
      · obtain ⟨d, ps, e, _⟩ := h
        rw [e]; rfl
      obtain ⟨d, ps, e, eO, hv, hl, q⟩ := h
      subst e eO
      cases hv with
      | if_ =>
        simp only [List.cons_append, List.length_cons, List.length_append] at hl
        walk_at "r"
        walk_at "ks"
        refine ae_lstm ?_
        walk_at "ks"
        intro t
        walk_at "ks"
        refine ai_tup ?_
        walk_at "ks"
        walk_at "x"
        walk_at "ns"
        walk_at "x"
        walk_at "ns"
        walk_at "z"
        walk_at "ks"
        exact q
      | while_ =>
        simp only [List.cons_append, List.length_cons, List.length_append] at hl
        walk_at "r"
        walk_at "ks"
        refine ae_lstm ?_
        walk_at "ks"
        intro t
        walk_at "ks"
        refine ai_tup ?_
        walk_at "ks"
        walk_at "x"
        walk_at "ns"
        walk_at "z"
        walk_at "ks"
        exact q
      | try1 =>
        simp only [List.length_append] at hl
        walk_at "r"
        walk_at "ks"
        refine ae_lstOfm B.lst ?_ rfl
        walk_at "ks"
        intro t
        walk_at "ks"
        refine ai_tup ?_
        walk_at "ks"
        refine ag_tup G.calm ?_ rfl rfl rfl
        walk_at "ks"
        walk_at "x"
        walk_at "ns"
        walk_at "z"
        walk_at "ks"
        exact q
      | try2 =>
        simp only [List.length_append] at hl
        walk_at "r"
        walk_at "ks"
        refine ae_lstOfm B.lst ?_ rfl
        walk_at "ks"
        intro t
        walk_at "ks"
        refine ai_tup ?_
        walk_at "ks"
        refine ag_tup G.calm ?_ rfl rfl rfl
        walk_at "ks"
        walk_at "x"
        walk_at "ns"
        refine ag_tup G.calm ?_ rfl rfl rfl
        walk_at "ks"
        walk_at "x"
        walk_at "ns"
        walk_at "z"
        walk_at "ks"
        exact q
    )) only [↓gate_rule]
theorem okPartsIn (B : Lib mg) (g1 : FnA P w K mg base k "parts_of_row" spPartsRow) (Fn : Fun K "parts_in" "parts_in" sPartsIn f fd) : FnOk P w K mg base (L2.CX P w) (k + 1) f fd ["node"] (lift K spPartsIn) := by
  refine gate ?_
  simp (disch := with_unfolding_all (
      refine fnG (Ns := ["node", "word"]) Fn rfl rfl ⟨rfl, rfl, rfl, by decide +kernel, rfl, by decide +kernel, by decide +kernel⟩ (fun ds O QA EA h => ?_) (by decide) (fun cdv A outer s H E hr T ds O QA EA F h G => ?_)
      · obtain ⟨d, ps, e, _⟩ := h
        rw [e]; rfl
      obtain ⟨d, ps, e, eO, hv, hl, q⟩ := h
      subst e eO
      cases hv with
      | r h =>
        have hh := h
        cases h with
        | if_ =>
          walk_at "r"
          walk_at "l"
          exact calls_0 ⟨_, _, rfl, rfl, hh, hl, _, pk_nil, q⟩
        | while_ =>
          walk_at "r"
          walk_at "l"
          exact calls_0 ⟨_, _, rfl, rfl, hh, hl, _, pk_nil, q⟩
        | try1 =>
          walk_at "r"
          walk_at "l"
          exact calls_0 ⟨_, _, rfl, rfl, hh, hl, _, pk_nil, q⟩
        | try2 =>
          walk_at "r"
          walk_at "l"
          exact calls_0 ⟨_, _, rfl, rfl, hh, hl, _, pk_nil, q⟩
      | fn =>
        walk_at "r"
        walk_at "l"
        exact q
      | _ =>
        walk_at "r"
        walk_at "l"
        exact q
    )) only [↓gate_rule]
end
/-! P8: the count of nodes. -/
open PySem.PyData (strOk)
def spCounted : ASp := fun ds O Q _ => ∃ d n, ds = [d] ∧ O = [] ∧ Sz d n ∧ n ≤ 10000 ∧ Q (.int n) []
section
variable {P : Program} {w : World} {K : PySem.W.Frag} {mg : Str → Option Value} {base : Heap} {f : Addr} {fd : FuncData} {k : Nat}
theorem okCounted (g1 : FnA P w K mg base k "parts_in" spPartsIn) (Fn : Fun K "counted" "counted" sCounted f fd) : FnOk P w K mg base (L2.CX P w) (k + 1) f fd ["node"] (lift K spCounted) := by
  refine gate ?_
  simp (disch := with_unfolding_all (
      refine fnG (Ns := ["node", "many", "to_come"]) Fn rfl rfl ⟨rfl, rfl, rfl, by decide +kernel, rfl, by decide +kernel, by decide +kernel⟩ (fun ds O QA EA h => ?_) (by decide) (fun cdv A outer s H E hr T ds O QA EA F h G => ?_)
      · obtain ⟨d, n, e, _⟩ := h
        rw [e]; rfl
      obtain ⟨d, n, e, eO, hs, hn, q⟩ := h
      subst e eO
      walk_at "r"
      walk_at "ks"
      refine ae_lstm ?_
      walk_at "ks"
      intro t
      walk_at "ks"
      refine as_while (fun j R O => ∃ (ds : List D) (m : Int), SzL ds j ∧ 0 ≤ m ∧ m + j = n ∧ R = ([("node", some d), ("many", some (.int m)), ("to_come", some (.ref t))] : List (Str × Option D)) ∧ O = [(t, .lst ds)]) n G.own ⟨[d], 0, by have := SzL.cons hs .nil; rwa [Nat.add_zero] at this, by omega, by omega, rfl, rfl⟩ (fun j R O h => ?_)
      obtain ⟨ds, m, hz, hm0, hm, eR, eO⟩ := h
      subst eR eO
      refine at_neNil G.un ?_
      walk_at "l"
      refine ⟨t, ds, 63, rfl, rfl, List.mem_cons_self, .lst hz.ok, by decide, ?_⟩
      cases hd : ds.isEmpty with
      | true =>
        have e : ds = [] := List.isEmpty_iff.mp hd
        subst e
        cases hz
        have : m = n := by omega
        subst this
        refine ite_f ?_
        walk_at "n"
        with_reducible refine as_retL ?_
        walk_at "ks"
        exact ⟨_, .cons _ (.refl _), q⟩
      | false =>
        obtain ⟨x, a, b, e1, e2, e3, e4⟩ := hz.last (fun z => by rw [z] at hd; cases hd)
        cases e3 with
        | @mk _ ps c hv hok hps =>
        have := hps.len
        have := e2.len
        refine ite_t ?_
        walk_at "ks"
        walk_at "e"
        walk_at "ks"
        refine pop_i .head e1 ?_
        walk_at "ks"
        refine calls_0 ⟨x, ps, rfl, rfl, hv, by omega, _, pk_nil, ?_⟩
        have hdl : ds.dropLast.length ≤ a := this
        walk_at "ks"
        exact ⟨a + c, by omega, ds.dropLast ++ ps, m + 1, e2.app hps, by omega, by omega, rfl, rfl⟩
    )) only [↓gate_rule]
end
/-! M3: what the looking computes, plainly. -/
open PySem.PyData (strOk)
instance : DecidableEq Kd
  | .num, .num => isTrue rfl
  | .truth, .truth => isTrue rfl
  | .row n, .row m => if h : n = m then isTrue (h ▸ rfl) else isFalse fun z => h (Kd.row.inj z)
  | .named n, .named m => if h : n = m then isTrue (h ▸ rfl) else isFalse fun z => h (Kd.named.inj z)
  | .num, .truth => isFalse fun z => nomatch z
  | .num, .row _ => isFalse fun z => nomatch z
  | .num, .named _ => isFalse fun z => nomatch z
  | .truth, .num => isFalse fun z => nomatch z
  | .truth, .row _ => isFalse fun z => nomatch z
  | .truth, .named _ => isFalse fun z => nomatch z
  | .row _, .num => isFalse fun z => nomatch z
  | .row _, .truth => isFalse fun z => nomatch z
  | .row _, .named _ => isFalse fun z => nomatch z
  | .named _, .num => isFalse fun z => nomatch z
  | .named _, .truth => isFalse fun z => nomatch z
  | .named _, .row _ => isFalse fun z => nomatch z
/-- what is found wrong -/
inductive Er where
  | name (s : Str) (p : Nat) | twice (s : Str) (p : Nat) | fit (a b : Nat)
/-- the kinds that can come up -/
inductive K6 : Kd → Prop
  | num : K6 .num
  | truth : K6 .truth
  | row2 : K6 (.row 2)
  | row3 : K6 (.row 3)
  | pair : K6 (.named "pair")
  | twin : K6 (.named "twin")
theorem kd_eq {a b : Kd} (ha : K6 a) (hb : K6 b) : eqP a.enc b.enc = some (decide (a = b)) := by
  cases ha <;> cases hb <;> decide +kernel
def recD : D := .tup [.str "record", .tup [Kd.enc .num, Kd.enc .truth]]
def vk : Kd → D
  | .named _ => recD
  | k => k.enc
abbrev Nm := List (Str × Kd × Nat)
def encNm (ns : Nm) : List (Key × D) := ns.map fun x => (.inr x.1, .tup [x.2.1.enc, .int (x.2.2 : Nat)])
def lookN : Nm → Str → Option (Kd × Nat)
  | [], _ => none
  | x :: r, s => if x.1 = s then some x.2 else lookN r s
structure As where
  told : D
  kd : Kd
  at_ : Nat
abbrev As.enc (a : As) : D := .tup [a.told, a.kd.enc, .int (a.at_ : Nat)]
def needs : List As → List Kd → Nat → Option Er
  | a :: as, k :: ks, p => if a.kd = k then needs as ks p else some (.fit p a.at_)
  | _, _, _ => none
def dueK : List As → Kd → Nat → Option Er
  | a :: as, k, p => if a.kd = k then dueK as k p else some (.fit p a.at_)
  | [], _, _ => none
def fieldK (f : Str) (p : Nat) : Except Er (Nat × Kd) :=
  if f = "x" then .ok (0, .num) else if f = "y" then .ok (1, .truth) else .error (.name f p)
def op2 (s : Str) : Str :=
  if s = "+" then "add" else if s = "-" then "sub" else if s = "*" then "mul" else if s = "/" then "div" else if s = "<" then "less" else if s = "=" then "same" else s
def thenE {α : Type} (o : Option Er) (a : α) : Except Er α := match o with
  | some e => .error e
  | none => .ok a
structure Rk where
  op : Str
  extra : D
  kd : Kd
/-- the places of the two functions -/
structure Hd where
  pm : Nat
  pg : Nat
def wantC (h : Hd) (f : Str) : Option (List Kd × Kd × Nat) :=
  if f = "main" then some ([.num, .truth, .row 2, .named "pair"], .num, h.pm) else if f = "g" then some ([.named "pair", .num], .row 2, h.pg) else none
def wantN (c : Str) : List Kd × Kd × Nat := ([.num, .truth], .named c, if c = "pair" then 0 else 1)
def called (as : List As) (w : List Kd × Kd × Nat) (p : Nat) : Except Er Rk :=
  if as.length = w.1.length then thenE (needs as w.1 p) ⟨"make", .non, w.2.1⟩ else .error (.fit w.2.2 p)
def isRow : Kd → Bool
  | .row _ => true
  | _ => false
def isNamed : Kd → Bool
  | .named _ => true
  | _ => false
def reckon (h : Hd) (p : Nat) : EW → List As → Except Er Rk
  | .call f, as => match wantC h f with
    | none => .error (.name f p)
    | some w => called as w p
  | .new c, as => called as (wantN c) p
  | .field f, a :: _ => if isNamed a.kd then (fieldK f p).bind fun x => .ok ⟨"get", .int (x.1 : Nat), x.2⟩ else .error (.fit p a.at_)
  | .index, a :: b :: _ => if isRow a.kd then thenE (dueK [b] .num p) ⟨"pick", .non, .num⟩ else .error (.fit p a.at_)
  | .row, as => thenE (dueK as .num p) ⟨"make", .non, .row as.length⟩
  | .one o, as => if o = "not" then thenE (dueK as .truth p) ⟨"not", .non, .truth⟩ else thenE (dueK as .num p) ⟨"neg", .non, .num⟩
  | .two o, as => if o = "and" ∨ o = "or" then thenE (dueK as .truth p) ⟨o, .non, .truth⟩ else thenE (dueK as .num p) ⟨op2 o, .non, if o = "<" ∨ o = "=" then .truth else .num⟩
  | _, _ => .error (.fit 0 0)
def finD (w : EW) (as : List As) (r : Rk) : D := match w with
  | .call f => .tup [.str "call", .str f, .tup (as.map As.told), vk r.kd]
  | _ => .tup [.str "op", .str r.op, if r.op = "make" then vk r.kd else r.extra, .tup (as.map As.told), vk r.kd]
mutual
def Ex.ask (h : Hd) (ns : Nm) : Ex → Nat → Except Er As
  | .mk (.num n) _, p => .ok ⟨.tup [.str "const", .tup [.str "num", .int n]], .num, p⟩
  | .mk (.truth n) _, p => .ok ⟨.tup [.str "const", .tup [.str "truth", .bl n]], .truth, p⟩
  | .mk (.name s) _, p => match lookN ns s with
    | none => .error (.name s p)
    | some x => .ok ⟨.tup [.str "local", .str s, vk x.1], x.1, p⟩
  | .mk w ps, p => (Ex.asks h ns ps (p + 1)).bind fun as => (reckon h p w as).bind fun r => .ok ⟨finD w as r, r.kd, p⟩
def Ex.asks (h : Hd) (ns : Nm) : List Ex → Nat → Except Er (List As)
  | [], _ => .ok []
  | e :: es, p => (e.ask h ns p).bind fun a => (Ex.asks h ns es (p + e.sz)).bind fun as => .ok (a :: as)
end
def rowOwn (gives : Kd) (p : Nat) : RW → List As → List (List D) → Nm → Except Er (D × Nm)
  | .let_ x, a :: _, _, ns => match lookN ns x with
    | some _ => .error (.twice x p)
    | none => .ok (.tup [.str "let", .str x, a.told], ns ++ [(x, a.kd, p)])
  | .set x, as, _, ns => match lookN ns x with
    | none => .error (.name x p)
    | some k => thenE (dueK as k.1 p) (.tup (.str "set" :: .str x :: as.map As.told), ns)
  | .setat x, as, _, ns => match lookN ns x with
    | none => .error (.name x p)
    | some k => if isRow k.1 then thenE (dueK as .num p) (.tup [.str "set", .str x, .tup [.str "op", .str "lay", .non, .tup (.tup [.str "local", .str x, vk k.1] :: as.map As.told), vk k.1]], ns) else .error (.fit p k.2)
  | .setf x f, as, _, ns => match lookN ns x with
    | none => .error (.name x p)
    | some k => if isNamed k.1 then (fieldK f p).bind fun i => thenE (dueK as i.2 p) (.tup [.str "set", .str x, .tup [.str "op", .str "put", .int (i.1 : Nat), .tup (.tup [.str "local", .str x, vk k.1] :: as.map As.told), vk k.1]], ns) else .error (.fit p k.2)
  | .if_, as, bs, ns => thenE (dueK as .truth p) (.tup (.str "if" :: (as.map As.told ++ bs.map D.tup)), ns)
  | .while_, as, bs, ns => thenE (dueK as .truth p) (.tup (.str "while" :: (as.map As.told ++ bs.map D.tup)), ns)
  | .log, a :: _, _, ns => if a.kd = .num ∨ a.kd = .truth then .ok (.tup [.str "log", a.told], ns) else .error (.fit p a.at_)
  | .do_, as, _, ns => .ok (.tup (.str "do" :: as.map As.told), ns)
  | .ret, as, _, ns => thenE (dueK as gives p) (.tup (.str "return" :: as.map As.told), ns)
  | .raise s, _, _, ns => .ok (.tup [.str "raise", .str s], ns)
  | .try_ fs, _, bs, ns => .ok (tryD fs (bs.map D.tup), ns)
  | _, _, _, _ => .error (.fit 0 0)
mutual
def Rw.look (h : Hd) (gives : Kd) : Rw → Nat → Nm → Except Er (D × Nm)
  | .mk w es bs, p, ns => (Ex.asks h ns es (p + 1)).bind fun as => (Bds.look h gives bs (p + 1 + Ex.szs es) ns).bind fun ds => rowOwn gives p w as ds ns
def Rws.look (h : Hd) (gives : Kd) : Rws → Nat → Nm → Except Er (List D × Nm)
  | .nil, _, ns => .ok ([], ns)
  | .cons r rs, p, ns => (r.look h gives p ns).bind fun x => (Rws.look h gives rs (p + r.sz) x.2).bind fun y => .ok (x.1 :: y.1, y.2)
def Bds.look (h : Hd) (gives : Kd) : Bds → Nat → Nm → Except Er (List (List D))
  | .nil, _, _ => .ok []
  | .cons b bs, p, ns => (b.look h gives p ns).bind fun x => (Bds.look h gives bs (p + b.sz) ns).bind fun y => .ok (x.1 :: y)
end
end K12
/-! A22: raising, by a bundle. -/
namespace K12
open PySem PySem.Spec PyProof.Rows L2
/-- a class of errors with two fields, by its name -/
structure RaiseC (P : Program) (w : World) (K : PySem.W.Frag) (mg : Str → Option Value) (base : Heap) (k : Nat) (x : Str) (C : Addr) (f1 f2 : Str) : Prop where
  T : OexC K C
  to : ∃ fI fd ps, PySem.W.findIn K (.ref C) "__init__" = some (some (.ref fI)) ∧ PySem.W.typeIn K (.ref fI) = some (.type "function") ∧
    FnOk P w K mg base (L2.CX P w) k fI fd ps (initSp C f1 f2) ∧ Binds K fd ps [] ∧ mg x = some (.ref C)
theorem RaiseC.mono {P : Program} {w : World} {K : PySem.W.Frag} {mg : Str → Option Value} {base : Heap} {j k : Nat} {x : Str} {C : Addr} {f1 f2 : Str} (h : RaiseC P w K mg base j x C f1 f2) (l : j ≤ k) : RaiseC P w K mg base k x C f1 f2 := by
  obtain ⟨fI, fd, ps, h1, h2, h3, h4⟩ := h.to
  exact ⟨h.T, fI, fd, ps, h1, h2, h3.mono l, h4⟩
section
variable {X : Cx} {N : Ent} {R : Rho} {O : Os} {E : AEnds} {e : Expr} {es : List Expr} {p pos pn : Pos} {x f1 f2 : Str} {C : Addr} {k : Nat}
theorem as_rs (Rc : RaiseC X.prog X.w X.K X.mg X.base k x C f1 f2) (G : Gd X N) (h : AA X N (e :: es) R O fun ds O1 => ∃ d1 d2, ds = [d1, d2] ∧ N.EX C [(f2, d2), (f1, d1)] O1) (hr : Room (k + 1) X.A) (hg : Gl X x)
    (hdb : (x == ("__debug__" : Str)) = false) (he : starEach (e :: es) X.env = (false, eval e X.env) :: starEach es X.env) (hpl : (backTo p (starEach es X.env)).any (·.1) = false) :
    AS X N (.Raise (some (.Call (.Name x pn) (e :: es) [] p)) none pos) R O E := by
  obtain ⟨fI, fd, ps, h1, h2, h3, h4, h5⟩ := Rc.to
  exact as_raise2 Rc.T h1 h2 h3 hr h4 hg h5 G.calm G.tk h hdb he hpl
theorem two_i {d1 d2 : D} {P : D → D → Prop} (h : P d1 d2) : ∃ a b, [d1, d2] = [a, b] ∧ P a b := ⟨d1, d2, rfl, h⟩
end
section
variable {O O3 : Os} {a C : Addr} {fs : List (Str × D)} {f : Str} {d : D} {P : D → Prop} {R : Rho}
theorem ins_ref (m : (a, MO.ins C fs) ∈ O) (e : getA fs f = some d) (q : P d) : ∃ fs d', insD O (.ref a) C fs ∧ getA fs f = some d' ∧ P d' := ⟨fs, d, .inr ⟨a, rfl, m⟩, e, q⟩
theorem ins_ins (e : getA fs f = some d) (q : P d) : ∃ fs' d', insD O (.ins C fs) C fs' ∧ getA fs' f = some d' ∧ P d' := ⟨fs, d, .inl rfl, e, q⟩
theorem mt_ref {P : Prop} (m : (a, MO.ins C fs) ∈ O) (e : getA fs f = none) (q : P) : (∃ fs, insD O (.ref a) C fs ∧ getA fs f = none) ∧ P := ⟨⟨fs, .inr ⟨a, rfl, m⟩, e⟩, q⟩
theorem mt_ins {P : Prop} (e : getA fs f = none) (q : P) : (∃ fs', insD O (.ins C fs) C fs' ∧ getA fs' f = none) ∧ P := ⟨⟨fs, .inl rfl, e⟩, q⟩
end
section
variable {B : Cx → Ent → Prop} {tg elt : Expr} {ifs : List Expr} {Rb : Rho} {Q : D → Os → Prop} {acc ds : List D} {d : D} {O : Os}
theorem comp_nil (h : Q (.lst acc) O) : CompA B tg ifs elt Rb Q [] acc O := h
theorem comp_cons (hl : acc.length ≤ 100000) (h : ∀ Xb N', B Xb N' → AG Xb tg d Rb fun R1 => SubR R1 Rb ∧ AIfs Xb N' ifs R1 O fun b O1 => if b = true then AE Xb N' elt R1 O1 fun y O2 => CompA B tg ifs elt Rb Q ds (acc ++ [y]) O2 else CompA B tg ifs elt Rb Q ds acc O1) : CompA B tg ifs elt Rb Q (d :: ds) acc O := ⟨hl, h⟩
theorem and_sub {R1 Rb : Rho} {P : Prop} (h : SubR R1 Rb) (q : P) : SubR R1 Rb ∧ P := ⟨h, q⟩
end
theorem ite_nf {A B : Prop} (h : A) : if (!false) = true then A else B := h
theorem ite_nt {A B : Prop} (h : B) : if (!true) = true then A else B := h
section
variable {O : Os} {a : Addr} {kvs : List (Key × D)} {s : Str} {z : Int} {d : D} {o : Option D} {P : D → Prop} {Po : Option D → Prop}
theorem dg_str (e : getA kvs (.inr s) = some d) (q : P d) : ∃ d', dgD O (.dic kvs) (.str s) (some d') ∧ P d' := ⟨d, ⟨kvs, .inr s, .inl rfl, rfl, e.symm⟩, q⟩
theorem dg_strR (m : (a, MO.dic kvs) ∈ O) (e : getA kvs (.inr s) = some d) (q : P d) : ∃ d', dgD O (.ref a) (.str s) (some d') ∧ P d' := ⟨d, ⟨kvs, .inr s, .inr ⟨a, rfl, m⟩, rfl, e.symm⟩, q⟩
theorem dgo_str (e : getA kvs (.inr s) = o) (q : Po o) : ∃ o', dgD O (.dic kvs) (.str s) o' ∧ Po o' := ⟨o, ⟨kvs, .inr s, .inl rfl, rfl, e.symm⟩, q⟩
theorem dgo_strR (m : (a, MO.dic kvs) ∈ O) (e : getA kvs (.inr s) = o) (q : Po o) : ∃ o', dgD O (.ref a) (.str s) o' ∧ Po o' := ⟨o, ⟨kvs, .inr s, .inr ⟨a, rfl, m⟩, rfl, e.symm⟩, q⟩
theorem dg_intR (m : (a, MO.dic kvs) ∈ O) (e : getA kvs (.inl z) = some d) (q : P d) : ∃ d', dgD O (.ref a) (.int z) (some d') ∧ P d' := ⟨d, ⟨kvs, .inl z, .inr ⟨a, rfl, m⟩, rfl, e.symm⟩, q⟩
end
theorem ite_se {a b : Str} {A B : Prop} (ha : a = b → A) (hb : a ≠ b → B) : if (a == b) = true then A else B := by
  by_cases h : a = b
  · rw [if_pos (beq_iff_eq.mpr h)]; exact ha h
  · rw [if_neg (fun z => h (beq_iff_eq.mp z))]; exact hb h
section
variable {X : Cx} {N : Ent} {R : Rho} {O : Os} {a o : Expr} {f : Str} {p pos : Pos} {Q : Bool → Os → Prop}
theorem at_dinA (hu : X.A.units + 65 < cLine) (h : AE X N a R O fun d1 O1 => AE X N (.Attribute o f p) R O1 fun d2 O2 => ∃ r, dgD O2 d2 d1 r ∧ Q r.isSome O2) (hm : behindInMarks .In (.Attribute o f p) = false) : AT X N (.Compare a [.In] [.Attribute o f p] pos) R O Q := at_din hu h hm
theorem at_dniA (hu : X.A.units + 65 < cLine) (h : AE X N a R O fun d1 O1 => AE X N (.Attribute o f p) R O1 fun d2 O2 => ∃ r, dgD O2 d2 d1 r ∧ Q (!r.isSome) O2) (hm : behindInMarks .NotIn (.Attribute o f p) = false) : AT X N (.Compare a [.NotIn] [.Attribute o f p] pos) R O Q := at_dni hu h hm
end
end K12
namespace K12
open PySem PySem.Spec PyProof.Rows L2
open PySem.PyData (strOk)
local macro_rules | `(tactic| walk_at "g") => `(tactic| repeat (first | (with_reducible exact Get.head) | (with_reducible apply Get.tail)))
local macro_rules | `(tactic| walk_at "p") => `(tactic| repeat (first | (with_reducible exact Put.head) | (with_reducible apply Put.tail)))
local macro_rules | `(tactic| walk_at "s") => `(tactic| exact ⟨⟨(by first | exact Or.inl rfl | exact Or.inr (Or.inl rfl) | exact Or.inr (Or.inr rfl)), (by decide), (by decide)⟩, (by first | exact Or.inl rfl | exact Or.inr rfl), (by first | exact Or.inl rfl | exact Or.inr rfl)⟩)
local macro_rules | `(tactic| walk_at "m") => `(tactic| repeat (first | (with_reducible exact List.mem_cons_self) | (with_reducible apply List.mem_cons_of_mem)))
local macro_rules | `(tactic| walk_at "u") => `(tactic| repeat (first | (with_reducible exact U.head) | (with_reducible apply U.tail)))
local macro_rules | `(tactic| walk_at "gc") => `(tactic| first | exact Gd.calm (by assumption) | ((have g : Gd _ _ := (by assumption)); exact g.calm))
local macro_rules | `(tactic| walk_at "gn") => `(tactic| first | exact Gd.nd (by assumption) | ((have g : Gd _ _ := (by assumption)); exact g.nd))
local macro_rules | `(tactic| walk_at "gu") => `(tactic| first | exact Gd.un (by assumption) | ((have g : Gd _ _ := (by assumption)); exact g.un))
local macro_rules | `(tactic| walk_at "nCall") => `(tactic| first
  | ((with_reducible refine' ae_c ?G ?_); (case G => assumption))
  | ((with_reducible refine' ae_len ?m ?_ ?hg ?he ?hpl); (case m => exact Lib.len (by assumption)); (case hg => rfl); (case he => rfl); (case hpl => rfl))
  | ((with_reducible refine' ae_tupOf ?m ?_ ?g ?he ?hp); (case m => exact Lib.tup (by assumption)); (case g => rfl); (case he => rfl); (case hp => rfl))
  | ((with_reducible refine' ae_intB ?m ?_ ?g ?he ?hp); (case m => exact Lib.int (by assumption)); (case g => rfl); (case he => rfl); (case hp => rfl))
  | ((with_reducible refine' ae_app ?_ ?hb ?hf ?hl ?hs ?hp); (case hb => rfl); (case hf => rfl); (case hl => rfl); (case hs => rfl); (case hp => rfl))
  | ((with_reducible refine' ae_pop ?_ ?hb ?hl); (case hb => rfl); (case hl => rfl))
  | ((with_reducible refine' ae_meth ?G ?hr ?ps ?_ ?hst ?hpl ?ht); (case G => assumption); (case hr => assumption); (case ps => first | assumption | exact Gd.ps (by assumption)); (case hst => with_unfolding_all rfl); (case hpl => with_unfolding_all rfl); (case ht => with_unfolding_all rfl))
  | ((with_reducible refine' ae_meth0 ?G ?hr ?ps ?_ ?ht); (case G => assumption); (case hr => assumption); (case ps => first | assumption | exact Gd.ps (by assumption)); (case ht => with_unfolding_all rfl)))
local macro_rules | `(tactic| walk_at "nBin") => `(tactic| first
  | (with_reducible refine ae_add ?_)
  | (with_reducible refine ae_subI ?_)
  | (with_reducible refine ae_mulI ?_)
  | (with_reducible refine ae_modI ?_)
  | (with_reducible refine ae_divI ?_)
  | (with_reducible refine ae_powI ?_))
local macro_rules | `(tactic| walk_at "nSub") => `(tactic| first
  | ((with_reducible refine' ae_ixD ?_ ?hs); (case hs => exact fun _ _ => rfl))
  | ((with_reducible refine' ae_sl ?_)))
local macro_rules | `(tactic| walk_at "nE") => `(tactic| first
  | ((with_reducible refine' ae_n ?g ?_); (case g => walk_at "g"))
  | (with_reducible refine ae_str ?_)
  | ((with_reducible refine pSub ?_); walk_at "nSub")
  | ((with_reducible refine pCall ?_); walk_at "nCall")
  | (with_reducible refine ae_int ?_)
  | (with_reducible refine ae_bl ?_)
  | (with_reducible refine ae_non ?_)
  | (with_reducible refine ae_tup ?_)
  | ((with_reducible refine' ae_eq ?un ?_); (case un => walk_at "gu"))
  | ((with_reducible refine' ae_ne ?un ?_); (case un => walk_at "gu"))
  | (with_reducible refine ae_neg ?_)
  | ((with_reducible refine' ae_fld ?c ?n ?_ ?hb); (case n => assumption); (case c => assumption); (case hb => rfl))
  | ((with_reducible refine pBin ?_); walk_at "nBin"))
local macro_rules | `(tactic| walk_at "nS") => `(tactic| first
  | (with_reducible refine as_if ?_)
  | (with_reducible refine as_pass ?_)
  | ((with_reducible refine' as_aug ?nd ?sx ?g ?_); (case nd => walk_at "gn"); (case sx => walk_at "s"); (case g => walk_at "g"))
  | ((with_reducible refine' as_set ?nd ?sx ?_ ?hs); (case nd => walk_at "gn"); (case sx => walk_at "s"); (case hs => rfl))
  | ((with_reducible refine' as_par3 ?c ?nd ?sx ?sy ?sz ?xy ?xz ?yz ?hx ?hy ?hz ?g1 ?g2 ?g3 ?_ ?hw ?hs); (case hw => rfl); (case hs => rfl); (case c => walk_at "gc"); (case nd => walk_at "gn"); (case sx => walk_at "s"); (case sy => walk_at "s"); (case sz => walk_at "s"); (case xy => decide); (case xz => decide); (case yz => decide); (case hx => rfl); (case hy => rfl); (case hz => rfl); (case g1 => walk_at "m"); (case g2 => walk_at "m"); (case g3 => walk_at "m"))
  | ((with_reducible refine' as_par ?c ?nd ?sx ?sy ?xy ?hx ?hy ?g1 ?g2 ?_ ?hw ?hs); (case hw => rfl); (case hs => rfl); (case c => walk_at "gc"); (case nd => walk_at "gn"); (case sx => walk_at "s"); (case sy => walk_at "s"); (case xy => decide); (case hx => rfl); (case hy => rfl); (case g1 => walk_at "m"); (case g2 => walk_at "m"))
  | ((with_reducible refine' as_expr ?_ ?hs); (case hs => rfl))
  | ((with_reducible refine' as_dputT ?un ?_ ?hs); (case un => walk_at "gu"); (case hs => rfl))
  | ((with_reducible refine' as_lput ?_ ?hs ?hw ?h1 ?ha); (case hs => rfl); (case hw => rfl); (case h1 => rfl); (case ha => exact fun _ => rfl))
  | ((with_reducible refine' as_for ?hp ?hc ?_ ?hs); (case hp => exact Gd.own (by assumption)); (case hc => exact Gd.calm (by assumption)); (case hs => intro _; rfl))
  | ((with_reducible refine' as_rs ?Rc ?G ?_ ?hr ?hg ?hdb ?he ?hpl); (case Rc => assumption); (case G => assumption); (case hr => assumption); (case hg => with_unfolding_all rfl); (case hdb => decide); (case he => with_unfolding_all rfl); (case hpl => with_unfolding_all rfl))
  | ((with_reducible refine' as_asg ?_ ?hs ?hw ?h1); (case hw => rfl); (case hs => rfl); (case h1 => rfl)))
local macro_rules | `(tactic| walk_at "nT") => `(tactic| first
  | ((with_reducible refine' at_eq ?un ?_); (case un => walk_at "gu"))
  | ((with_reducible refine' at_ne ?un ?_); (case un => walk_at "gu"))
  | (with_reducible refine at_gt ?_)
  | (with_reducible refine at_ge ?_)
  | (with_reducible refine at_lt ?_)
  | ((with_reducible refine' at_dinA ?un ?_ ?hm); (case un => walk_at "gu"); (case hm => rfl))
  | ((with_reducible refine' at_dniA ?un ?_ ?hm); (case un => walk_at "gu"); (case hm => rfl))
  | ((with_reducible refine' at_inTup ?_ ?hm); (case hm => rfl))
  | ((with_reducible refine' at_niTup ?_ ?hm); (case hm => rfl))
  | (with_reducible refine atBool ?_))
local macro_rules | `(tactic| walk_at "nW") => `(tactic| first
  | (with_reducible refine at_and ?_)
  | (with_reducible refine at_and1 ?_)
  | (with_reducible refine at_or ?_)
  | (with_reducible refine at_or1 ?_))
local macro_rules | `(tactic| walk_at "nI") => `(tactic| first
  | (with_reducible refine ite_t ?_)
  | (with_reducible refine ite_f ?_)
  | (with_reducible refine ite_nf ?_)
  | (with_reducible refine ite_nt ?_)
  | ((with_reducible refine' ite_dt ?h ?_); (case h => first | decide +kernel | (focus ((simp only [List.length_cons, List.length_nil]); omega))))
  | ((with_reducible refine' ite_df ?h ?_); (case h => first | decide +kernel | (focus ((simp only [List.length_cons, List.length_nil]); omega))))
  | ((with_reducible refine' ite_ndt ?h ?_); (case h => decide +kernel))
  | ((with_reducible refine' ite_ndf ?h ?_); (case h => decide +kernel)))
local macro_rules | `(tactic| walk_at "nX") => `(tactic| first
  | ((with_reducible refine' par2_i ?p1 ?p2 ?_); (case p1 => walk_at "p"); (case p2 => walk_at "p"))
  | ((with_reducible refine' par3_i ?p1 ?p2 ?p3 ?_); (case p1 => walk_at "p"); (case p2 => walk_at "p"); (case p3 => walk_at "p"))
  | ((with_reducible refine' lput_i ?u ?h ?_); (case u => walk_at "u"); (case h => rfl))
  | (with_reducible refine len_i lenD_lst ?_)
  | (with_reducible refine len_i lenD_tup ?_)
  | (with_reducible refine len_i lenD_arg ?_)
  | (with_reducible refine eq_int ?_)
  | ((with_reducible refine' eq_t ?h ?_); (case h => decide +kernel))
  | ((with_reducible refine' eq_f ?h ?_); (case h => decide +kernel))
  | ((with_reducible refine' app_i ?m ?_); (case m => walk_at "m"))
  | ((with_reducible refine' app_j ?u ?hl ?_); (case u => walk_at "u"); (case hl => first | exact Nat.le_of_ble_eq_true rfl | (focus ((try simp only [List.length_append, List.length_cons, List.length_nil]); omega))))
  | ((with_reducible refine' ext_j ?u ?hl ?_); (case u => walk_at "u"); (case hl => first | exact Nat.le_of_ble_eq_true rfl | (focus ((try simp only [List.length_append, List.length_cons, List.length_nil]); omega))))
  | ((with_reducible refine' extT_j ?u ?hl ?_); (case u => walk_at "u"); (case hl => first | exact Nat.le_of_ble_eq_true rfl | (focus ((try simp only [List.length_append, List.length_cons, List.length_nil]); omega))))
  | (with_reducible refine tup_i ?_)
  | (with_reducible refine lst_i ?_)
  | ((with_reducible refine' aug_i ?p ?_); (case p => walk_at "p"))
  | (with_reducible refine two_i ?_)
  | ((with_reducible refine' ins_ref ?m ?e ?_); (case m => walk_at "m"); (case e => rfl))
  | ((with_reducible refine' ins_ins ?e ?_); (case e => rfl))
  | (with_reducible refine of_l ?_)
  | (with_reducible refine of_t ?_)
  | ((with_reducible refine' put_i ?p ?_); (case p => walk_at "p"))
  | (with_reducible refine int_i ?_)
  | (with_reducible refine bl_i ?_)
  | (with_reducible refine two_l ?_)
  | (with_reducible refine two_t ?_))
local macro_rules | `(tactic| walk_at "nA") => `(tactic| first
  | ((with_reducible refine' mt_ref ?m ?e ?_); (case m => walk_at "m"); (case e => rfl))
  | ((with_reducible refine' mt_ins ?e ?_); (case e => rfl))
  | ((with_reducible refine' and_mul ?c ?_); (case c => first | (refine Or.inr ⟨?_, ?_⟩ <;> omega) | (refine Or.inl ⟨?_, ?_⟩ <;> omega)))
  | ((with_reducible refine' and_len ?c ?_); (case c => exact Nat.le_of_ble_eq_true rfl))
  | ((with_reducible refine' and_div ?c ?_); (case c => constructor <;> omega))
  | ((with_reducible refine' and_pow ?c ?_); (case c => exact ⟨by decide, by decide, by decide⟩))
  | ((with_reducible refine' and_pos ?c ?_); (case c => omega)))
local macro_rules | `(tactic| walk_at "nG") => `(tactic| first
  | ((with_reducible refine' ag_n ?nd ?sx ?p ?_); (case nd => walk_at "gn"); (case sx => walk_at "s"); (case p => walk_at "p"))
  | ((with_reducible refine' ag_tup ?c ?_ ?l ?hn ?hst); (case c => walk_at "gc"); (case l => rfl); (case hn => rfl); (case hst => rfl))
  | ((with_reducible refine' ag_lst ?c ?_ ?l ?hn ?hst); (case c => walk_at "gc"); (case l => rfl); (case hn => rfl); (case hst => rfl)))
local macro_rules | `(tactic| walk_at "nR") => `(tactic| first
  | (with_reducible refine AddX.int ?_)
  | (with_reducible refine intsD_mk ?_)
  | ((with_reducible refine' inD_tup ?h ?_); (case h => rfl))
  | (with_reducible refine loop_nil ?_)
  | (with_reducible refine loop_cons ?_)
  | ((with_reducible refine' loop_nil' ?e ?_); (case e => rfl))
  | ((with_reducible refine' loop_cons' ?e ?_); (case e => rfl))
  | ((with_reducible refine' ixD_tup ?h ?_); (case h => rfl))
  | ((with_reducible refine' ixD_lst ?h ?_); (case h => rfl))
  | ((with_reducible refine' ixD_ref ?m ?h ?_); (case m => walk_at "m"); (case h => rfl))
  | (with_reducible refine slD_tup ?_)
  | (with_reducible refine slD_lst ?_)
  | (with_reducible refine slD_arg ?_)
  | (with_reducible refine ao_some ?_)
  | (with_reducible refine ao_none ?_))
local macro_rules | `(tactic| walk_at "n") => `(tactic| first
  | ((with_reducible refine pAE ?_); walk_at "nE")
  | ((with_reducible refine' aa_cons ?_ ?hs); (case hs => rfl))
  | (with_reducible refine aa_nil ?_)
  | ((with_reducible refine pEx ?_); walk_at "nX")
  | ((with_reducible refine pIte ?_); walk_at "nI")
  | (with_reducible refine ab_cons ?_)
  | (with_reducible refine ab_nil ?_)
  | ((with_reducible refine pAS ?_); walk_at "nS")
  | ((with_reducible refine pAT ?_); walk_at "nT")
  | ((with_reducible refine pAW ?_); walk_at "nW")
  | ((with_reducible refine pAnd ?_); walk_at "nA")
  | ((with_reducible refine pAG ?_); walk_at "nG")
  | ((with_reducible refine' ags_cons ?_ ?hs); (case hs => rfl))
  | (with_reducible refine ags_nil ?_)
  | walk_at "nR")
local macro_rules | `(tactic| walk_at "k") => `(tactic| first | walk_at "n" | (with_reducible refine as_ret ?_))
local macro_rules | `(tactic| walk_at "ns") => `(tactic| repeat walk_at "n")
local macro_rules | `(tactic| walk_at "l") => `(tactic| repeat (first | walk_at "k" | (with_reducible refine ae_lst ?_) | ((with_reducible refine' ae_lstOf ?m ?_ ?g ?he ?hp); (case m => exact Lib.lst (by assumption)); (case g => rfl); (case he => rfl); (case hp => rfl))))
local macro_rules | `(tactic| walk_at "ks") => `(tactic| repeat walk_at "k")
local macro_rules | `(tactic| walk_at "r") => `(tactic| dsimp only [startR])
local macro_rules | `(tactic| walk_at "v") => `(tactic| first | exact Or.inl rfl | exact Or.inr (Or.inl rfl) | exact Or.inr (Or.inr rfl))
local macro_rules | `(tactic| walk_at "b") => `(tactic| repeat (first
  | exact RbOk.nil
  | (apply RbOk.keep; (focus (refine ⟨?_, ?_, ?_⟩; (focus walk_at "v"); (focus decide); (focus decide))); (focus decide))
  | apply RbOk.drop))
local macro_rules | `(tactic| walk_at "sub") => `(tactic| repeat (first | (with_reducible exact SubR.nil) | (with_reducible apply SubR.same) | (with_reducible apply SubR.skip)))
local macro_rules | `(tactic| walk_at "a") => `(tactic| repeat (first
  | ((with_reducible refine' ag_n ?nd ?sx ?p ?_); (case nd => walk_at "gn"); (case sx => walk_at "s"); (case p => walk_at "p"))
  | ((with_reducible refine' ag_tup ?c ?_ ?l ?hn ?hst); (case c => walk_at "gc"); (case l => rfl); (case hn => rfl); (case hst => rfl))
  | ((with_reducible refine' ag_lst ?c ?_ ?l ?hn ?hst); (case c => walk_at "gc"); (case l => rfl); (case hn => rfl); (case hst => rfl))
  | ((with_reducible refine' ags_cons ?_ ?hs); (case hs => rfl))
  | (with_reducible refine ags_nil ?_)))
local macro_rules | `(tactic| walk_at "zr") => `(tactic| repeat (first | (with_reducible exact RlR.nil) | ((with_reducible apply RlR.cons); (focus first | (with_reducible exact RlD.here) | (exact RlD.same))) | (with_reducible apply RlR.skip)))
local macro_rules | `(tactic| walk_at "zo") => `(tactic| repeat (first | (with_reducible exact RlO.nil) | ((with_reducible apply RlO.cons); (focus (exact RlM.same)))))
local macro_rules | `(tactic| walk_at "zt") => `(tactic| repeat (first | (with_reducible exact Take.head) | (with_reducible apply Take.tail)))
local macro_rules | `(tactic| walk_at "z") => `(tactic| (first | (with_reducible refine' as_still Take.head ?ro ?rr ?_) | (with_reducible refine' ab_still Take.head ?ro ?rr ?_)); (case ro => walk_at "zo"); (case rr => walk_at "zr"))
local macro_rules | `(tactic| walk_at "x") => `(tactic| (with_reducible refine' ae_extT ?_ ?hb ?hf ?hl ?hs ?hp); (case hb => rfl); (case hf => rfl); (case hl => rfl); (case hs => rfl); (case hp => rfl))
local macro_rules | `(tactic| walk_at "e") => `(tactic| (with_reducible refine' ae_ext ?_ ?hb ?hf ?hl ?hs ?hp); (case hb => rfl); (case hf => rfl); (case hl => rfl); (case hs => rfl); (case hp => rfl))
local macro_rules | `(tactic| walk_at "cb") => `(tactic| (with_reducible refine comp_cons ?_ ?_); (focus (exact Nat.le_of_ble_eq_true rfl)); (intro Xb N' bk); (obtain ⟨⟨s0, H0, C0, cl0, fp0, xe0, eb⟩, hex, hps⟩ := bk); (subst eb); (have hps := hps rfl))
local macro_rules | `(tactic| walk_at "sb") => `(tactic| (with_reducible refine and_sub ?_ ?_); (focus (walk_at "sub")); (with_reducible refine ifs_nil ?_); (with_reducible refine ite_t ?_))
/-! Q1: the typer's small words. -/
open PySem.PyData (strOk)
abbrev sNeed : Stmt := top 14
abbrev sInner : Stmt := top 15
/-- the classes of the three errors -/
structure Cs where
  n : Addr
  t : Addr
  f : Addr
def Er.C (c : Cs) : Er → Addr
  | .name .. => c.n
  | .twice .. => c.t
  | .fit .. => c.f
def Er.fs : Er → List (Str × D)
  | .name s p => [("place", .int (p : Nat)), ("name", .str s)]
  | .twice s p => [("place", .int (p : Nat)), ("name", .str s)]
  | .fit a b => [("gives", .int (b : Nat)), ("wants", .int (a : Nat))]
def spNeed (c : Cs) : ASp := fun ds O Q E => ∃ (a b : D) (i j : Nat) (e : Bool), ds = [a, b, .int i, .int j] ∧ O = [] ∧ eqP a b = some e ∧ (e = true → Q .non []) ∧ (e = false → E c.f (Er.fs (.fit i j)) [])
section
variable {P : Program} {w : World} {K : PySem.W.Frag} {mg : Str → Option Value} {base : Heap} {f : Addr} {fd : FuncData} {k : Nat} {c : Cs}
theorem okNeed (e1 : RaiseC P w K mg base k "NoFit" c.f "wants" "gives") (Fn : Fun K "need_agree" "need_agree" sNeed f fd) : FnOk P w K mg base (L2.CX P w) (k + 1 + 1) f fd ["kind", "due", "wants", "gives"] (lift K (spNeed c)) := by
  refine gate ?_
  simp (disch := with_unfolding_all (
      refine fnG (Ns := ["kind", "due", "wants", "gives"]) Fn rfl rfl ⟨rfl, rfl, rfl, by decide +kernel, rfl, by decide +kernel, by decide +kernel⟩ (fun ds O QA EA h => ?_) (by decide) (fun cdv A outer s H E hr T ds O QA EA F h G => ?_)
      · obtain ⟨a, b, i, j, e, x, _⟩ := h
        rw [x]; rfl
      obtain ⟨a, b, i, j, e, x, eO, he, q1, q2⟩ := h
      subst x eO
      walk_at "r"
      walk_at "ks"
      refine ⟨e, he, ?_⟩
      cases e with
      | true =>
        refine ite_f ?_
        walk_at "ks"
        exact q1 rfl
      | false =>
        refine ite_t ?_
        walk_at "ks"
        exact q2 rfl
    )) only [↓gate_rule]
/-- the expressions that hold expressions -/
inductive VwX : D → List D → Prop
  | two {s : Str} {a b : D} : VwX (.tup [.str "two", .str s, a, b]) [a, b]
  | one {s : Str} {a : D} : VwX (.tup [.str "one", .str s, a]) [a]
  | call {s : Str} {ps : List D} : VwX (.tup [.str "call", .str s, .tup ps]) ps
  | new {s : Str} {ps : List D} : VwX (.tup [.str "new", .str s, .tup ps]) ps
  | row {ps : List D} : VwX (.tup [.str "row", .tup ps]) ps
  | field {s : Str} {a : D} : VwX (.tup [.str "field", a, .str s]) [a]
  | index {a b : D} : VwX (.tup [.str "index", a, b]) [a, b]
def spInner : ASp := fun ds O Q _ => ∃ d ps, ds = [d] ∧ O = [] ∧ VwX d ps ∧ Q (.tup ps) []
theorem okInner (Fn : Fun K "inner_of" "inner_of" sInner f fd) : FnOk P w K mg base (L2.CX P w) (k + 1) f fd ["node"] (lift K spInner) := by
  refine fnG (Ns := ["node"]) Fn rfl rfl ⟨rfl, rfl, rfl, by decide +kernel, rfl, by decide +kernel, by decide +kernel⟩ (fun ds O QA EA h => ?_) (by decide) (fun cdv A outer s H E hr T ds O QA EA F h G => ?_)
  · obtain ⟨d, ps, x, _⟩ := h
    rw [x]; rfl
  obtain ⟨d, ps, x, eO, hv, q⟩ := h
  subst x eO
  cases hv <;> (walk_at "r") <;> (walk_at "ks") <;> exact q
end
/-! Q2: the typer's object. -/
open PySem.PyData (strOk)
abbrev sNext : Stmt := inCls 18 1
structure LkC (K : PySem.W.Frag) (C : Addr) : Prop where
  cls : Cls K C
  h : NoAttr K C "heads"
  g : NoAttr K C "gives"
  p : NoAttr K C "place"
structure HdC (K : PySem.W.Frag) (C : Addr) : Prop where
  cls : Cls K C
  m : NoAttr K C "made"
  k : NoAttr K C "known"
  p : NoAttr K C "places"
abbrev lkM (C : Addr) (h g : D) (z : Int) : MO := .ins C [("heads", h), ("gives", g), ("place", .int z)]
def spNext (C : Addr) : ASp := fun ds O Q _ => ∃ a h g z, ds = [.ref a] ∧ O = [(a, lkM C h g z)] ∧ Q (.int (z + 1)) [(a, lkM C h g (z + 1))]
section
variable {P : Program} {w : World} {K : PySem.W.Frag} {mg : Str → Option Value} {base : Heap} {f : Addr} {fd : FuncData} {k : Nat} {c : Cs} {CL CH : Addr}
theorem okNext (L : LkC K CL) (Fn : Fun K "next_place" "Looker.next_place" sNext f fd) : FnOk P w K mg base (L2.CX P w) (k + 1) f fd ["self"] (lift K (spNext CL)) := by
  refine gate ?_
  simp (disch := with_unfolding_all (
      refine fnG (Ns := ["self"]) Fn rfl rfl ⟨rfl, rfl, rfl, by decide +kernel, rfl, by decide +kernel, by decide +kernel⟩ (fun ds O QA EA h => ?_) (by decide) (fun cdv A outer s H E hr T ds O QA EA F h G => ?_)
      · obtain ⟨a, b, i, j, x, _⟩ := h
        rw [x]; rfl
      obtain ⟨a, h, g, z, x, eO, q⟩ := h
      subst x eO
      have l1 := L.cls
      have l2 := L.h
      have l3 := L.g
      have l4 := L.p
      walk_at "r"
      walk_at "k"
      refine as_fldadd ?_
      walk_at "ks"
      refine ⟨a, CL, _, z, rfl, List.mem_cons_self, l1, l4, rfl, ?_⟩
      walk_at "ks"
      refine ⟨1, _, _, rfl, .head, Nat.le_of_ble_eq_true rfl, ?_⟩
      walk_at "ks"
      exact q
    )) only [↓gate_rule]
def fldsL : D := .lst [.tup [.str "x", .tup [.str "num"]], .tup [.str "y", .tup [.str "truth"]]]
def madeD : List (Key × D) := [(.inr "pair", fldsL), (.inr "twin", fldsL)]
def knownD : List (Key × D) := [(.inr "main", .tup [.tup [Kd.enc .num, Kd.enc .truth, Kd.enc (.row 2), Kd.enc (.named "pair")], Kd.enc .num]), (.inr "g", .tup [.tup [Kd.enc (.named "pair"), Kd.enc .num], Kd.enc (.row 2)])]
def placesD (h : Hd) : List (List Key × D) := [([.inr "record", .inr "pair"], .int 0), ([.inr "record", .inr "twin"], .int 1), ([.inr "fun", .inr "main"], .int (h.pm : Nat)), ([.inr "fun", .inr "g"], .int (h.pg : Nat))]
abbrev hdD (C : Addr) (h : Hd) : D := .ins C [("made", .dic madeD), ("known", .dic knownD), ("places", .dct (placesD h))]
abbrev sVK : Stmt := inCls 17 4
def spVK (C : Addr) : ASp := fun ds O Q _ => ∃ h kd, ds = [hdD C h, Kd.enc kd] ∧ O = [] ∧ K6 kd ∧ Q (vk kd) []
theorem okVK (B : Lib mg) (L : HdC K CH) (Fn : Fun K "value_kind" "Heads.value_kind" sVK f fd) : FnOk P w K mg base (L2.CX P w) (k + 1) f fd ["self", "kind"] (lift K (spVK CH)) := by
  refine gate ?_
  simp (disch := with_unfolding_all (
      refine fnG (Ns := ["self", "kind", "field", "part"]) Fn rfl rfl ⟨rfl, rfl, rfl, by decide +kernel, rfl, by decide +kernel, by decide +kernel⟩ (fun ds O QA EA h => ?_) (by decide) (fun cdv A outer s H E hr T ds O QA EA F h G => ?_)
      · obtain ⟨h, kd, x, _⟩ := h
        rw [x]; rfl
      obtain ⟨h, kd, x, eO, hk, q⟩ := h
      have l1 := L.cls
      have l2 := L.m
      have l3 := L.k
      have l4 := L.p
      cases hk with
      | pair =>
        unfold Kd.enc at x
        subst x eO
        walk_at "r"
        walk_at "ks"
        refine ae_lc true [("field", 2), ("part", 3)] (G.comp true) G.calm G.nd (blkOk_by (by kernel_rfl)) (by walk_at "b") (ai_lst ?_)
        refine ae_dget G.un ?_ (fun _ _ => rfl)
        walk_at "ks"
        refine dg_str rfl ⟨_, rfl, ?_⟩
        walk_at "cb"
        walk_at "ks"
        walk_at "sb"
        walk_at "ks"
        walk_at "cb"
        walk_at "ks"
        walk_at "sb"
        walk_at "ks"
        refine comp_nil ?_
        walk_at "ks"
        exact q
      | twin =>
        unfold Kd.enc at x
        subst x eO
        walk_at "r"
        walk_at "ks"
        refine ae_lc true [("field", 2), ("part", 3)] (G.comp true) G.calm G.nd (blkOk_by (by kernel_rfl)) (by walk_at "b") (ai_lst ?_)
        refine ae_dget G.un ?_ (fun _ _ => rfl)
        walk_at "ks"
        refine dg_str rfl ⟨_, rfl, ?_⟩
        walk_at "cb"
        walk_at "ks"
        walk_at "sb"
        walk_at "ks"
        walk_at "cb"
        walk_at "ks"
        walk_at "sb"
        walk_at "ks"
        refine comp_nil ?_
        walk_at "ks"
        exact q
      | num =>
        unfold Kd.enc at x
        subst x eO
        walk_at "r"
        walk_at "ks"
        exact q
      | truth =>
        unfold Kd.enc at x
        subst x eO
        walk_at "r"
        walk_at "ks"
        exact q
      | row2 =>
        unfold Kd.enc at x
        subst x eO
        walk_at "r"
        walk_at "ks"
        exact q
      | row3 =>
        unfold Kd.enc at x
        subst x eO
        walk_at "r"
        walk_at "ks"
        exact q
    )) only [↓gate_rule]
abbrev sFld : Stmt := inCls 17 5
def spFld (C : Addr) (c : Cs) : ASp := fun ds O Q E => ∃ h b s p, ds = [hdD C h, Kd.enc (.named b), .str s, .int (p : Nat)] ∧ O = [] ∧ (b = "pair" ∨ b = "twin") ∧ strOk s = true ∧
  match fieldK s p with
  | .ok x => Q (.tup [.int (x.1 : Nat), x.2.enc]) []
  | .error e => E (e.C c) e.fs []
theorem okFld (B : Lib mg) (L : HdC K CH) (e1 : RaiseC P w K mg base k "NoName" c.n "name" "place") (Fn : Fun K "field" "Heads.field" sFld f fd) : FnOk P w K mg base (L2.CX P w) (k + 1 + 1) f fd ["self", "kind", "name", "place"] (lift K (spFld CH c)) := by
  refine gate ?_
  simp (disch := with_unfolding_all (
      refine fnG (Ns := ["self", "kind", "name", "place", "k", "field", "part"]) Fn rfl rfl ⟨rfl, rfl, rfl, by decide +kernel, rfl, by decide +kernel, by decide +kernel⟩ (fun ds O QA EA h => ?_) (by decide) (fun cdv A outer s H E hr T ds O QA EA F h G => ?_)
      · obtain ⟨h, b, s, p, x, _⟩ := h
        rw [x]; rfl
      obtain ⟨h, b, s, p, x, eO, hb, hs, q⟩ := h
      have l1 := L.cls
      have l2 := L.m
      have l3 := L.k
      have l4 := L.p
      have hx : strOk "x" = true := by decide +kernel
      have hy : strOk "y" = true := by decide +kernel
      unfold Kd.enc at x
      subst x eO
      walk_at "r"
      rcases hb with rfl | rfl
      · walk_at "ks"
        refine ai_enum rfl B.enu ?_ rfl
        refine ae_dget G.un ?_ (fun _ _ => rfl)
        walk_at "ks"
        refine dg_str rfl ⟨_, .inl rfl, ?_⟩
        walk_at "ks"
        refine ⟨_, eqP_str hx hs, ?_⟩
        refine ite_se (fun z => ?_) (fun z => ?_)
        · subst z
          walk_at "ks"
          exact q
        walk_at "ks"
        refine ⟨_, eqP_str hy hs, ?_⟩
        refine ite_se (fun z' => ?_) (fun z' => ?_)
        · subst z'
          walk_at "ks"
          exact q
        walk_at "ks"
        have e : fieldK s p = .error (.name s p) := by unfold fieldK; rw [if_neg (Ne.symm z), if_neg (Ne.symm z')]
        rw [e] at q
        exact q
      · walk_at "ks"
        refine ai_enum rfl B.enu ?_ rfl
        refine ae_dget G.un ?_ (fun _ _ => rfl)
        walk_at "ks"
        refine dg_str rfl ⟨_, .inl rfl, ?_⟩
        walk_at "ks"
        refine ⟨_, eqP_str hx hs, ?_⟩
        refine ite_se (fun z => ?_) (fun z => ?_)
        · subst z
          walk_at "ks"
          exact q
        walk_at "ks"
        refine ⟨_, eqP_str hy hs, ?_⟩
        refine ite_se (fun z' => ?_) (fun z' => ?_)
        · subst z'
          walk_at "ks"
          exact q
        walk_at "ks"
        have e : fieldK s p = .error (.name s p) := by unfold fieldK; rw [if_neg (Ne.symm z), if_neg (Ne.symm z')]
        rw [e] at q
        exact q
    )) only [↓gate_rule]
end
/-! A23: ends that forget objects; a subscript of any kind. -/
def RlxE (E : Addr → List (Str × D) → Os → Prop) : Addr → List (Str × D) → Os → Prop := fun C fs O' => ∃ O2, Sel O' O2 ∧ E C fs O2
def RlxQ (Q : D → Os → Prop) : D → Os → Prop := fun d O' => ∃ O2, Sel O' O2 ∧ Q d O2
theorem RepO.sel {K : PySem.W.Frag} {N : Ent} {O O2 : Os} {H F : Hp} (r : RepO K N O H F) (s : Sel O O2) : RepO K N O2 H F := r.sub s.sub.1 (s.sub.2 r.nd)
theorem RepO.as_ {K : PySem.W.Frag} {O O1 : Os} {H F H1 F1 : Hp} {E E' : Addr → List (Str × D) → Os → Prop} (r : RepO K ⟨O1, F1, H1, E⟩ O H F) : RepO K ⟨O1, F1, H1, E'⟩ O H F := ⟨r.ex, r.ob, r.nd, r.grow, r.keep, r.newF, r.newO⟩
def rlx (S : ASp) : ASp := fun ds O Q E => ∃ Q0 E0, S ds O Q0 E0 ∧ Q = RlxQ Q0 ∧ E = RlxE E0
theorem lift_rlx {K : PySem.W.Frag} {S : ASp} {vs : List V} {H : Hp} {Q : VK} {E : XK} (h : lift K S vs H Q E) : lift K (rlx S) vs H Q E := by
  obtain ⟨F, ds, O, QA, EA, a1, a2, a3, a4, s, q, e⟩ := h
  refine ⟨F, ds, O, RlxQ QA, RlxE EA, a1, a2, a3, a4, ⟨QA, EA, s, rfl, rfl⟩, ?_, ?_⟩
  · rintro v H' ⟨d, O', F', s1, r, p, O2, sl, z⟩
    exact q v H' ⟨d, O2, F', s1, r.as_.sel sl, p, z⟩
  · rintro cls d H' ⟨C, dd, fs, fvs, O', F', e1, e2, e3, ra, r, O2, sl, z⟩
    exact e cls d H' ⟨C, dd, fs, fvs, O2, F', e1, e2, e3, ra, r.as_.sel sl, z⟩
section
variable {P : Program} {w : World} {K : PySem.W.Frag} {mg : Str → Option Value} {base : Heap}
/-- a def by its body; at its ends objects may be forgotten -/
theorem fnGx {x qual : Str} {st b0 : Stmt} {bs : List Stmt} {f : Addr} {fd : FuncData} {Ns ps : List Str} {k : Nat} {S : ASp} {k1 : ScopeKind} {k2 : List (Str × NameKind)} {k3 k4 : Bool} {k5 : List (Str × Const)} (Fn : Fun K x qual st f fd) (hsc : defScope st = { kind := k1, names := k2, isGenerator := k3, isCoroutine := k4, more := k5 }) (hbd : defBody st = b0 :: bs)
    (sc : FnScope Ns ps { kind := k1, names := k2, isGenerator := k3, isCoroutine := k4, more := k5 }) (len : ∀ ds O QA EA, S ds O QA EA → ds.length = ps.length)
    (dbg : ps.all fun y => (y == ("__debug__" : Str)) == false && (y == ("__classdict__" : Str)) == false)
    (body : ∀ (cdv : Value) (A : Around) (outer : List Env) (s : Shared) (H : Hp) (E : XK), Room k (cxD P w K mg base Ns qual { kind := k1, names := k2, isGenerator := k3, isCoroutine := k4, more := k5 } f cdv A outer s H E).A →
      ∀ (ds : List D) (O : Os) (QA : D → Os → Prop) (EA : Addr → List (Str × D) → Os → Prop) (F : Hp), S ds O QA EA →
      Gd (cxD P w K mg base Ns qual { kind := k1, names := k2, isGenerator := k3, isCoroutine := k4, more := k5 } f cdv A outer s H E) ⟨O, F, H, RlxE EA⟩ →
      ASs (cxD P w K mg base Ns qual { kind := k1, names := k2, isGenerator := k3, isCoroutine := k4, more := k5 } f cdv A outer s H E) ⟨O, F, H, RlxE EA⟩ (b0 :: bs) (startR Ns ds) O { nx := fun _ O' => RlxQ QA .non O', rt := RlxQ QA }) :
    FnOk P w K mg base (L2.CX P w) (k + 1) f fd ps (lift K S) := by
  refine FnOk.imp ?_ (fun vs H Q E h => lift_rlx h)
  refine fnG Fn hsc hbd sc (fun ds O QA EA ⟨Q0, E0, h, _⟩ => len _ _ _ _ h) dbg (fun cdv A outer s H E hr _ ds O QA EA F ⟨Q0, E0, h, eq, ee⟩ G => ?_)
  subst eq ee
  exact body cdv A outer s H E hr ds O Q0 E0 F h G
end
section
variable {X : Cx} {N : Ent} {R : Rho} {O : Os} {Q : D → Os → Prop} {a b : Expr} {pos : Pos}
def rIxD (u : Nat) : R2 := fun x y H Q => ∃ a v, x = .ref a ∧ DGet H a y (some v) ∧ Q v H
theorem mon_ixD {u : Nat} : Mon (rIxD u) := fun x y H Q Q' q ⟨a, v, h1, h2, h⟩ => ⟨a, v, h1, h2, q _ _ h⟩
theorem ix_dic (hu : X.A.units + 1 < cLine) : IxR X (rIxD 0) := by
  intro value slice pins s σ H x y v u Q I rx ry h hs
  obtain ⟨p, w, rfl, g, q⟩ := h
  cases rx
  have hT : s.TypeIs (.ref p) "dict" := dict_typeIs I g
  unfold subscriptTail
  refine wpAny_bind ?_
  rw [getitemInPython_of_ne hT.not_modules]
  refine wpAny_bind (wpAny_specialOf hT PySem.F.slot_dict_getitem.lookup ?_)
  have h2 : wpAny (model X.prog X.w) X.A (getItem (.ref p) u) (EP X pins σ Q) X.xe s := d_getItem hu I g ry fun w' s3 I3 rw' => ⟨w, H, I3, rw', q⟩
  have fin : wpAny (model X.prog X.w) X.A (subscripted slice false (.ref p) u) (fun r s₃ => wpAny (model X.prog X.w) X.A (letTemporaryGo value (.ref p) r >>= fun _ => pure r) (EP X pins σ Q) X.xe s₃) X.xe s := by
    rw [hs]
    exact wpAny_operating (wpAny_mono h2 (fun r s₃ h₃ => wpAny_bind (wpAny_letTemporaryGo (wpAny_pure h₃))) fun _ _ x => x)
  first
    | exact wpAny_pure (wpAny_bind fin)
    | exact wpAny_bind (wpAny_pure (wpAny_bind fin))
    | exact wpAny_bind fin
def rIxV (K : PySem.W.Frag) : R2 := fun x y H Q => ∃ (t u : Addr) (kvs : List (List Key × V)) (ks : List Key) (v : V), x = .ref t ∧ H t = some (.dT kvs) ∧ y = .ref u ∧ SqT K H u (ks.map kV) ∧ valV kvs ks = some v ∧ Q v H
theorem mon_ixV : Mon (rIxV X.K) := fun x y H Q Q' q ⟨t, u, kvs, ks, v, h1, h2, h3, h4, h5, h⟩ => ⟨t, u, kvs, ks, v, h1, h2, h3, h4, h5, q _ _ h⟩
theorem ix_dct (hu : X.A.units + 65 < cLine) : IxR X (rIxV X.K) := by
  intro value slice pins s σ H x y v u Q I rx ry h hs
  obtain ⟨t, ua, kvs, ks, w, rfl, et, rfl, hsq, hv, q⟩ := h
  cases rx
  cases ry
  obtain ⟨z, hd, xs, rel, dd⟩ := dt_of I.hok et
  obtain ⟨w', hw, rw'⟩ := RelO.some_of (v := w) (o := (atKey xs ks).map (·.2)) (by rw [← hv]; exact rel.val ks)
  obtain ⟨p, hp, hp2⟩ := Option.map_eq_some_iff.mp hw
  obtain ⟨its, rv, ht, _⟩ := I.tuple hsq
  obtain ⟨o, h1, h2, n, h3⟩ := ht
  have hT := dd.typeIs
  unfold subscriptTail
  refine wpAny_bind ?_
  rw [getitemInPython_of_ne hT.not_modules]
  refine wpAny_bind (wpAny_specialOf hT PySem.F.slot_dict_getitem.lookup ?_)
  have h2 : wpAny (model X.prog X.w) X.A (getItem (.ref t) (.ref ua)) (EP X pins σ Q) X.xe s := by
    refine wpAny_getItem_heap (tupleKind_room_in1 (by omega)) (show (tupleKind (mixKind X.prog X.w)).is s.heap ks ua from ⟨o, its.toArray, n, h1, h2, h3, by simpa using items_are rv⟩) dd hp ?_
    rw [hp2]
    exact ⟨w, H, I.tok _, rw', q⟩
  have fin : wpAny (model X.prog X.w) X.A (subscripted slice false (.ref t) (.ref ua)) (fun r s₃ => wpAny (model X.prog X.w) X.A (letTemporaryGo value (.ref t) r >>= fun _ => pure r) (EP X pins σ Q) X.xe s₃) X.xe s := by
    rw [hs]
    exact wpAny_operating (wpAny_mono h2 (fun r s₃ h₃ => wpAny_bind (wpAny_letTemporaryGo (wpAny_pure h₃))) fun _ _ x => x)
  first
    | exact wpAny_pure (wpAny_bind fin)
    | exact wpAny_bind (wpAny_pure (wpAny_bind fin))
    | exact wpAny_bind fin
/-- d1[d2], a row, a list, or a dict -/
inductive IxX (O : Os) : D → D → (D → Prop) → Prop
  | tup {ds : List D} {z : Int} {d : D} {P : D → Prop} : atI ds z = some d → P d → IxX O (.tup ds) (.int z) P
  | lst {ds : List D} {z : Int} {d : D} {P : D → Prop} : atI ds z = some d → P d → IxX O (.lst ds) (.int z) P
  | lref {l : Addr} {ds : List D} {z : Int} {d : D} {P : D → Prop} : (l, MO.lst ds) ∈ O → atI ds z = some d → P d → IxX O (.ref l) (.int z) P
  | dicS {kvs : List (Key × D)} {s : Str} {d : D} {P : D → Prop} : getA kvs (.inr s) = some d → P d → IxX O (.dic kvs) (.str s) P
  | dicI {kvs : List (Key × D)} {z : Int} {d : D} {P : D → Prop} : getA kvs (.inl z) = some d → P d → IxX O (.dic kvs) (.int z) P
  | refS {l : Addr} {kvs : List (Key × D)} {s : Str} {d : D} {P : D → Prop} : (l, MO.dic kvs) ∈ O → getA kvs (.inr s) = some d → P d → IxX O (.ref l) (.str s) P
  | refI {l : Addr} {kvs : List (Key × D)} {z : Int} {d : D} {P : D → Prop} : (l, MO.dic kvs) ∈ O → getA kvs (.inl z) = some d → P d → IxX O (.ref l) (.int z) P
  | dct {kvs : List (List Key × D)} {ds : List D} {ks : List Key} {d : D} {P : D → Prop} : ds = ks.map keyD → getA kvs ks = some d → P d → IxX O (.dct kvs) (.tup ds) P
  | refT {l : Addr} {kvs : List (List Key × D)} {ds : List D} {ks : List Key} {d : D} {P : D → Prop} : (l, MO.dct kvs) ∈ O → ds = ks.map keyD → getA kvs ks = some d → P d → IxX O (.ref l) (.tup ds) P
theorem IxX.tup0 {O : Os} {x : D} {ds : List D} {P : D → Prop} (q : P x) : IxX O (.tup (x :: ds)) (.int 0) P := .tup (by unfold atI ixN; simp) q
theorem IxX.to {O : Os} {d1 d2 : D} {P : D → Prop} (h : IxX O d1 d2 P) : ixD O d1 d2 P ∨ (∃ d, dgD O d1 d2 (some d) ∧ P d) ∨ ∃ kvs ks d, dctD O d1 kvs ∧ d2 = .tup (ks.map keyD) ∧ getA kvs ks = some d ∧ P d := by
  cases h with
  | tup e q => exact .inl ⟨_, _, _, .inl rfl, rfl, e, q⟩
  | lst e q => exact .inl ⟨_, _, _, .inr (.inl rfl), rfl, e, q⟩
  | lref m e q => exact .inl ⟨_, _, _, .inr (.inr (.inr ⟨_, rfl, m⟩)), rfl, e, q⟩
  | @dicS kvs s d P e q => exact .inr (.inl ⟨_, ⟨_, .inr s, .inl rfl, rfl, e.symm⟩, q⟩)
  | @dicI kvs z d P e q => exact .inr (.inl ⟨_, ⟨_, .inl z, .inl rfl, rfl, e.symm⟩, q⟩)
  | @refS l kvs s d P m e q => exact .inr (.inl ⟨_, ⟨_, .inr s, .inr ⟨_, rfl, m⟩, rfl, e.symm⟩, q⟩)
  | @refI l kvs z d P m e q => exact .inr (.inl ⟨_, ⟨_, .inl z, .inr ⟨_, rfl, m⟩, rfl, e.symm⟩, q⟩)
  | dct ed e q => exact .inr (.inr ⟨_, _, _, .inl rfl, by rw [ed], e, q⟩)
  | refT m ed e q => exact .inr (.inr ⟨_, _, _, .inr ⟨_, rfl, m⟩, by rw [ed], e, q⟩)
theorem ae_ixX (hu : X.A.units + 65 < cLine) (h : AE X N a R O fun d1 O1 => AE X N b R O1 fun d2 O2 => IxX O2 d1 d2 fun d => Q d O2) (hs : PlainIx b := by intro _ _; rfl) : AE X N (.Subscript a b pos) R O Q :=
  ae_ix (IxR.or (IxR.or (IxR.or ix_list ix_tup) (ix_dic (Nat.lt_of_le_of_lt (Nat.add_le_add_left (by decide) _) hu))) (ix_dct hu)) (mon_or (mon_or (mon_or mon_ixL mon_ixT) mon_ixD) mon_ixV) hs (h.imp fun d1 O1 h => h.imp fun d2 O2 h => by
    rcases h.to with ⟨ds, z, d, e1, e2, e3, q⟩ | ⟨d, g, q⟩ | ⟨kvs, ks, d, hd, ek, hg, q⟩
    · subst e2
      intro v1 v2 σ H F r p1 p2
      cases p2
      rcases e1 with e1 | e1 | e1 | ⟨l, e1, hm⟩
      · subst e1
        cases p1 with
        | tup h1 l1 =>
          obtain ⟨v, hv, rv⟩ := l1.at e3
          exact .inl (.inl (.inr ⟨_, _, z, v, rfl, rfl, same_t r.o.ex h1, hv, QV.same r rv q⟩))
      · subst e1
        cases p1 with
        | lst h1 l1 =>
          obtain ⟨v, hv, rv⟩ := l1.at e3
          exact .inl (.inl (.inl ⟨_, _, z, v, rfl, rfl, SqL.of (r.o.ex _ _ h1), hv, QV.same r rv q⟩))
      · subst e1
        cases p1 with
        | arg h1 l1 =>
          obtain ⟨v, hv, rv⟩ := l1.at e3
          exact .inl (.inl (.inl ⟨_, _, z, v, rfl, rfl, r.o.ex.seq h1, hv, QV.same r rv q⟩))
      · subst e1
        cases p1
        obtain ⟨ws, h1, l1⟩ := (r.o.ob _ hm).2
        obtain ⟨v, hv, rv⟩ := l1.at e3
        exact .inl (.inl (.inl ⟨_, _, z, v, rfl, rfl, SqL.of h1, hv, QV.same r rv q⟩))
    · intro v1 v2 σ H F r p1 p2
      obtain ⟨a, w, e, g', z⟩ := rp_dget r p1 p2 g
      rcases z with ⟨_, z⟩ | ⟨v, d', z1, z2, z3⟩
      · cases z
      · subst z1
        cases z2
        exact .inl (.inr ⟨a, v, e, g', QV.same r z3 q⟩)
    · subst ek
      intro v1 v2 σ H F r p1 p2
      cases p2 with
      | @tup b xs ds hb lb =>
        have hu := keyDs_v lb
        subst hu
        obtain ⟨a, ws, e, hH, l⟩ := rp_dct r p1 hd
        rcases l.get ks with ⟨z1, z2⟩ | ⟨v', d', z1, z2, z3⟩
        · rw [hg] at z2; cases z2
        · rw [hg] at z2
          cases z2
          exact .inr ⟨a, b, ws, ks, v', e, hH, rfl, same_t r.o.ex hb, by rw [getA_val, z1], QV.same r z3 q⟩)
end
section
local macro_rules | `(tactic| walk_at "nBin") => `(tactic| (with_reducible refine ae_repT ?_))
local macro_rules | `(tactic| walk_at "nT") => `(tactic| ((with_reducible refine' at_niTT ?un ?_ ?hm); (case un => walk_at "gu"); (case hm => rfl)))
local macro_rules | `(tactic| walk_at "nS") => `(tactic| first
  | ((with_reducible refine' as_dputT ?un ?_ ?hs); (case un => walk_at "gu"); (case hs => with_unfolding_all rfl))
  | ((with_reducible refine' as_dput ?un ?_ ?hs); (case un => walk_at "gu"); (case hs => with_unfolding_all rfl))
  | ((with_reducible refine' as_fld ?_ ?hs); (case hs => with_unfolding_all rfl)))
local macro_rules | `(tactic| walk_at "nE") => `(tactic| first
  | ((with_reducible refine' ae_n ?g ?_); (case g => walk_at "g"))
  | ((with_reducible refine' ae_gm ?g ?hg ?_); (case g => assumption); (case hg => with_unfolding_all rfl))
  | ((with_reducible refine' ae_niTup ?_ ?hm); (case hm => rfl))
  | ((with_reducible refine' ae_inTup ?_ ?hm); (case hm => rfl)))
local macro_rules | `(tactic| walk_at "nSub") => `(tactic| first
  | (with_reducible refine ae_sl ?_)
  | ((with_reducible refine' ae_two ?T ?hg ?_ ?hs); (case T => assumption); (case hg => with_unfolding_all rfl); (case hs => exact fun _ _ => rfl))
  | ((with_reducible refine' ae_ixX ?un ?_ ?hs); (case un => walk_at "gu"); (case hs => exact fun _ _ => rfl)))
local macro_rules | `(tactic| walk_at "nR") => `(tactic| first
  | (with_reducible refine IxX.tup0 ?_)
  | (with_reducible refine IxX.tup1 ?_)
  | (with_reducible refine IxX.tup2 ?_)
  | (with_reducible refine aps_cons ?_)
  | (with_reducible refine aps_nil ?_)
  | ((with_reducible refine' sl_2n ?e ?_); (case e => decide))
  | ((with_reducible refine' sl_3n ?e ?_); (case e => decide))
  | ((with_reducible refine' sl_1n ?e ?_); (case e => decide))
  | ((with_reducible refine' sl_n1 ?e ?_); (case e => decide))
  | ((with_reducible refine' sl_n2 ?e ?_); (case e => decide))
  | ((with_reducible refine' IxX.tup ?h ?_); (case h => rfl))
  | ((with_reducible refine' IxX.lst ?h ?_); (case h => rfl))
  | ((with_reducible refine' IxX.dicS ?h ?_); (case h => rfl))
  | ((with_reducible refine' AddX.tup ?c ?_); (case c => exact Nat.le_of_ble_eq_true rfl)))
local macro_rules | `(tactic| walk_at "sl") => `(tactic| repeat (first | (with_reducible exact Sel.nil) | ((with_reducible apply Sel.cons); (focus (repeat (first | (with_reducible exact Take.head) | (with_reducible apply Take.tail)))))))
local macro_rules | `(tactic| walk_at "disp") => `(tactic| ((with_reducible refine' ae_disp ?_ ?hall ?hl ?h0 ?h15); (case hall => rfl); (case hl => rfl); (case h0 => exact List.cons_ne_nil _ _); (case h15 => exact Nat.le_of_ble_eq_true rfl)))
local macro_rules | `(tactic| walk_at "din") => `(tactic| ((with_reducible refine' at_din ?un ?_ ?hm); (case un => walk_at "gu"); (case hm => rfl)))
local macro_rules | `(tactic| walk_at "dni") => `(tactic| ((with_reducible refine' at_dni ?un ?_ ?hm); (case un => walk_at "gu"); (case hm => rfl)))
local macro_rules | `(tactic| walk_at "or") => `(tactic| (with_reducible refine ae_or ?_))
local macro_rules | `(tactic| walk_at "get") => `(tactic| ((with_reducible refine' ae_dgetOr ?un ?_ ?m); (case un => walk_at "gu"); (case m => exact ⟨rfl, rfl, rfl, rfl⟩)))
local macro_rules | `(tactic| walk_at "dnew") => `(tactic| (with_reducible refine ae_dnew ?_))
local macro_rules | `(tactic| walk_at "inr") => `(tactic| ((with_reducible refine' at_inR ?_ ?hm); (case hm => rfl)))
/-! Q3: what a call wants. -/
open PySem.PyData (strOk)
abbrev sWanted : Stmt := inCls 17 6
abbrev wantD (w : List Kd × Kd × Nat) : D := .tup [.tup (w.1.map Kd.enc), w.2.1.enc, .int (w.2.2 : Nat)]
def spWanted (C : Addr) (c : Cs) : ASp := fun ds O Q E => ∃ (h : Hd) (s : Str) (ps : List D) (p : Nat), O = [] ∧ strOk s = true ∧
  ((ds = [hdD C h, .tup [.str "call", .str s, .tup ps], .int (p : Nat)] ∧ match wantC h s with
    | some w => Q (wantD w) []
    | none => E c.n (Er.fs (.name s p)) []) ∨
   (ds = [hdD C h, .tup [.str "new", .str s, .tup ps], .int (p : Nat)] ∧ (s = "pair" ∨ s = "twin") ∧ Q (wantD (wantN s)) []))
theorem getA_key2 {κ α : Type} [DecidableEq κ] {a b k : κ} {x y : α} (h1 : a ≠ k) (h2 : b ≠ k) : getA [(a, x), (b, y)] k = none := by
  rw [getA_neg h1, getA_neg h2]; rfl
section
variable {P : Program} {w : World} {K : PySem.W.Frag} {mg : Str → Option Value} {base : Heap} {f : Addr} {fd : FuncData} {k : Nat} {c : Cs} {CL CH : Addr}
theorem okWanted (B : Lib mg) (L : HdC K CH) (e1 : RaiseC P w K mg base k "NoName" c.n "name" "place") (Fn : Fun K "wanted" "Heads.wanted" sWanted f fd) : FnOk P w K mg base (L2.CX P w) (k + 1 + 1) f fd ["self", "node", "place"] (lift K (spWanted CH c)) := by
  refine gate ?_
  simp (disch := with_unfolding_all (
      refine fnG (Ns := ["self", "node", "place", "kinds", "field", "part"]) Fn rfl rfl ⟨rfl, rfl, rfl, by decide +kernel, rfl, by decide +kernel, by decide +kernel⟩ (fun ds O QA EA h => ?_) (by decide) (fun cdv A outer s H E hr T ds O QA EA F h G => ?_)
      · obtain ⟨h, s, ps, p, eO, hs, ⟨x, _⟩ | ⟨x, _⟩⟩ := h
        · rw [x]; rfl
        · rw [x]; rfl
      obtain ⟨h, s, ps, p, eO, hs, ⟨x, q⟩ | ⟨x, hb, q⟩⟩ := h
      · have l1 := L.cls
        have l2 := L.m
        have l3 := L.k
        have l4 := L.p
        subst x eO
        walk_at "r"
        walk_at "ks"
        by_cases h1 : s = "main"
        · subst h1
          refine dgo_str (o := some _) rfl ?_
          refine ite_nt ?_
          walk_at "ks"
          refine IxX.dct (ks := [.inr "fun", .inr "main"]) rfl rfl ?_
          walk_at "ks"
          exact q
        by_cases h2 : s = "g"
        · subst h2
          refine dgo_str (o := some _) rfl ?_
          refine ite_nt ?_
          walk_at "ks"
          refine IxX.dct (ks := [.inr "fun", .inr "g"]) rfl rfl ?_
          walk_at "ks"
          exact q
        have hw : wantC h s = none := by unfold wantC; rw [if_neg h1, if_neg h2]
        rw [hw] at q
        refine dgo_str (o := none) (getA_key2 (fun z => h1 (Sum.inr.inj z).symm) (fun z => h2 (Sum.inr.inj z).symm)) ?_
        refine ite_nf ?_
        walk_at "ks"
        exact q
      · have l1 := L.cls
        have l2 := L.m
        have l3 := L.k
        have l4 := L.p
        subst x eO
        walk_at "r"
        rcases hb with rfl | rfl
        · walk_at "ks"
          refine dgo_str (o := some _) rfl ?_
          refine ite_nt ?_
          walk_at "ks"
          refine ae_lc true [("field", 4), ("part", 5)] (G.comp true) G.calm G.nd (blkOk_by (by kernel_rfl)) (by walk_at "b") (ai_lst ?_)
          walk_at "ks"
          refine ⟨_, rfl, ?_⟩
          walk_at "cb"
          walk_at "ks"
          walk_at "sb"
          walk_at "ks"
          walk_at "cb"
          walk_at "ks"
          walk_at "sb"
          walk_at "ks"
          refine comp_nil ?_
          walk_at "ks"
          refine IxX.dct (ks := [.inr "record", .inr "pair"]) rfl rfl ?_
          walk_at "ks"
          exact q
        · walk_at "ks"
          refine dgo_str (o := some _) rfl ?_
          refine ite_nt ?_
          walk_at "ks"
          refine ae_lc true [("field", 4), ("part", 5)] (G.comp true) G.calm G.nd (blkOk_by (by kernel_rfl)) (by walk_at "b") (ai_lst ?_)
          walk_at "ks"
          refine ⟨_, rfl, ?_⟩
          walk_at "cb"
          walk_at "ks"
          walk_at "sb"
          walk_at "ks"
          walk_at "cb"
          walk_at "ks"
          walk_at "sb"
          walk_at "ks"
          refine comp_nil ?_
          walk_at "ks"
          refine IxX.dct (ks := [.inr "record", .inr "twin"]) rfl rfl ?_
          walk_at "ks"
          exact q
    )) only [↓gate_rule]
end
/-! M4: more of what the looking computes. -/
open PySem.PyData (strOk)
def Rz {α : Type} (m : Except Er α) (ok : α → Prop) (bad : Er → Prop) : Prop := match m with
  | .ok a => ok a
  | .error e => bad e
theorem rz_ok {α : Type} {m : Except Er α} {ok : α → Prop} {bad : Er → Prop} {a : α} (h : Rz m ok bad) (e : m = .ok a) : ok a := by rw [e] at h; exact h
theorem rz_bad {α : Type} {m : Except Er α} {ok : α → Prop} {bad : Er → Prop} {er : Er} (h : Rz m ok bad) (e : m = .error er) : bad er := by rw [e] at h; exact h
theorem rz_bind {α β : Type} {m : Except Er α} {g : α → Except Er β} {ok : β → Prop} {bad : Er → Prop} (h : Rz (m.bind g) ok bad) : Rz m (fun a => Rz (g a) ok bad) bad := by
  cases m with
  | ok a => exact h
  | error e => exact h
theorem rz_imp {α : Type} {m : Except Er α} {ok ok' : α → Prop} {bad bad' : Er → Prop} (h : Rz m ok bad) (h1 : ∀ a, m = .ok a → ok a → ok' a) (h2 : ∀ e, bad e → bad' e) : Rz m ok' bad' := by
  cases m with
  | ok a => exact h1 a rfl h
  | error e => exact h2 e h
theorem rz_then {α : Type} {o : Option Er} {a : α} {ok : α → Prop} {bad : Er → Prop} (h : Rz (thenE o a) ok bad) : (o = none → ok a) ∧ (∀ e, o = some e → bad e) := by
  cases o with
  | none => exact ⟨fun _ => h, (fun e z => nomatch z)⟩
  | some e => exact ⟨(fun z => nomatch z), (fun e' z => by cases z; exact h)⟩
/-! ### names -/
theorem encNm_app {ns : Nm} {x : Str} {k : Kd} {p : Nat} : encNm (ns ++ [(x, k, p)]) = encNm ns ++ [(.inr x, .tup [k.enc, .int (p : Nat)])] := by
  unfold encNm; rw [List.map_append]; rfl
theorem encNm_len {ns : Nm} : (encNm ns).length = ns.length := by unfold encNm; rw [List.length_map]
theorem getA_nm {s : Str} : ∀ {ns : Nm}, getA (encNm ns) (.inr s) = (lookN ns s).map fun k => D.tup [k.1.enc, .int (k.2 : Nat)]
  | [] => rfl
  | x :: r => by
    show getA (((.inr x.1 : Key), D.tup [x.2.1.enc, .int (x.2.2 : Nat)]) :: encNm r) (.inr s) = _
    unfold lookN
    by_cases e : x.1 = s
    · rw [getA_pos (congrArg Sum.inr e), if_pos e]; rfl
    · rw [getA_neg (fun z => e (Sum.inr.inj z)), if_neg e, getA_nm]
theorem setA_nm {ns : Nm} {x : Str} {k : Kd} {p : Nat} (h : lookN ns x = none) : setA (encNm ns) (.inr x) (.tup [k.enc, .int (p : Nat)]) = encNm (ns ++ [(x, k, p)]) := by
  rw [encNm_app, setA_new]
  rw [getA_nm, h]; rfl
def NmOk (ns : Nm) : Prop := ∀ x ∈ ns, K6 x.2.1
theorem lookN_ok {s : Str} {k : Kd × Nat} : ∀ {ns : Nm}, NmOk ns → lookN ns s = some k → K6 k.1
  | [], _, h => nomatch h
  | x :: r, ok, h => by
    unfold lookN at h
    by_cases e : x.1 = s
    · rw [if_pos e] at h
      cases h
      exact ok x List.mem_cons_self
    · rw [if_neg e] at h
      exact lookN_ok (fun y hy => ok y (List.mem_cons_of_mem _ hy)) h
theorem nmOk_app {ns : Nm} {x : Str} {k : Kd} {p : Nat} (h : NmOk ns) (hk : K6 k) : NmOk (ns ++ [(x, k, p)]) := fun y hy => by
  rcases List.mem_append.mp hy with z | z
  · exact h y z
  · rw [List.mem_singleton.mp z]; exact hk
/-! ### kinds -/
def EW.op : EW → Bool
  | .num _ => false
  | .truth _ => false
  | .name _ => false
  | _ => true
theorem ask_op {h : Hd} {ns : Nm} {w : EW} {ps : List Ex} {p : Nat} (e : w.op = true) : (Ex.mk w ps).ask h ns p = (Ex.asks h ns ps (p + 1)).bind fun as => (reckon h p w as).bind fun r => .ok ⟨finD w as r, r.kd, p⟩ := by
  cases w <;> first | (cases e; done) | (simp only [Ex.ask])
theorem then_ok {α : Type} {o : Option Er} {a b : α} (h : thenE o a = .ok b) : a = b := by
  cases o with
  | none => cases h; rfl
  | some e => cases h
theorem bind_ok {α β : Type} {m : Except Er α} {g : α → Except Er β} {b : β} (h : m.bind g = .ok b) : ∃ a, m = .ok a ∧ g a = .ok b := by
  cases m with
  | ok a => exact ⟨a, rfl, h⟩
  | error e => cases h
theorem called_kd {as : List As} {w : List Kd × Kd × Nat} {p : Nat} {r : Rk} (h : called as w p = .ok r) : r.kd = w.2.1 := by
  unfold called at h
  split at h
  · rw [← then_ok h]
  · cases h
theorem wantC_kd {h : Hd} {f : Str} {w : List Kd × Kd × Nat} (e : wantC h f = some w) : K6 w.2.1 ∧ ∀ k ∈ w.1, K6 k := by
  unfold wantC at e
  split at e
  · cases e; exact ⟨.num, fun k hk => by simp only [List.mem_cons, List.not_mem_nil, or_false] at hk; rcases hk with rfl | rfl | rfl | rfl <;> constructor⟩
  · split at e
    · cases e; exact ⟨.row2, fun k hk => by simp only [List.mem_cons, List.not_mem_nil, or_false] at hk; rcases hk with rfl | rfl <;> constructor⟩
    · cases e
theorem wantN_kd {c : Str} (e : c = "pair" ∨ c = "twin") : K6 (wantN c).2.1 ∧ ∀ k ∈ (wantN c).1, K6 k := by
  refine ⟨?_, fun k hk => ?_⟩
  · rcases e with rfl | rfl
    · exact .pair
    · exact .twin
  · unfold wantN at hk
    simp only [List.mem_cons, List.not_mem_nil, or_false] at hk; rcases hk with rfl | rfl <;> constructor
theorem fieldK_kd {f : Str} {p : Nat} {x : Nat × Kd} (h : fieldK f p = .ok x) : K6 x.2 ∧ x.1 < 2 := by
  unfold fieldK at h
  split at h
  · cases h; exact ⟨.num, by decide⟩
  · split at h
    · cases h; exact ⟨.truth, by decide⟩
    · cases h
theorem reckon_kd {h : Hd} {p : Nat} : ∀ {w : EW} {as : List As} {r : Rk}, w.ok as.length → reckon h p w as = .ok r → K6 r.kd
  | .num _, _, _, _, e => nomatch e
  | .truth _, _, _, _, e => nomatch e
  | .name _, _, _, _, e => nomatch e
  | .call f, as, r, _, e => by
    simp only [reckon] at e
    cases hw : wantC h f with
    | none => rw [hw] at e; cases e
    | some w => rw [hw] at e; rw [called_kd e]; exact (wantC_kd hw).1
  | .new c, as, r, ok, e => by
    simp only [reckon] at e
    rw [called_kd e]; exact (wantN_kd ok.2).1
  | .field f, a :: _, r, _, e => by
    simp only [reckon] at e
    split at e
    · obtain ⟨x, hx, e⟩ := bind_ok e
      cases e
      exact (fieldK_kd hx).1
    · cases e
  | .field f, [], r, ok, e => nomatch e
  | .index, a :: b :: _, r, _, e => by
    simp only [reckon] at e
    split at e
    · rw [← then_ok e]; exact .num
    · cases e
  | .index, [a], r, ok, e => nomatch e
  | .index, [], r, ok, e => nomatch e
  | .row, as, r, ok, e => by
    simp only [reckon] at e
    rw [← then_ok e]
    rcases ok with z | z
    · show K6 (.row as.length); rw [z]; exact .row2
    · show K6 (.row as.length); rw [z]; exact .row3
  | .one o, as, r, ok, e => by
    simp only [reckon] at e
    split at e
    · rw [← then_ok e]; exact .truth
    · rw [← then_ok e]; exact .num
  | .two o, as, r, ok, e => by
    simp only [reckon] at e
    split at e
    · rw [← then_ok e]; exact .truth
    · rw [← then_ok e]
      show K6 (if _ then _ else _)
      split
      · exact .truth
      · exact .num
theorem asks_len {h : Hd} {ns : Nm} : ∀ {es : List Ex} {p : Nat} {as : List As}, Ex.asks h ns es p = .ok as → as.length = es.length
  | [], _, as, e => by simp only [Ex.asks] at e; cases e; rfl
  | x :: es, p, as, e => by
    simp only [Ex.asks] at e
    obtain ⟨a, _, e⟩ := bind_ok e
    obtain ⟨as', e1, e⟩ := bind_ok e
    cases e
    simp only [List.length_cons, asks_len e1]
theorem ask_at {h : Hd} {ns : Nm} {e : Ex} {p : Nat} {a : As} (q : e.ask h ns p = .ok a) : a.at_ = p := by
  cases e with
  | mk w ps =>
  cases hw : w.op with
  | true =>
    rw [ask_op hw] at q
    obtain ⟨as, _, q⟩ := bind_ok q
    obtain ⟨r, _, q⟩ := bind_ok q
    cases q; rfl
  | false =>
    cases w <;> first | (cases hw; done) | skip
    · simp only [Ex.ask] at q; cases q; rfl
    · simp only [Ex.ask] at q; cases q; rfl
    · simp only [Ex.ask] at q
      split at q
      · cases q
      · cases q; rfl
theorem asks_all {h : Hd} {ns : Nm} {P : As → Prop} : ∀ {es : List Ex} {p : Nat} {as : List As}, (∀ e ∈ es, ∀ p a, e.ask h ns p = .ok a → P a) → Ex.asks h ns es p = .ok as → ∀ a ∈ as, P a
  | [], _, as, _, e => by simp only [Ex.asks] at e; cases e; exact fun _ z => nomatch z
  | x :: es, p, as, hp, e => by
    simp only [Ex.asks] at e
    obtain ⟨a, e0, e⟩ := bind_ok e
    obtain ⟨as', e1, e⟩ := bind_ok e
    cases e
    intro b hb
    rcases List.mem_cons.mp hb with z | z
    · rw [z]; exact hp x List.mem_cons_self _ _ e0
    · exact asks_all (fun e he => hp e (List.mem_cons_of_mem _ he)) e1 b z
theorem ask_kd {h : Hd} {ns : Nm} (hn : NmOk ns) : ∀ {n : Nat} {e : Ex}, Wf n e → ∀ {p : Nat} {a : As}, e.ask h ns p = .ok a → K6 a.kd
  | n + 1, .mk w ps, .mk ok hp, p, a, q => by
    cases hw : w.op with
    | true =>
      rw [ask_op hw] at q
      obtain ⟨as, e1, q⟩ := bind_ok q
      obtain ⟨r, e2, q⟩ := bind_ok q
      cases q
      exact reckon_kd (by rw [asks_len e1]; exact ok) e2
    | false =>
      cases w <;> first | (cases hw; done) | skip
      · simp only [Ex.ask] at q; cases q; exact .num
      · simp only [Ex.ask] at q; cases q; exact .truth
      · simp only [Ex.ask] at q
        split at q
        · cases q
        · rename_i x hx
          cases q; exact lookN_ok hn hx
theorem asks_kd {h : Hd} {ns : Nm} (hn : NmOk ns) {n : Nat} {es : List Ex} {p : Nat} {as : List As} (hw : ∀ e ∈ es, Wf n e) (q : Ex.asks h ns es p = .ok as) : ∀ a ∈ as, K6 a.kd :=
  asks_all (fun e he p a z => ask_kd hn (hw e he) z) q
theorem op2_bool {s : Str} (h : s ∈ ops9) : (op2 s ∈ (["and", "or", "not"] : List Str) ↔ s = "and" ∨ s = "or") ∧ (op2 s ∈ (["less", "same"] : List Str) ↔ s = "<" ∨ s = "=") ∧ ((s = "and" ∨ s = "or") → op2 s = s) := by
  unfold ops9 at h
  simp only [List.mem_cons, List.not_mem_nil, or_false] at h
  rcases h with rfl | rfl | rfl | rfl | rfl | rfl | rfl | rfl | rfl <;> decide +kernel
/-! A24: names of the module; calls of need_agree. -/
structure GlM (K : PySem.W.Frag) (mg : Str → Option Value) (x : Str) (d : D) : Prop where
  to : ∃ v u, mg x = some u ∧ RelV v u ∧ (∀ F, Rp K F v d) ∧ (x == ("__debug__" : Str)) = false
structure TwoC (w : World) (K : PySem.W.Frag) (mg : Str → Option Value) : Prop where
  to : ∃ t es n, mg "TWO" = some (.ref t) ∧ K.lookup t = some ⟨.type "dict", none, .dict es n, #[]⟩ ∧ PySem.W.KeysLit w.params es.toList ∧ ∀ s ∈ ops9, ∃ tk, PySem.W.nsIn K t s = some (some (.str (op2 s) tk))
section
variable {X : Cx} {N : Ent} {R : Rho} {O : Os} {Q : D → Os → Prop} {a b : Expr} {p pos : Pos} {x : Str} {d : D} {c : Cs}
theorem ae_gm (g : GlM X.K X.mg x d) (hg : Gl X x) (q : Q d O) : AE X N (.Name x p) R O Q := ae_g ⟨g.to⟩ hg q
theorem ae_two (T : TwoC X.w X.K X.mg) (hg : Gl X "TWO") (h : AE X N b R O fun d O1 => ∃ s, d = .str s ∧ s ∈ ops9 ∧ Q (.str (op2 s)) O1) (hs : PlainIx b := by intro _ _; rfl) : AE X N (.Subscript (.Name "TWO" p) b pos) R O Q := by
  obtain ⟨t, es, n, h1, h2, h3, h4⟩ := T.to
  refine ae_kitem h2 h3 ?_ hs
  refine ae_g (d := .ref t) ⟨.ref t, .ref t, h1, rfl, fun F => .ref t, by decide⟩ hg ?_
  refine h.imp fun d O1 ⟨s, e, hs, q⟩ => ?_
  obtain ⟨tk, h5⟩ := h4 s hs
  exact ⟨rfl, s, op2 s, tk, e, h5, q⟩
theorem c_need {N : Ent} {a b : Kd} {i j : Nat} (ha : K6 a) (hb : K6 b) (h1 : a = b → Q .non O) (h2 : a ≠ b → ∃ O2, Pk O [] [] O2 ∧ N.EX c.f (Er.fs (.fit i j)) O2) : CallS N (spNeed c) [a.enc, b.enc, .int (i : Nat), .int (j : Nat)] O Q := by
  refine calls_0 ⟨_, _, i, j, _, rfl, rfl, kd_eq ha hb, fun e => ⟨_, pk_nil, h1 (by simpa using e)⟩, fun e => h2 (by simpa using e)⟩
theorem c_needS {N : Ent} {s t : Str} {i j : Nat} (hs : PyData.strOk s = true := by decide +kernel) (ht : PyData.strOk t = true := by decide +kernel) (h1 : s = t → Q .non O) (h2 : s ≠ t → ∃ O2, Pk O [] [] O2 ∧ N.EX c.f (Er.fs (.fit i j)) O2) : CallS N (spNeed c) [.str s, .str t, .int (i : Nat), .int (j : Nat)] O Q := by
  refine calls_0 ⟨_, _, i, j, _, rfl, rfl, eqP_str hs ht, fun e => ⟨_, pk_nil, h1 (by simpa using e)⟩, fun e => h2 (by simpa using e)⟩
end
theorem len2 {α : Type} : ∀ {l : List α}, l.length = 2 → ∃ a b, l = [a, b]
  | [a, b], _ => ⟨a, b, rfl⟩
theorem ite_ni {a b : Nat} {A B : Prop} (ha : a ≠ b → A) (hb : a = b → B) : if (!decide ((a : Int) = (b : Int))) = true then A else B := by
  by_cases h : a = b
  · rw [if_neg (by subst h; simp)]; exact hb h
  · rw [if_pos (by simp only [Bool.not_eq_true', decide_eq_false_iff_not]; omega)]; exact ha h
def needsZ : List As → List Kd → List D
  | a :: as, k :: ks => .tup [a.enc, k.enc] :: needsZ as ks
  | _, _ => []
theorem needsZ_eq : ∀ {as : List As} {ks : List Kd}, zips (as.map As.enc) (ks.map Kd.enc) = needsZ as ks
  | [], _ => by simp only [List.map_nil, zips, needsZ]
  | _ :: _, [] => by simp only [List.map_nil, List.map_cons, zips, needsZ]
  | a :: as, k :: ks => by simp only [List.map_cons, zips, needsZ, needsZ_eq]
def Kd.wd : Kd → Str
  | .num => "num"
  | .truth => "truth"
  | .row _ => "row"
  | .named _ => "named"
def Kd.rest : Kd → List D
  | .num => []
  | .truth => []
  | .row n => [.int (n : Nat)]
  | .named c => [.str c]
theorem Kd.enc_wd (k : Kd) : k.enc = .tup (.str k.wd :: k.rest) := by cases k <;> rfl
theorem Kd.wd_ok (k : Kd) : PyData.strOk k.wd = true := by cases k <;> (simp only [Kd.wd]; decide +kernel)
theorem wd_row (k : Kd) : isRow k = decide (k.wd = "row") := by
  cases k with
  | row n => rfl
  | num => decide +kernel
  | truth => decide +kernel
  | named c => exact (decide_eq_false (show ¬ ("named" : Str) = "row" by decide +kernel)).symm
theorem wd_named (k : Kd) : isNamed k = decide (k.wd = "named") := by
  cases k with
  | named n => rfl
  | num => decide +kernel
  | truth => decide +kernel
  | row c => exact (decide_eq_false (show ¬ ("row" : Str) = "named" by decide +kernel)).symm
theorem named_of {k : Kd} (hk : K6 k) (h : k.wd = "named") : ∃ b, k = .named b ∧ (b = "pair" ∨ b = "twin") := by
  cases hk with
  | pair => exact ⟨_, rfl, .inl rfl⟩
  | twin => exact ⟨_, rfl, .inr rfl⟩
  | num => exact absurd h (by decide +kernel)
  | truth => exact absurd h (by decide +kernel)
  | row2 => exact absurd h (by decide +kernel)
  | row3 => exact absurd h (by decide +kernel)
end
section
local macro_rules | `(tactic| walk_at "nBin") => `(tactic| (with_reducible refine ae_repT ?_))
local macro_rules | `(tactic| walk_at "nT") => `(tactic| ((with_reducible refine' at_niTT ?un ?_ ?hm); (case un => walk_at "gu"); (case hm => rfl)))
local macro_rules | `(tactic| walk_at "nS") => `(tactic| first
  | ((with_reducible refine' as_dputT ?un ?_ ?hs); (case un => walk_at "gu"); (case hs => with_unfolding_all rfl))
  | ((with_reducible refine' as_dput ?un ?_ ?hs); (case un => walk_at "gu"); (case hs => with_unfolding_all rfl))
  | ((with_reducible refine' as_fld ?_ ?hs); (case hs => with_unfolding_all rfl)))
local macro_rules | `(tactic| walk_at "nE") => `(tactic| first
  | ((with_reducible refine' ae_n ?g ?_); (case g => walk_at "g"))
  | ((with_reducible refine' ae_gm ?g ?hg ?_); (case g => assumption); (case hg => with_unfolding_all rfl))
  | ((with_reducible refine' ae_niTup ?_ ?hm); (case hm => rfl))
  | ((with_reducible refine' ae_inTup ?_ ?hm); (case hm => rfl)))
local macro_rules | `(tactic| walk_at "nSub") => `(tactic| first
  | (with_reducible refine ae_sl ?_)
  | ((with_reducible refine' ae_two ?T ?hg ?_ ?hs); (case T => assumption); (case hg => with_unfolding_all rfl); (case hs => exact fun _ _ => rfl))
  | ((with_reducible refine' ae_ixX ?un ?_ ?hs); (case un => walk_at "gu"); (case hs => exact fun _ _ => rfl)))
local macro_rules | `(tactic| walk_at "nR") => `(tactic| first
  | (with_reducible refine IxX.tup0 ?_)
  | (with_reducible refine IxX.tup1 ?_)
  | (with_reducible refine IxX.tup2 ?_)
  | (with_reducible refine aps_cons ?_)
  | (with_reducible refine aps_nil ?_)
  | ((with_reducible refine' sl_2n ?e ?_); (case e => decide))
  | ((with_reducible refine' sl_3n ?e ?_); (case e => decide))
  | ((with_reducible refine' sl_1n ?e ?_); (case e => decide))
  | ((with_reducible refine' sl_n1 ?e ?_); (case e => decide))
  | ((with_reducible refine' sl_n2 ?e ?_); (case e => decide))
  | ((with_reducible refine' IxX.tup ?h ?_); (case h => rfl))
  | ((with_reducible refine' IxX.lst ?h ?_); (case h => rfl))
  | ((with_reducible refine' IxX.dicS ?h ?_); (case h => rfl))
  | ((with_reducible refine' AddX.tup ?c ?_); (case c => exact Nat.le_of_ble_eq_true rfl)))
local macro_rules | `(tactic| walk_at "sl") => `(tactic| repeat (first | (with_reducible exact Sel.nil) | ((with_reducible apply Sel.cons); (focus (repeat (first | (with_reducible exact Take.head) | (with_reducible apply Take.tail)))))))
local macro_rules | `(tactic| walk_at "disp") => `(tactic| ((with_reducible refine' ae_disp ?_ ?hall ?hl ?h0 ?h15); (case hall => rfl); (case hl => rfl); (case h0 => exact List.cons_ne_nil _ _); (case h15 => exact Nat.le_of_ble_eq_true rfl)))
local macro_rules | `(tactic| walk_at "din") => `(tactic| ((with_reducible refine' at_din ?un ?_ ?hm); (case un => walk_at "gu"); (case hm => rfl)))
local macro_rules | `(tactic| walk_at "dni") => `(tactic| ((with_reducible refine' at_dni ?un ?_ ?hm); (case un => walk_at "gu"); (case hm => rfl)))
local macro_rules | `(tactic| walk_at "or") => `(tactic| (with_reducible refine ae_or ?_))
local macro_rules | `(tactic| walk_at "get") => `(tactic| ((with_reducible refine' ae_dgetOr ?un ?_ ?m); (case un => walk_at "gu"); (case m => exact ⟨rfl, rfl, rfl, rfl⟩)))
local macro_rules | `(tactic| walk_at "dnew") => `(tactic| (with_reducible refine ae_dnew ?_))
local macro_rules | `(tactic| walk_at "inr") => `(tactic| ((with_reducible refine' at_inR ?_ ?hm); (case hm => rfl)))
/-! Q4: the operation of an expression. -/
open PySem.PyData (strOk)
abbrev sReck : Stmt := inCls 18 6
def spReck (CL CH : Addr) (c : Cs) : ASp := fun ds O Q E => ∃ (a : Addr) (h : Hd) (g : D) (q : Int) (p : Nat) (w : EW) (pds : List D) (as : List As), ds = [.ref a, EW.enc w pds, .int (p : Nat), .lst (as.map As.enc)] ∧ O = [(a, lkM CL (hdD CH h) g q)] ∧ w.op = true ∧ w.ok as.length ∧ pds.length = as.length ∧ (∀ x ∈ as, K6 x.kd) ∧
  Rz (reckon h p w as) (fun r => Q (.tup [.str r.op, r.extra, r.kd.enc]) O) (fun er => E (er.C c) er.fs O)
section
variable {P : Program} {w : World} {K : PySem.W.Frag} {mg : Str → Option Value} {base : Heap} {f : Addr} {fd : FuncData} {k : Nat} {c : Cs} {CL CH : Addr}
theorem okReck (B : Lib mg) (LL : LkC K CL) (L : HdC K CH) (n1 : GlM K mg "NUM" (Kd.enc .num)) (n2 : GlM K mg "TRUTH" (Kd.enc .truth)) (TW : TwoC w K mg) (g1 : FnA P w K mg base (k + 1) "need_agree" (spNeed c)) (g2 : MtA P w K mg base (k + 1) CH "wanted" (spWanted CH c)) (g3 : MtA P w K mg base (k + 1) CH "field" (spFld CH c))
    (e1 : RaiseC P w K mg base k "NoFit" c.f "wants" "gives") (Fn : Fun K "reckoned_kind" "Looker.reckoned_kind" sReck f fd) : FnOk P w K mg base (L2.CX P w) (k + 1 + 1) f fd ["self", "node", "place", "asked"] (lift K (spReck CL CH c)) := by
  refine gate ?_
  simp (disch := with_unfolding_all (
      refine fnG (Ns := ["self", "node", "place", "asked", "op", "extra", "due", "kind", "wanted", "told", "part", "other", "there", "own", "whole"]) Fn rfl rfl ⟨rfl, rfl, rfl, by decide +kernel, rfl, by decide +kernel, by decide +kernel⟩ (fun ds O QA EA h => ?_) (by decide) (fun cdv A outer s H E hr T ds O QA EA F h G => ?_)
      · obtain ⟨a, h, g, q, p, w, pds, as, x, _⟩ := h
        rw [x]; rfl
      obtain ⟨a, h, g, q0, p, w, pds, as, x, eO, hop, hok, hpl, hk, q⟩ := h
      have l1 := L.cls
      have l2 := L.m
      have l3 := L.k
      have l4 := L.p
      have l5 := LL.cls
      have l6 := LL.h
      have l7 := LL.g
      have l8 := LL.p
      subst eO
      cases w with
      | num _ => cases hop
      | truth _ => cases hop
      | name _ => cases hop
      | call s =>
        unfold EW.enc at x
        subst x
        walk_at "r"
        walk_at "ks"
        refine calls_0 ⟨h, s, pds, p, rfl, hok.2, .inl ⟨rfl, ?_⟩⟩
        simp only [reckon] at q
        cases hw : wantC h s with
        | none => rw [hw] at q; exact ⟨_, pk_nil, q⟩
        | some wt =>
          rw [hw] at q
          replace q : Rz (called as wt p) _ _ := q
          have hk2 := (wantC_kd hw).2
          refine ⟨_, pk_nil, ?_⟩
          walk_at "ks"
          unfold called at q
          refine ite_ni (fun z => ?_) (fun z => ?_)
          · rw [if_neg (by simpa only [List.length_map] using z)] at q
            walk_at "ks"
            exact q
          rw [if_pos (by simpa only [List.length_map] using z)] at q
          obtain ⟨q1, q2⟩ := rz_then q
          walk_at "ks"
          refine ai_zip rfl B.zip ?_ rfl
          walk_at "ks"
          refine ⟨_, _, .inl rfl, .inr rfl, ?_⟩
          rw [needsZ_eq]
          refine LoopA.inv (fun ds R O' => ∃ as' ks' o1 o2 o3 o4, ds = needsZ as' ks' ∧ (∀ a ∈ as', K6 a.kd) ∧ (∀ x ∈ ks', K6 x) ∧ needs as' ks' p = needs as wt.1 p ∧ O' = [(a, lkM CL (hdD CH h) g q0)] ∧ R = ([("self", some (.ref a)), ("node", some (.tup [.str "call", .str s, .tup pds])), ("place", some (.int p)), ("asked", some (.lst (as.map As.enc))), ("op", some (.str "make")), ("extra", some .non), ("due", some Kd.num.enc), ("kind", some wt.2.1.enc), ("wanted", some (.tup (wt.1.map Kd.enc))), ("told", some (.int wt.2.2)), ("part", o1), ("other", o2), ("there", o3), ("own", o4), ("whole", none)] : Rho)) (fun R O' h' => ?_) (fun d ds R O' h' => ?_) ⟨as, wt.1, none, none, none, none, rfl, hk, hk2, rfl, rfl, rfl⟩
          · obtain ⟨as', ks', o1, o2, o3, o4, e1, e2, e3, e4, rfl, rfl⟩ := h'
            walk_at "ks"
            refine q1 ?_
            rw [← e4]
            cases as' with
            | nil => rfl
            | cons _ _ => cases ks' with
              | nil => rfl
              | cons _ _ => cases e1
          · obtain ⟨as', ks', o1, o2, o3, o4, e1, e2, e3, e4, rfl, rfl⟩ := h'
            cases as' with
            | nil => cases e1
            | cons a1 as' =>
              cases ks' with
              | nil => cases e1
              | cons k1 ks' =>
                simp only [needsZ] at e1
                cases e1
                walk_at "ks"
                refine c_need (e2 _ List.mem_cons_self) (e3 _ List.mem_cons_self) (fun z => ?_) (fun z => ⟨_, pk_nil, ?_⟩)
                · walk_at "ks"
                  exact ⟨as', ks', _, _, _, _, rfl, fun x hx => e2 x (List.mem_cons_of_mem _ hx), fun x hx => e3 x (List.mem_cons_of_mem _ hx), by rw [← e4]; simp only [needs, if_pos z], rfl, rfl⟩
                · exact q2 (.fit p a1.at_) (by rw [← e4]; simp only [needs, if_neg z])
      | new s =>
        unfold EW.enc at x
        subst x
        walk_at "r"
        walk_at "ks"
        refine calls_0 ⟨h, s, pds, p, rfl, wpair_ok hok.2, .inr ⟨rfl, hok.2, ?_⟩⟩
        simp only [reckon] at q
        have hk2 := (wantN_kd hok.2).2
        generalize wantN s = wt at q hk2 ⊢
        refine ⟨_, pk_nil, ?_⟩
        walk_at "ks"
        unfold called at q
        refine ite_ni (fun z => ?_) (fun z => ?_)
        · rw [if_neg (by simpa only [List.length_map] using z)] at q
          walk_at "ks"
          exact q
        rw [if_pos (by simpa only [List.length_map] using z)] at q
        obtain ⟨q1, q2⟩ := rz_then q
        walk_at "ks"
        refine ai_zip rfl B.zip ?_ rfl
        walk_at "ks"
        refine ⟨_, _, .inl rfl, .inr rfl, ?_⟩
        rw [needsZ_eq]
        refine LoopA.inv (fun ds R O' => ∃ as' ks' o1 o2 o3 o4, ds = needsZ as' ks' ∧ (∀ a ∈ as', K6 a.kd) ∧ (∀ x ∈ ks', K6 x) ∧ needs as' ks' p = needs as wt.1 p ∧ O' = [(a, lkM CL (hdD CH h) g q0)] ∧ R = ([("self", some (.ref a)), ("node", some (.tup [.str "new", .str s, .tup pds])), ("place", some (.int p)), ("asked", some (.lst (as.map As.enc))), ("op", some (.str "make")), ("extra", some .non), ("due", some Kd.num.enc), ("kind", some wt.2.1.enc), ("wanted", some (.tup (wt.1.map Kd.enc))), ("told", some (.int wt.2.2)), ("part", o1), ("other", o2), ("there", o3), ("own", o4), ("whole", none)] : Rho)) (fun R O' h' => ?_) (fun d ds R O' h' => ?_) ⟨as, wt.1, none, none, none, none, rfl, hk, hk2, rfl, rfl, rfl⟩
        · obtain ⟨as', ks', o1, o2, o3, o4, e1, e2, e3, e4, rfl, rfl⟩ := h'
          walk_at "ks"
          refine q1 ?_
          rw [← e4]
          cases as' with
          | nil => rfl
          | cons _ _ => cases ks' with
            | nil => rfl
            | cons _ _ => cases e1
        · obtain ⟨as', ks', o1, o2, o3, o4, e1, e2, e3, e4, rfl, rfl⟩ := h'
          cases as' with
          | nil => cases e1
          | cons a1 as' =>
            cases ks' with
            | nil => cases e1
            | cons k1 ks' =>
              simp only [needsZ] at e1
              cases e1
              walk_at "ks"
              refine c_need (e2 _ List.mem_cons_self) (e3 _ List.mem_cons_self) (fun z => ?_) (fun z => ⟨_, pk_nil, ?_⟩)
              · walk_at "ks"
                exact ⟨as', ks', _, _, _, _, rfl, fun x hx => e2 x (List.mem_cons_of_mem _ hx), fun x hx => e3 x (List.mem_cons_of_mem _ hx), by rw [← e4]; simp only [needs, if_pos z], rfl, rfl⟩
              · exact q2 (.fit p a1.at_) (by rw [← e4]; simp only [needs, if_neg z])
      | field s =>
        obtain ⟨h1, hs⟩ := hok
        cases as with
        | nil => cases h1
        | cons a1 as =>
          cases as with
          | cons _ _ => cases h1
          | nil =>
            cases pds with
            | nil => cases hpl
            | cons d1 pds =>
              cases pds with
              | cons _ _ => cases hpl
              | nil =>
                have k1 := hk a1 List.mem_cons_self
                unfold EW.enc at x
                subst x
                simp only [reckon] at q
                walk_at "r"
                walk_at "ks"
                rw [Kd.enc_wd a1.kd]
                walk_at "l"
                refine c_needS a1.kd.wd_ok (show strOk "named" = true by decide +kernel) (fun z => ?_) (fun z => ⟨_, pk_nil, ?_⟩)
                · obtain ⟨b, eb, hb⟩ := named_of k1 z
                  rw [if_pos (by rw [wd_named, decide_eq_true z])] at q
                  walk_at "ks"
                  refine calls_0 ⟨h, b, s, p, by rw [← Kd.enc_wd, eb], rfl, hb, hs, ?_⟩
                  cases hf : fieldK s p with
                  | ok xx =>
                    rw [hf] at q
                    refine ⟨_, pk_nil, ?_⟩
                    walk_at "ks"
                    exact q
                  | error er =>
                    rw [hf] at q
                    exact ⟨_, pk_nil, q⟩
                · rw [if_neg (by rw [wd_named, decide_eq_false z]; exact Bool.noConfusion)] at q
                  exact q
      | index =>
        cases as with
        | nil => cases hok
        | cons a1 as =>
          cases as with
          | nil => cases hok
          | cons a2 as =>
            cases as with
            | cons _ _ => cases hok
            | nil =>
              cases pds with
              | nil => cases hpl
              | cons d1 pds =>
                cases pds with
                | nil => cases hpl
                | cons d2 pds =>
                  cases pds with
                  | cons _ _ => cases hpl
                  | nil =>
                    have k1 := hk a1 List.mem_cons_self
                    have k2 := hk a2 (List.mem_cons_of_mem _ List.mem_cons_self)
                    unfold EW.enc at x
                    subst x
                    simp only [reckon] at q
                    walk_at "r"
                    walk_at "ks"
                    rw [Kd.enc_wd a1.kd]
                    walk_at "l"
                    refine c_needS a1.kd.wd_ok (show strOk "row" = true by decide +kernel) (fun z => ?_) (fun z => ⟨_, pk_nil, ?_⟩)
                    · rw [if_pos (by rw [wd_row, decide_eq_true z])] at q
                      obtain ⟨q1, q2⟩ := rz_then q
                      walk_at "ks"
                      refine c_need k2 .num (fun z => ?_) (fun z => ⟨_, pk_nil, ?_⟩)
                      · walk_at "ks"
                        exact q1 (by simp only [dueK, if_pos z])
                      · exact q2 (.fit p a2.at_) (by simp only [dueK, if_neg z])
                    · rw [if_neg (by rw [wd_row, decide_eq_false z]; exact Bool.noConfusion)] at q
                      exact q
      | row =>
        unfold EW.enc at x
        subst x
        simp only [reckon] at q
        obtain ⟨q1, q2⟩ := rz_then q
        walk_at "r"
        walk_at "ks"
        have el : ((as.map As.enc).length : Int) = (as.length : Nat) := by rw [List.length_map]
        rw [el]
        walk_at "ks"
        refine ai_lst ?_
        walk_at "ks"
        refine LoopA.inv (fun ds R O' => ∃ (as' : List As) (o1 o2 o3 : Option D), ds = as'.map As.enc ∧ (∀ a ∈ as', K6 a.kd) ∧ dueK as' .num p = dueK as .num p ∧ O' = [(a, lkM CL (hdD CH h) g q0)] ∧ R = ([("self", some (.ref a)), ("node", some (.tup [.str "row", .tup pds])), ("place", some (.int p)), ("asked", some (.lst (as.map As.enc))), ("op", some (.str "make")), ("extra", some .non), ("due", some (Kd.enc .num)), ("kind", some (.tup [.str "row", .int as.length])), ("wanted", none), ("told", none), ("part", o1), ("other", o2), ("there", o3), ("own", none), ("whole", none)] : Rho)) (fun R O' h' => ?_) (fun d ds R O' h' => ?_) ⟨as, none, none, none, rfl, hk, rfl, rfl, rfl⟩
        · obtain ⟨as', o1, o2, o3, e1, e2, e4, rfl, rfl⟩ := h'
          cases as' with
          | cons _ _ => cases e1
          | nil =>
            have qq := q1 e4.symm
            walk_at "ks"
            exact qq
        · obtain ⟨as', o1, o2, o3, e1, e2, e4, rfl, rfl⟩ := h'
          cases as' with
          | nil => cases e1
          | cons a1 as' =>
            simp only [List.map_cons] at e1
            cases e1
            walk_at "ks"
            refine c_need (e2 _ List.mem_cons_self) (by constructor) (fun z => ?_) (fun z => ⟨_, pk_nil, ?_⟩)
            · walk_at "ks"
              exact ⟨as', _, _, _, rfl, fun x hx => e2 x (List.mem_cons_of_mem _ hx), by rw [← e4]; simp only [dueK, if_pos z], rfl, rfl⟩
            · exact q2 (.fit p a1.at_) (by rw [← e4]; simp only [dueK, if_neg z])
      | one o =>
        obtain ⟨h1, ho⟩ := hok
        obtain ⟨d1, rfl⟩ := List.length_eq_one_iff.mp (hpl.trans h1)
        rcases ho with rfl | rfl
        · unfold EW.enc at x
          subst x
          simp only [reckon] at q
          rw [if_neg (by decide +kernel)] at q
          obtain ⟨q1, q2⟩ := rz_then q
          walk_at "r"
          walk_at "l"
          walk_at "ks"
          refine ai_lst ?_
          walk_at "ks"
          refine LoopA.inv (fun ds R O' => ∃ (as' : List As) (o1 o2 o3 : Option D), ds = as'.map As.enc ∧ (∀ a ∈ as', K6 a.kd) ∧ dueK as' .num p = dueK as .num p ∧ O' = [(a, lkM CL (hdD CH h) g q0)] ∧ R = ([("self", some (.ref a)), ("node", some (.tup (.str "one" :: .str "-" :: [d1]))), ("place", some (.int p)), ("asked", some (.lst (as.map As.enc))), ("op", some (.str "neg")), ("extra", some .non), ("due", some (Kd.enc .num)), ("kind", some (Kd.enc .num)), ("wanted", none), ("told", none), ("part", o1), ("other", o2), ("there", o3), ("own", none), ("whole", none)] : Rho)) (fun R O' h' => ?_) (fun d ds R O' h' => ?_) ⟨as, none, none, none, rfl, hk, rfl, rfl, rfl⟩
          · obtain ⟨as', o1, o2, o3, e1, e2, e4, rfl, rfl⟩ := h'
            cases as' with
            | cons _ _ => cases e1
            | nil =>
              have qq := q1 e4.symm
              walk_at "ks"
              exact qq
          · obtain ⟨as', o1, o2, o3, e1, e2, e4, rfl, rfl⟩ := h'
            cases as' with
            | nil => cases e1
            | cons a1 as' =>
              simp only [List.map_cons] at e1
              cases e1
              walk_at "ks"
              refine c_need (e2 _ List.mem_cons_self) (by constructor) (fun z => ?_) (fun z => ⟨_, pk_nil, ?_⟩)
              · walk_at "ks"
                exact ⟨as', _, _, _, rfl, fun x hx => e2 x (List.mem_cons_of_mem _ hx), by rw [← e4]; simp only [dueK, if_pos z], rfl, rfl⟩
              · exact q2 (.fit p a1.at_) (by rw [← e4]; simp only [dueK, if_neg z])
        · unfold EW.enc at x
          subst x
          simp only [reckon] at q
          rw [if_pos trivial] at q
          obtain ⟨q1, q2⟩ := rz_then q
          walk_at "r"
          walk_at "l"
          walk_at "ks"
          refine ai_lst ?_
          walk_at "ks"
          refine LoopA.inv (fun ds R O' => ∃ (as' : List As) (o1 o2 o3 : Option D), ds = as'.map As.enc ∧ (∀ a ∈ as', K6 a.kd) ∧ dueK as' .truth p = dueK as .truth p ∧ O' = [(a, lkM CL (hdD CH h) g q0)] ∧ R = ([("self", some (.ref a)), ("node", some (.tup (.str "one" :: .str "not" :: [d1]))), ("place", some (.int p)), ("asked", some (.lst (as.map As.enc))), ("op", some (.str "not")), ("extra", some .non), ("due", some (Kd.enc .truth)), ("kind", some (Kd.enc .truth)), ("wanted", none), ("told", none), ("part", o1), ("other", o2), ("there", o3), ("own", none), ("whole", none)] : Rho)) (fun R O' h' => ?_) (fun d ds R O' h' => ?_) ⟨as, none, none, none, rfl, hk, rfl, rfl, rfl⟩
          · obtain ⟨as', o1, o2, o3, e1, e2, e4, rfl, rfl⟩ := h'
            cases as' with
            | cons _ _ => cases e1
            | nil =>
              have qq := q1 e4.symm
              walk_at "ks"
              exact qq
          · obtain ⟨as', o1, o2, o3, e1, e2, e4, rfl, rfl⟩ := h'
            cases as' with
            | nil => cases e1
            | cons a1 as' =>
              simp only [List.map_cons] at e1
              cases e1
              walk_at "ks"
              refine c_need (e2 _ List.mem_cons_self) (by constructor) (fun z => ?_) (fun z => ⟨_, pk_nil, ?_⟩)
              · walk_at "ks"
                exact ⟨as', _, _, _, rfl, fun x hx => e2 x (List.mem_cons_of_mem _ hx), by rw [← e4]; simp only [dueK, if_pos z], rfl, rfl⟩
              · exact q2 (.fit p a1.at_) (by rw [← e4]; simp only [dueK, if_neg z])
      | two o =>
        obtain ⟨h1, ho⟩ := hok
        obtain ⟨d1, d2, rfl⟩ := len2 (hpl.trans h1)
        obtain ⟨b1, b2, b3⟩ := op2_bool ho
        unfold EW.enc at x
        subst x
        simp only [reckon] at q
        walk_at "r"
        walk_at "ks"
        refine ⟨o, rfl, ho, ?_⟩
        walk_at "ks"
        refine ite_d (fun z => ?_) (fun z => ?_)
        · rw [if_pos (b1.mp z)] at q
          obtain ⟨q1, q2⟩ := rz_then q
          have eo := b3 (b1.mp z)
          have nz : ¬ op2 o ∈ (["less", "same"] : List Str) := fun z2 => by
            rcases b1.mp z with y | y <;> rw [y] at z2 <;> revert z2 <;> decide +kernel
          walk_at "ks"
          refine ai_lst ?_
          walk_at "ks"
          refine LoopA.inv (fun ds R O' => ∃ (as' : List As) (o1 o2 o3 : Option D), ds = as'.map As.enc ∧ (∀ a ∈ as', K6 a.kd) ∧ dueK as' .truth p = dueK as .truth p ∧ O' = [(a, lkM CL (hdD CH h) g q0)] ∧ R = ([("self", some (.ref a)), ("node", some (.tup (.str "two" :: .str o :: [d1, d2]))), ("place", some (.int p)), ("asked", some (.lst (as.map As.enc))), ("op", some (.str (op2 o))), ("extra", some .non), ("due", some (Kd.enc .truth)), ("kind", some (Kd.enc .truth)), ("wanted", none), ("told", none), ("part", o1), ("other", o2), ("there", o3), ("own", none), ("whole", none)] : Rho)) (fun R O' h' => ?_) (fun d ds R O' h' => ?_) ⟨as, none, none, none, rfl, hk, rfl, rfl, rfl⟩
          · obtain ⟨as', o1, o2, o3, e1, e2, e4, rfl, rfl⟩ := h'
            cases as' with
            | cons _ _ => cases e1
            | nil =>
              have qq := q1 e4.symm
              walk_at "ks"
              rw [eo]
              exact qq
          · obtain ⟨as', o1, o2, o3, e1, e2, e4, rfl, rfl⟩ := h'
            cases as' with
            | nil => cases e1
            | cons a1 as' =>
              simp only [List.map_cons] at e1
              cases e1
              walk_at "ks"
              refine c_need (e2 _ List.mem_cons_self) (by constructor) (fun z => ?_) (fun z => ⟨_, pk_nil, ?_⟩)
              · walk_at "ks"
                exact ⟨as', _, _, _, rfl, fun x hx => e2 x (List.mem_cons_of_mem _ hx), by rw [← e4]; simp only [dueK, if_pos z], rfl, rfl⟩
              · exact q2 (.fit p a1.at_) (by rw [← e4]; simp only [dueK, if_neg z])
        · rw [if_neg (fun y => z (b1.mpr y))] at q
          obtain ⟨q1, q2⟩ := rz_then q
          walk_at "ks"
          refine ai_lst ?_
          walk_at "ks"
          refine LoopA.inv (fun ds R O' => ∃ (as' : List As) (o1 o2 o3 : Option D), ds = as'.map As.enc ∧ (∀ a ∈ as', K6 a.kd) ∧ dueK as' .num p = dueK as .num p ∧ O' = [(a, lkM CL (hdD CH h) g q0)] ∧ R = ([("self", some (.ref a)), ("node", some (.tup (.str "two" :: .str o :: [d1, d2]))), ("place", some (.int p)), ("asked", some (.lst (as.map As.enc))), ("op", some (.str (op2 o))), ("extra", some .non), ("due", some (Kd.enc .num)), ("kind", some (Kd.enc .num)), ("wanted", none), ("told", none), ("part", o1), ("other", o2), ("there", o3), ("own", none), ("whole", none)] : Rho)) (fun R O' h' => ?_) (fun d ds R O' h' => ?_) ⟨as, none, none, none, rfl, hk, rfl, rfl, rfl⟩
          · obtain ⟨as', o1, o2, o3, e1, e2, e4, rfl, rfl⟩ := h'
            cases as' with
            | cons _ _ => cases e1
            | nil =>
              have qq := q1 e4.symm
              walk_at "ks"
              refine ite_d (fun z => ?_) (fun z => ?_)
              · rw [if_pos (b2.mp z)] at qq
                walk_at "ks"
                exact qq
              · rw [if_neg (fun y => z (b2.mpr y))] at qq
                walk_at "ks"
                exact qq
          · obtain ⟨as', o1, o2, o3, e1, e2, e4, rfl, rfl⟩ := h'
            cases as' with
            | nil => cases e1
            | cons a1 as' =>
              simp only [List.map_cons] at e1
              cases e1
              walk_at "ks"
              refine c_need (e2 _ List.mem_cons_self) (by constructor) (fun z => ?_) (fun z => ⟨_, pk_nil, ?_⟩)
              · walk_at "ks"
                exact ⟨as', _, _, _, rfl, fun x hx => e2 x (List.mem_cons_of_mem _ hx), by rw [← e4]; simp only [dueK, if_pos z], rfl, rfl⟩
              · exact q2 (.fit p a1.at_) (by rw [← e4]; simp only [dueK, if_neg z])
    )) only [↓gate_rule]
end
/-! A25: the typer's promises, and calls of them. -/
open PySem.PyData (strOk)
abbrev lkO (CL CH : Addr) (h : Hd) (g : D) (a b : Addr) (q : Nat) (ns : Nm) : Os := [(a, lkM CL (hdD CH h) g (q : Nat)), (b, .dic (encNm ns))]
def spAsk (n : Nat) (CL CH : Addr) (c : Cs) : ASp := fun ds O Q E => ∃ (a b : Addr) (h : Hd) (g : D) (q : Nat) (e : Ex) (ns : Nm), ds = [.ref a, e.enc, .ref b] ∧ O = lkO CL CH h g a b q ns ∧ Wf n e ∧ NmOk ns ∧
  Rz (e.ask h ns (q + 1)) (fun x => Q x.enc (lkO CL CH h g a b (q + e.sz) ns)) (fun er => ∀ q', E (er.C c) er.fs (lkO CL CH h g a b q' ns))
section
variable {N : Ent} {Q : D → Os → Prop} {CL CH : Addr} {c : Cs} {a b : Addr} {h : Hd} {g : D} {q n : Nat} {ns : Nm} {O : Os}
theorem c_next (k : Q (.int ((q + 1 : Nat) : Int)) ((a, lkM CL (hdD CH h) g ((q + 1 : Nat) : Int)) :: O)) : CallS N (spNext CL) [.ref a] ((a, lkM CL (hdD CH h) g (q : Nat)) :: O) Q := by
  refine calls_1 ⟨a, _, _, _, rfl, rfl, _, pk_1, ?_⟩
  have e : ((q : Nat) : Int) + 1 = ((q + 1 : Nat) : Int) := by omega
  rw [e]
  exact k
theorem rz_mk {α : Type} {m : Except Er α} {ok : α → Prop} {bad : Er → Prop} (h1 : ∀ a, m = .ok a → ok a) (h2 : ∀ e, m = .error e → bad e) : Rz m ok bad := by
  cases m with
  | ok a => exact h1 a rfl
  | error e => exact h2 e rfl
theorem c_ask {e : Ex} (w : Wf n e) (ok : NmOk ns) (k1 : ∀ x, e.ask h ns (q + 1) = .ok x → Q x.enc (lkO CL CH h g a b (q + e.sz) ns)) (k2 : ∀ er, e.ask h ns (q + 1) = .error er → ∀ q', N.EX (er.C c) er.fs (lkO CL CH h g a b q' ns)) :
    CallS N (spAsk n CL CH c) [.ref a, e.enc, .ref b] (lkO CL CH h g a b q ns) Q :=
  ⟨lkO CL CH h g a b q ns, .cons .head (.cons .head .nil), a, b, h, g, q, e, ns, rfl, rfl, w, ok, rz_mk (fun _ z => ⟨_, .step .head (.step (.tail .head) .new), k1 _ z⟩) (fun _ z q' => ⟨_, .step .head (.step (.tail .head) .new), k2 _ z q'⟩)⟩
theorem c_vk {k : Kd} (hk : K6 k) (z : Q (vk k) O) : CallS N (spVK CH) [hdD CH h, k.enc] O Q := calls_0 ⟨h, k, rfl, rfl, hk, _, pk_nil, z⟩
theorem c_reck {w : EW} {pds : List D} {as : List As} {p : Nat} (hop : w.op = true) (hok : w.ok as.length) (hl : pds.length = as.length) (hk : ∀ x ∈ as, K6 x.kd)
    {nd : D} (hnd : nd = EW.enc w pds) (k1 : ∀ r, reckon h p w as = .ok r → Q (.tup [.str r.op, r.extra, r.kd.enc]) ((a, lkM CL (hdD CH h) g (q : Nat)) :: O)) (k2 : ∀ er, reckon h p w as = .error er → N.EX (er.C c) er.fs ((a, lkM CL (hdD CH h) g (q : Nat)) :: O)) :
    CallS N (spReck CL CH c) [.ref a, nd, .int (p : Nat), .lst (as.map As.enc)] ((a, lkM CL (hdD CH h) g (q : Nat)) :: O) Q :=
  calls_1 ⟨a, h, g, _, p, w, pds, as, by rw [hnd], rfl, hop, hok, hl, hk, rz_mk (fun _ z => ⟨_, pk_1, k1 _ z⟩) (fun _ z => ⟨_, pk_1, k2 _ z⟩)⟩
end
theorem reckon_opS {h : Hd} {p : Nat} : ∀ {w : EW} {as : List As} {r : Rk}, w.ok as.length → reckon h p w as = .ok r → strOk r.op = true
  | .num _, _, _, _, e => nomatch e
  | .truth _, _, _, _, e => nomatch e
  | .name _, _, _, _, e => nomatch e
  | .call f, as, r, _, e => by
    simp only [reckon] at e
    split at e
    · cases e
    · unfold called at e
      split at e
      · rw [← then_ok e]; exact (by decide +kernel : strOk "make" = true)
      · cases e
  | .new c, as, r, ok, e => by
    simp only [reckon] at e
    unfold called at e
    split at e
    · rw [← then_ok e]; exact (by decide +kernel : strOk "make" = true)
    · cases e
  | .field f, a :: _, r, _, e => by
    simp only [reckon] at e
    split at e
    · obtain ⟨x, hx, e⟩ := bind_ok e
      cases e
      exact (by decide +kernel : strOk "get" = true)
    · cases e
  | .field f, [], r, ok, e => nomatch e
  | .index, a :: b :: _, r, _, e => by
    simp only [reckon] at e
    split at e
    · rw [← then_ok e]; exact (by decide +kernel : strOk "pick" = true)
    · cases e
  | .index, [a], r, ok, e => nomatch e
  | .index, [], r, ok, e => nomatch e
  | .row, as, r, ok, e => by
    simp only [reckon] at e
    rw [← then_ok e]; show strOk "make" = true; decide +kernel
  | .one o, as, r, ok, e => by
    simp only [reckon] at e
    split at e
    · rw [← then_ok e]; show strOk "not" = true; decide +kernel
    · rw [← then_ok e]; show strOk "neg" = true; decide +kernel
  | .two o, as, r, ok, e => by
    simp only [reckon] at e
    have z : ∀ s ∈ ops9, strOk s = true ∧ strOk (op2 s) = true := by decide +kernel
    split at e
    · rw [← then_ok e]; exact (z o ok.2).1
    · rw [← then_ok e]; exact (z o ok.2).2
/-- the texts of an expression's data -/
theorem encs_szs {e : Ex} {es : List Ex} : Ex.szs (e :: es) = e.sz + Ex.szs es := by simp only [Ex.szs]
theorem sz_mk {w : EW} {ps : List Ex} : (Ex.mk w ps).sz = Ex.szs ps + 1 := by simp only [Ex.sz]
theorem enc_mk {w : EW} {ps : List Ex} : (Ex.mk w ps).enc = w.enc (Ex.encs ps) := by simp only [Ex.enc]
theorem encs_cons {e : Ex} {es : List Ex} : Ex.encs (e :: es) = e.enc :: Ex.encs es := by simp only [Ex.encs]
theorem encs_nil : Ex.encs [] = [] := by simp only [Ex.encs]
theorem asks_nil {h : Hd} {ns : Nm} {p : Nat} : Ex.asks h ns [] p = .ok [] := by simp only [Ex.asks]
theorem asks_cons {h : Hd} {ns : Nm} {p : Nat} {e : Ex} {es : List Ex} : Ex.asks h ns (e :: es) p = (e.ask h ns p).bind fun a => (Ex.asks h ns es (p + e.sz)).bind fun as => .ok (a :: as) := by simp only [Ex.asks]
theorem ex_vwx {w : EW} {ps : List Ex} (hop : w.op = true) (h : w.ok ps.length) : VwX (w.enc (Ex.encs ps)) (Ex.encs ps) := by
  match w, ps, hop, h with
  | .two _, [a, b], _, _ => simp only [encs_cons, encs_nil]; exact .two
  | .one _, [a], _, _ => simp only [encs_cons, encs_nil]; exact .one
  | .call _, ps, _, _ => exact .call
  | .new _, ps, _, _ => exact .new
  | .row, ps, _, _ => exact .row
  | .field _, [a], _, _ => simp only [encs_cons, encs_nil]; exact .field
  | .index, [a, b], _, _ => simp only [encs_cons, encs_nil]; exact .index
/-! ### words -/
def EW.wd : EW → Str
  | .num _ => "num"
  | .truth _ => "truth"
  | .name _ => "name"
  | .two _ => "two"
  | .one _ => "one"
  | .call _ => "call"
  | .new _ => "new"
  | .row => "row"
  | .field _ => "field"
  | .index => "index"
def EW.rest : EW → List D → List D
  | .num n, _ => [.int n]
  | .truth b, _ => [.bl b]
  | .name s, _ => [.str s]
  | .two op, ps => .str op :: ps
  | .one op, ps => .str op :: ps
  | .call f, ps => [.str f, .tup ps]
  | .new c, ps => [.str c, .tup ps]
  | .row, ps => [.tup ps]
  | .field f, ps => ps ++ [.str f]
  | .index, ps => ps
theorem EW.enc_wd (w : EW) (ps : List D) : w.enc ps = .tup (.str w.wd :: w.rest ps) := by cases w <;> rfl
theorem wd_ops {w : EW} (h : w.op = true) : w.wd ∈ (["two", "one", "call", "new", "row", "field", "index"] : List Str) := by
  cases w with
  | num _ => cases h
  | truth _ => cases h
  | name _ => cases h
  | two _ => show ("two" : Str) ∈ _; decide +kernel
  | one _ => show ("one" : Str) ∈ _; decide +kernel
  | call _ => show ("call" : Str) ∈ _; decide +kernel
  | new _ => show ("new" : Str) ∈ _; decide +kernel
  | row => show ("row" : Str) ∈ _; decide +kernel
  | field _ => show ("field" : Str) ∈ _; decide +kernel
  | index => show ("index" : Str) ∈ _; decide +kernel
theorem wd_facts {s : Str} (h : s ∈ (["two", "one", "call", "new", "row", "field", "index"] : List Str)) : strOk s = true ∧ ¬ s ∈ (["num", "truth"] : List Str) ∧ s ≠ "name" := by
  revert s; decide +kernel
theorem wd_call {w : EW} (h : w.wd = "call") : ∃ f, w = .call f := by
  cases w with
  | call f => exact ⟨f, rfl⟩
  | num _ => exact absurd h (show ¬ ("num" : Str) = "call" by decide +kernel)
  | truth _ => exact absurd h (show ¬ ("truth" : Str) = "call" by decide +kernel)
  | name _ => exact absurd h (show ¬ ("name" : Str) = "call" by decide +kernel)
  | two _ => exact absurd h (show ¬ ("two" : Str) = "call" by decide +kernel)
  | one _ => exact absurd h (show ¬ ("one" : Str) = "call" by decide +kernel)
  | new _ => exact absurd h (show ¬ ("new" : Str) = "call" by decide +kernel)
  | row => exact absurd h (show ¬ ("row" : Str) = "call" by decide +kernel)
  | field _ => exact absurd h (show ¬ ("field" : Str) = "call" by decide +kernel)
  | index => exact absurd h (show ¬ ("index" : Str) = "call" by decide +kernel)
theorem finD_op {w : EW} {as : List As} {r : Rk} (h : w.wd ≠ "call") : finD w as r = .tup [.str "op", .str r.op, if r.op = "make" then vk r.kd else r.extra, .tup (as.map As.told), vk r.kd] := by
  cases w with
  | call f => exact absurd rfl h
  | _ => rfl
theorem bind_nil {h : Hd} {ns : Nm} {es : List Ex} {p : Nat} : Ex.asks h ns es p = (Ex.asks h ns es p).bind fun as => .ok ([] ++ as) := by
  cases Ex.asks h ns es p <;> rfl
theorem asks_step {h : Hd} {ns : Nm} {e : Ex} {es : List Ex} {as0 : List As} {p : Nat} {m : Except Er (List As)} {x : As} (h0 : m = (Ex.asks h ns (e :: es) p).bind fun as => .ok (as0 ++ as)) (hx : e.ask h ns p = .ok x) : m = (Ex.asks h ns es (p + e.sz)).bind fun as => .ok ((as0 ++ [x]) ++ as) := by
  rw [h0, asks_cons, hx]
  show ((Ex.asks h ns es (p + e.sz)).bind fun as => Except.ok (x :: as)).bind _ = _
  cases Ex.asks h ns es (p + e.sz) with
  | error er => rfl
  | ok as => show Except.ok (as0 ++ x :: as) = Except.ok (as0 ++ [x] ++ as); rw [List.append_assoc]; rfl
theorem asks_stop {h : Hd} {ns : Nm} {e : Ex} {es : List Ex} {as0 : List As} {p : Nat} {m : Except Er (List As)} {er : Er} (h0 : m = (Ex.asks h ns (e :: es) p).bind fun as => .ok (as0 ++ as)) (hx : e.ask h ns p = .error er) : m = .error er := by
  rw [h0, asks_cons, hx]; rfl
theorem asks_end {h : Hd} {ns : Nm} {as0 : List As} {p : Nat} {m : Except Er (List As)} (h0 : m = (Ex.asks h ns [] p).bind fun as => .ok (as0 ++ as)) : m = .ok as0 := by
  rw [h0, asks_nil]; show Except.ok (as0 ++ []) = _; rw [List.append_nil]
theorem ok_len {w : EW} {n : Nat} (h : w.ok n) : n ≤ 3 := by
  cases w with
  | num _ => exact Nat.le_trans (Nat.le_of_eq h) (by decide)
  | truth _ => exact Nat.le_trans (Nat.le_of_eq h) (by decide)
  | name _ => exact Nat.le_trans (Nat.le_of_eq h.1) (by decide)
  | two _ => exact Nat.le_trans (Nat.le_of_eq h.1) (by decide)
  | one _ => exact Nat.le_trans (Nat.le_of_eq h.1) (by decide)
  | call _ => exact h.1
  | new _ => exact h.1
  | row => rcases h with z | z <;> omega
  | field _ => exact Nat.le_trans (Nat.le_of_eq h.1) (by decide)
  | index => exact Nat.le_trans (Nat.le_of_eq h) (by decide)
theorem encs_inv {es : List Ex} (h : Ex.encs es = []) : es = [] := by
  cases es with
  | nil => rfl
  | cons e es => rw [encs_cons] at h; cases h
theorem encs_inv2 {es : List Ex} {d : D} {ds : List D} (h : d :: ds = Ex.encs es) : ∃ e es', es = e :: es' ∧ d = e.enc ∧ ds = Ex.encs es' := by
  cases es with
  | nil => rw [encs_nil] at h; cases h
  | cons e es => rw [encs_cons] at h; cases h; exact ⟨e, es, rfl, rfl, rfl⟩
/-! Q5: an expression is looked at. -/
open PySem.PyData (strOk)
abbrev sAsk : Stmt := inCls 18 5
section
variable {P : Program} {w : World} {K : PySem.W.Frag} {mg : Str → Option Value} {base : Heap} {f : Addr} {fd : FuncData} {k : Nat} {c : Cs} {CL CH : Addr}
theorem okAsk {n : Nat} (B : Lib mg) (LL : LkC K CL) (L : HdC K CH) (g0 : MtA P w K mg base (k + 1) CL "next_place" (spNext CL)) (g1 : FnA P w K mg base (k + 1) "inner_of" spInner) (g2 : MtA P w K mg base (k + 1) CL "ask" (spAsk n CL CH c)) (g3 : MtA P w K mg base (k + 1) CL "reckoned_kind" (spReck CL CH c)) (g4 : MtA P w K mg base (k + 1) CH "value_kind" (spVK CH))
    (e1 : RaiseC P w K mg base k "NoName" c.n "name" "place") (Fn : Fun K "ask" "Looker.ask" sAsk f fd) : FnOk P w K mg base (L2.CX P w) (k + 1 + 1) f fd ["self", "node", "names"] (lift K (spAsk (n + 1) CL CH c)) := by
  refine gate ?_
  simp (disch := with_unfolding_all (
      refine fnGx (Ns := ["self", "node", "names", "place", "kind", "asked", "op", "extra", "parts", "own", "part"]) Fn rfl rfl ⟨rfl, rfl, rfl, by decide +kernel, rfl, by decide +kernel, by decide +kernel⟩ (fun ds O QA EA h => ?_) (by decide) (fun cdv A outer s H E hr ds O QA EA F h G => ?_)
      · obtain ⟨a, b, h, g, q, e, ns, x, _⟩ := h
        rw [x]; rfl
      obtain ⟨a, b, h, g, q, e, ns, x, eO, hw, ok, q1⟩ := h
      have l1 := L.cls
      have l2 := L.m
      have l3 := L.k
      have l4 := L.p
      have l5 := LL.cls
      have l6 := LL.h
      have l7 := LL.g
      have l8 := LL.p
      subst eO
      cases hw with
      | @mk _ w ps hwo hps =>
      rw [enc_mk] at x
      cases hwop : w.op with
      | false =>
        cases w with
        | num z =>
          obtain rfl := List.length_eq_zero_iff.mp hwo
          simp only [Ex.ask, sz_mk, Ex.szs, Nat.zero_add] at q1
          unfold EW.enc at x
          subst x
          walk_at "r"
          walk_at "ks"
          refine c_next ?_
          walk_at "ks"
          exact ⟨_, .cons .head (.cons .head .nil), q1⟩
        | truth z =>
          obtain rfl := List.length_eq_zero_iff.mp hwo
          simp only [Ex.ask, sz_mk, Ex.szs, Nat.zero_add] at q1
          unfold EW.enc at x
          subst x
          walk_at "r"
          walk_at "ks"
          refine c_next ?_
          walk_at "ks"
          exact ⟨_, .cons .head (.cons .head .nil), q1⟩
        | name s =>
          obtain rfl := List.length_eq_zero_iff.mp hwo.1
          simp only [Ex.ask, sz_mk, Ex.szs, Nat.zero_add] at q1
          unfold EW.enc at x
          subst x
          walk_at "r"
          walk_at "ks"
          refine c_next ?_
          walk_at "ks"
          refine at_dni G.un ?_ rfl
          walk_at "ks"
          refine dgo_strR (List.mem_cons_of_mem _ List.mem_cons_self) getA_nm ?_
          cases hl : lookN ns s with
          | none =>
            rw [hl] at q1
            refine ite_nf ?_
            walk_at "ks"
            exact ⟨_, .cons .head (.cons .head .nil), q1 _⟩
          | some kk =>
            rw [hl] at q1
            refine ite_nt ?_
            walk_at "ks"
            refine IxX.refS (List.mem_cons_of_mem _ List.mem_cons_self) (getA_nm.trans (congrArg _ hl)) ?_
            walk_at "ks"
            refine c_vk (lookN_ok ok hl) ?_
            walk_at "ks"
            exact ⟨_, .cons .head (.cons .head .nil), q1⟩
        | two _ => cases hwop
        | one _ => cases hwop
        | call _ => cases hwop
        | new _ => cases hwop
        | row => cases hwop
        | field _ => cases hwop
        | index => cases hwop
      | true =>
        obtain ⟨f1, f2, f3⟩ := wd_facts (wd_ops hwop)
        have hnd := (EW.enc_wd w (Ex.encs ps)).symm
        rw [EW.enc_wd] at x
        subst x
        rw [ask_op hwop] at q1
        walk_at "r"
        walk_at "ks"
        refine c_next ?_
        walk_at "ks"
        refine ⟨_, eqP_str f1 (by decide +kernel), ite_se (fun z => absurd z f3) (fun _ => ?_)⟩
        walk_at "ks"
        refine as_setLc true [("part", 10)] (G.comp true) G.calm G.nd (blkOk_by (by kernel_rfl)) (by walk_at "s") rfl (by walk_at "m") (by walk_at "b") (ai_tup ?_) (by with_unfolding_all rfl)
        walk_at "ks"
        refine calls_0 ⟨_, Ex.encs ps, rfl, rfl, by rw [hnd]; exact ex_vwx hwop hwo, _, pk_nil, ?_⟩
        refine ⟨_, rfl, CompA.inv (fun ds acc O => ∃ rest as0 qc, ds = Ex.encs rest ∧ acc = as0.map As.enc ∧ (∀ e ∈ rest, Wf n e) ∧ O = lkO CL CH h g a b qc ns ∧ Ex.asks h ns ps (q + 1 + 1) = (Ex.asks h ns rest (qc + 1)).bind (fun as => .ok (as0 ++ as)) ∧ qc + Ex.szs rest = q + 1 + Ex.szs ps ∧ as0.length + rest.length ≤ 3) (fun acc O hi => ?_) (fun d ds acc O hi => ?_) ⟨ps, [], q + 1, rfl, rfl, hps, rfl, bind_nil, rfl, ?_⟩⟩
        · obtain ⟨rest, as0, qc, e1, rfl, _, rfl, e2, e3, _⟩ := hi
          obtain rfl := encs_inv e1.symm
          have e4 := asks_end e2
          have hl := asks_len e4
          have hk := asks_kd ok hps e4
          rw [e4] at q1
          replace q1 := rz_bind (m := reckon h (q + 1) w as0) q1
          have eq : qc = q + (Ex.mk w ps).sz := by rw [sz_mk]; simp only [Ex.szs] at e3; omega
          subst eq
          walk_at "ks"
          refine c_reck hwop (by rw [hl]; exact hwo) (by rw [hl, encs_map, List.length_map]) hk hnd (fun r hr2 => ?_) (fun er hr2 => ⟨_, .cons .head (.cons .head .nil), rz_bad q1 hr2 _⟩)
          have q2 := rz_ok q1 hr2
          have hk2 := reckon_kd (by rw [hl]; exact hwo) hr2
          have ho2 := reckon_opS (by rw [hl]; exact hwo) hr2
          walk_at "ks"
          refine ae_lc true [("part", 10)] (G.comp true) G.calm G.nd (blkOk_by (by kernel_rfl)) (by walk_at "b") (ai_lst ?_)
          walk_at "ks"
          refine CompA.inv (fun ds acc O => ∃ rest as1, ds = List.map As.enc rest ∧ acc = as1.map As.told ∧ as0 = as1 ++ rest ∧ O = lkO CL CH h g a b (q + (Ex.mk w ps).sz) ns) (fun acc O hi => ?_) (fun d ds acc O hi => ?_) ⟨as0, [], rfl, rfl, rfl, rfl⟩
          · obtain ⟨rest, as1, e5, rfl, e6, rfl⟩ := hi
            obtain rfl := List.map_eq_nil_iff.mp e5.symm
            rw [List.append_nil] at e6
            subst e6
            walk_at "ks"
            refine c_vk hk2 ?_
            walk_at "ks"
            refine ⟨_, eqP_str f1 (by decide +kernel), ite_se (fun z => ?_) (fun z => ?_)⟩
            · obtain ⟨ff, rfl⟩ := wd_call z
              walk_at "ks"
              exact ⟨_, .cons .head (.cons .head .nil), q2⟩
            · walk_at "ks"
              have q3 : RlxQ QA (D.tup [.tup [.str "op", .str r.op, if r.op = "make" then vk r.kd else r.extra, .tup (as0.map As.told), vk r.kd], r.kd.enc, .int ((q + 1 : Nat) : Int)]) (lkO CL CH h g a b (q + (Ex.mk w ps).sz) ns) := by
                rw [← finD_op z]
                exact ⟨_, .cons .head (.cons .head .nil), q2⟩
              refine ⟨_, eqP_str ho2 (by decide +kernel), ite_se (fun y => ?_) (fun y => ?_)⟩
              · rw [if_pos y] at q3
                walk_at "ks"
                exact q3
              · rw [if_neg y] at q3
                walk_at "ks"
                exact q3
          · obtain ⟨rest, as1, e5, rfl, e6, rfl⟩ := hi
            cases rest with
            | nil => cases e5
            | cons x rest =>
              rw [List.map_cons] at e5
              cases e5
              refine ⟨by rw [List.length_map]; have := congrArg List.length e6; rw [List.length_append] at this; have := ok_len hwo; omega, fun Xb N' bk => ?_⟩
              obtain ⟨⟨s0, H0, C0, cl0, fp0, xe0, eb⟩, hex, hps2⟩ := bk
              subst eb
              have hps2 := hps2 rfl
              walk_at "k"
              walk_at "sb"
              walk_at "ks"
              exact ⟨rest, as1 ++ [x], rfl, by rw [List.map_append]; rfl, by rw [List.append_assoc]; exact e6, rfl⟩
        · obtain ⟨rest, as0, qc, e1, rfl, e2, rfl, e3, e4, e5⟩ := hi
          obtain ⟨e, rest', rfl, rfl, rfl⟩ := encs_inv2 e1
          refine ⟨by rw [List.length_map]; omega, fun Xb N' bk => ?_⟩
          obtain ⟨⟨s0, H0, C0, cl0, fp0, xe0, eb⟩, hex, hps2⟩ := bk
          subst eb
          have hps2 := hps2 rfl
          walk_at "k"
          walk_at "sb"
          walk_at "ks"
          refine c_ask (e2 e List.mem_cons_self) ok (fun x hx => ?_) (fun er hx q' => ?_)
          · refine ⟨rest', as0 ++ [x], qc + e.sz, rfl, by rw [List.map_append]; rfl, fun y hy => e2 y (List.mem_cons_of_mem _ hy), rfl, ?_, by rw [encs_szs] at e4; omega, by simp only [List.length_append, List.length_cons, List.length_nil] at e5 ⊢; omega⟩
            have := asks_step e3 hx
            rwa [show qc + 1 + e.sz = qc + e.sz + 1 by omega] at this
          · rw [hex]
            have := asks_stop e3 hx
            rw [this] at q1
            exact ⟨_, .cons .head (.cons .head .nil), q1 q'⟩
        · have := ok_len hwo; simp only [List.length_nil]; omega
    )) only [↓gate_rule]
end
/-! A26: the typer's promises on rows. -/
open PySem.PyData (strOk)
theorem cut_from {α : Type} (k : Nat) (xs : List α) : cutG xs (some (k : Int)) none = xs.drop k := by
  unfold cutG
  rw [HT.sIx_nat, HT.sIx_none]
  by_cases h : k ≤ xs.length
  · rw [Nat.min_eq_left h, List.take_of_length_le (by rw [List.length_drop]; exact Nat.le_refl _)]
  · rw [Nat.min_eq_right (by omega), List.drop_length, List.drop_of_length_le (by omega), List.take_nil]
theorem cut_to {α : Type} (k : Nat) (xs : List α) : cutG xs none (some (k : Int)) = xs.take k := by
  unfold cutG
  rw [HT.sIx_nat, HT.sIx_none, List.drop_zero, Nat.sub_zero]
  by_cases h : k ≤ xs.length
  · rw [Nat.min_eq_left h]
  · rw [Nat.min_eq_right (by omega), List.take_of_length_le (Nat.le_refl _), List.take_of_length_le (by omega)]
section
variable {a b c : D} {ds : List D} {z : Int} {P : D → Prop}
theorem sl_1n (e : z = 1) (q : P (.tup ds)) : slD (.tup (a :: ds)) (some z) none P := by subst e; exact slD_tup (by rw [show (1 : Int) = ((1 : Nat) : Int) from rfl, cut_from]; exact q)
theorem sl_2n (e : z = 2) (q : P (.tup ds)) : slD (.tup (a :: b :: ds)) (some z) none P := by subst e; exact slD_tup (by rw [show (2 : Int) = ((2 : Nat) : Int) from rfl, cut_from]; exact q)
theorem sl_3n (e : z = 3) (q : P (.tup ds)) : slD (.tup (a :: b :: c :: ds)) (some z) none P := by subst e; exact slD_tup (by rw [show (3 : Int) = ((3 : Nat) : Int) from rfl, cut_from]; exact q)
theorem sl_n1 (e : z = 1) (q : P (.tup [a])) : slD (.tup (a :: ds)) none (some z) P := by subst e; exact slD_tup (by rw [show (1 : Int) = ((1 : Nat) : Int) from rfl, cut_to]; exact q)
theorem sl_n2 (e : z = 2) (q : P (.tup [a, b])) : slD (.tup (a :: b :: ds)) none (some z) P := by subst e; exact slD_tup (by rw [show (2 : Int) = ((2 : Nat) : Int) from rfl, cut_to]; exact q)
theorem sl_12 (e : z = 1) {y : Int} (e' : y = 2) (q : P (.tup [b])) : slD (.tup (a :: b :: ds)) (some z) (some y) P := by
  subst e; subst e'
  refine slD_tup ?_
  have e : cutG (a :: b :: ds) (some 1) (some 2) = [b] := by
    unfold cutG
    rw [show (1 : Int) = ((1 : Nat) : Int) from rfl, show (2 : Int) = ((2 : Nat) : Int) from rfl, HT.sIx_nat, HT.sIx_nat]
    have h1 : min 1 (a :: b :: ds).length = 1 := by simp only [List.length_cons]; omega
    have h2 : min 2 (a :: b :: ds).length = 2 := by simp only [List.length_cons]; omega
    rw [h1, h2]; rfl
  rw [e]; exact q
end
def givenW : RW → Bool
  | .let_ _ => true
  | .set _ => true
  | .setat _ => true
  | .setf _ _ => true
  | _ => false
def spGiven (n : Nat) (CL CH : Addr) (c : Cs) : ASp := fun ds O Q E => ∃ (a b : Addr) (h : Hd) (gk : Kd) (q : Nat) (w : RW) (es : List Ex) (ns : Nm), ds = [.ref a, w.enc (Ex.encs es) [], .int (q : Nat), .ref b] ∧ O = lkO CL CH h gk.enc a b q ns ∧ givenW w = true ∧ w.ok es.length 0 ∧ (∀ e ∈ es, Wf n e) ∧ NmOk ns ∧ ns.length ≤ 9000 ∧
  Rz ((Ex.asks h ns es (q + 1)).bind fun as => rowOwn gk q w as [] ns) (fun x => Q x.1 (lkO CL CH h gk.enc a b (q + Ex.szs es) x.2)) (fun er => ∀ q', E (er.C c) er.fs (lkO CL CH h gk.enc a b q' ns))
def spRw (n : Nat) (CL CH : Addr) (c : Cs) : ASp := fun ds O Q E => ∃ (a b : Addr) (h : Hd) (gk : Kd) (q : Nat) (r : Rw) (ns : Nm), ds = [.ref a, r.enc, .ref b] ∧ O = lkO CL CH h gk.enc a b q ns ∧ WfR n r ∧ NmOk ns ∧ K6 gk ∧ ns.length + r.sz ≤ 9000 ∧
  Rz (r.look h gk (q + 1) ns) (fun x => Q x.1 (lkO CL CH h gk.enc a b (q + r.sz) x.2)) (fun er => ∀ q', E (er.C c) er.fs (lkO CL CH h gk.enc a b q' ns))
def spRws (n : Nat) (CL CH : Addr) (c : Cs) : ASp := fun ds O Q E => ∃ (a b : Addr) (h : Hd) (gk : Kd) (q : Nat) (r : Rws) (ns : Nm), ds = [.ref a, .tup (Rws.encs r), .ref b] ∧ O = lkO CL CH h gk.enc a b q ns ∧ WfS n r ∧ NmOk ns ∧ K6 gk ∧ ns.length + r.sz ≤ 9000 ∧
  Rz (r.look h gk (q + 1) ns) (fun x => Q (.tup x.1) (lkO CL CH h gk.enc a b (q + r.sz) ns)) (fun er => ∀ q', E (er.C c) er.fs (lkO CL CH h gk.enc a b q' ns))
section
variable {h : Hd} {ns : Nm} {e e1 e2 : Ex} {p : Nat} {x y : As} {er : Er}
theorem asks1_ok (h1 : e.ask h ns p = .ok x) : Ex.asks h ns [e] p = .ok [x] := by rw [asks_cons, h1, asks_nil]; rfl
theorem asks1_bad (h1 : e.ask h ns p = .error er) : Ex.asks h ns [e] p = .error er := by rw [asks_cons, h1]; rfl
theorem asks2_ok (h1 : e1.ask h ns p = .ok x) (h2 : e2.ask h ns (p + e1.sz) = .ok y) : Ex.asks h ns [e1, e2] p = .ok [x, y] := by rw [asks_cons, h1, asks1_ok (p := p + e1.sz) h2]; rfl
theorem asks2_bad1 (h1 : e1.ask h ns p = .error er) : Ex.asks h ns [e1, e2] p = .error er := by rw [asks_cons, h1]; rfl
theorem asks2_bad2 (h1 : e1.ask h ns p = .ok x) (h2 : e2.ask h ns (p + e1.sz) = .error er) : Ex.asks h ns [e1, e2] p = .error er := by rw [asks_cons, h1, asks1_bad (p := p + e1.sz) h2]; rfl
theorem szs1 : Ex.szs [e] = e.sz := by simp only [Ex.szs, Nat.add_zero]
theorem szs2 : Ex.szs [e1, e2] = e1.sz + e2.sz := by simp only [Ex.szs, Nat.add_zero]
end
section
variable {B : Cx → Ent → Prop} {tg elt : Expr} {ifs : List Expr} {Rb : Rho} {Q : D → Os → Prop} {acc es : List D} {O : Os}
theorem comp_cons' (d : D) (ds : List D) (e : es = d :: ds) (hl : acc.length ≤ 100000) (h : ∀ Xb N', B Xb N' → AG Xb tg d Rb fun R1 => SubR R1 Rb ∧ AIfs Xb N' ifs R1 O fun b O1 => if b = true then AE Xb N' elt R1 O1 fun y O2 => CompA B tg ifs elt Rb Q ds (acc ++ [y]) O2 else CompA B tg ifs elt Rb Q ds acc O1) : CompA B tg ifs elt Rb Q es acc O := by rw [e]; exact ⟨hl, h⟩
theorem comp_nil' (e : es = []) (h : Q (.lst acc) O) : CompA B tg ifs elt Rb Q es acc O := by rw [e]; exact h
end
end
section
local macro_rules | `(tactic| walk_at "nBin") => `(tactic| (with_reducible refine ae_repT ?_))
local macro_rules | `(tactic| walk_at "nT") => `(tactic| ((with_reducible refine' at_niTT ?un ?_ ?hm); (case un => walk_at "gu"); (case hm => rfl)))
local macro_rules | `(tactic| walk_at "nS") => `(tactic| first
  | ((with_reducible refine' as_dputT ?un ?_ ?hs); (case un => walk_at "gu"); (case hs => with_unfolding_all rfl))
  | ((with_reducible refine' as_dput ?un ?_ ?hs); (case un => walk_at "gu"); (case hs => with_unfolding_all rfl))
  | ((with_reducible refine' as_fld ?_ ?hs); (case hs => with_unfolding_all rfl)))
local macro_rules | `(tactic| walk_at "nE") => `(tactic| first
  | ((with_reducible refine' ae_n ?g ?_); (case g => walk_at "g"))
  | ((with_reducible refine' ae_gm ?g ?hg ?_); (case g => assumption); (case hg => with_unfolding_all rfl))
  | ((with_reducible refine' ae_niTup ?_ ?hm); (case hm => rfl))
  | ((with_reducible refine' ae_inTup ?_ ?hm); (case hm => rfl)))
local macro_rules | `(tactic| walk_at "nSub") => `(tactic| first
  | (with_reducible refine ae_sl ?_)
  | ((with_reducible refine' ae_two ?T ?hg ?_ ?hs); (case T => assumption); (case hg => with_unfolding_all rfl); (case hs => exact fun _ _ => rfl))
  | ((with_reducible refine' ae_ixX ?un ?_ ?hs); (case un => walk_at "gu"); (case hs => exact fun _ _ => rfl)))
local macro_rules | `(tactic| walk_at "nR") => `(tactic| first
  | (with_reducible refine IxX.tup0 ?_)
  | (with_reducible refine IxX.tup1 ?_)
  | (with_reducible refine IxX.tup2 ?_)
  | (with_reducible refine aps_cons ?_)
  | (with_reducible refine aps_nil ?_)
  | ((with_reducible refine' sl_2n ?e ?_); (case e => decide))
  | ((with_reducible refine' sl_3n ?e ?_); (case e => decide))
  | ((with_reducible refine' sl_1n ?e ?_); (case e => decide))
  | ((with_reducible refine' sl_n1 ?e ?_); (case e => decide))
  | ((with_reducible refine' sl_n2 ?e ?_); (case e => decide))
  | ((with_reducible refine' IxX.tup ?h ?_); (case h => rfl))
  | ((with_reducible refine' IxX.lst ?h ?_); (case h => rfl))
  | ((with_reducible refine' IxX.dicS ?h ?_); (case h => rfl))
  | ((with_reducible refine' AddX.tup ?c ?_); (case c => exact Nat.le_of_ble_eq_true rfl)))
local macro_rules | `(tactic| walk_at "sl") => `(tactic| repeat (first | (with_reducible exact Sel.nil) | ((with_reducible apply Sel.cons); (focus (repeat (first | (with_reducible exact Take.head) | (with_reducible apply Take.tail)))))))
local macro_rules | `(tactic| walk_at "disp") => `(tactic| ((with_reducible refine' ae_disp ?_ ?hall ?hl ?h0 ?h15); (case hall => rfl); (case hl => rfl); (case h0 => exact List.cons_ne_nil _ _); (case h15 => exact Nat.le_of_ble_eq_true rfl)))
local macro_rules | `(tactic| walk_at "din") => `(tactic| ((with_reducible refine' at_din ?un ?_ ?hm); (case un => walk_at "gu"); (case hm => rfl)))
local macro_rules | `(tactic| walk_at "dni") => `(tactic| ((with_reducible refine' at_dni ?un ?_ ?hm); (case un => walk_at "gu"); (case hm => rfl)))
local macro_rules | `(tactic| walk_at "or") => `(tactic| (with_reducible refine ae_or ?_))
local macro_rules | `(tactic| walk_at "get") => `(tactic| ((with_reducible refine' ae_dgetOr ?un ?_ ?m); (case un => walk_at "gu"); (case m => exact ⟨rfl, rfl, rfl, rfl⟩)))
local macro_rules | `(tactic| walk_at "dnew") => `(tactic| (with_reducible refine ae_dnew ?_))
local macro_rules | `(tactic| walk_at "inr") => `(tactic| ((with_reducible refine' at_inR ?_ ?hm); (case hm => rfl)))
/-! Q6: a row that gives a name a value. -/
open PySem.PyData (strOk)
abbrev sGiven : Stmt := inCls 18 4
section
variable {P : Program} {w : World} {K : PySem.W.Frag} {mg : Str → Option Value} {base : Heap} {f : Addr} {fd : FuncData} {k : Nat} {c : Cs} {CL CH : Addr}
theorem okGiven {n : Nat} (B : Lib mg) (LL : LkC K CL) (L : HdC K CH) (n1 : GlM K mg "NUM" (Kd.enc .num)) (g1 : FnA P w K mg base (k + 1) "need_agree" (spNeed c)) (g2 : MtA P w K mg base (k + 1) CL "ask" (spAsk n CL CH c)) (g3 : MtA P w K mg base (k + 1) CH "field" (spFld CH c)) (g4 : MtA P w K mg base (k + 1) CH "value_kind" (spVK CH))
    (e1 : RaiseC P w K mg base k "NoName" c.n "name" "place") (e2 : RaiseC P w K mg base k "Twice" c.t "name" "place") (Fn : Fun K "given" "Looker.given" sGiven f fd) : FnOk P w K mg base (L2.CX P w) (k + 1 + 1) f fd ["self", "row", "place", "names"] (lift K (spGiven n CL CH c)) := by
  refine gate ?_
  simp (disch := with_unfolding_all (
      refine fnGx (Ns := ["self", "row", "place", "names", "word", "name", "asked", "worth", "kind", "at", "whole", "giver", "own", "other", "there", "extra", "due", "part"]) Fn rfl rfl ⟨rfl, rfl, rfl, by decide +kernel, rfl, by decide +kernel, by decide +kernel⟩ (fun ds O QA EA h => ?_) (by decide) (fun cdv A outer s H E hr ds O QA EA F h G => ?_)
      · obtain ⟨a, b, h, gk, q, w, es, ns, x, _⟩ := h
        rw [x]; rfl
      obtain ⟨a, b, h, gk, q, w, es, ns, x, eO, hg, hwo, hes, ok, hln, q1⟩ := h
      have l1 := L.cls
      have l2 := L.m
      have l3 := L.k
      have l4 := L.p
      have l5 := LL.cls
      have l6 := LL.h
      have l7 := LL.g
      have l8 := LL.p
      subst eO
      cases w with
      | let_ y =>
        obtain ⟨ex, rfl⟩ := List.length_eq_one_iff.mp hwo.1
        simp only [RW.enc, encs_cons, encs_nil] at x
        rw [szs1] at q1
        subst x
        walk_at "r"
        walk_at "ks"
        refine as_setLc true [("part", 17)] (G.comp true) G.calm G.nd (blkOk_by (by kernel_rfl)) (by walk_at "s") rfl (by walk_at "m") (by walk_at "b") (ai_tup ?_) (by with_unfolding_all rfl)
        walk_at "ks"
        refine comp_cons' ex.enc [] rfl (Nat.zero_le _) (fun Xb N' bk => ?_)
        obtain ⟨⟨s0, H0, C0, cl0, fp0, xe0, eb⟩, hex, hps2⟩ := bk
        subst eb
        have hps2 := hps2 rfl
        walk_at "k"
        walk_at "sb"
        walk_at "ks"
        refine c_ask (hes ex List.mem_cons_self) ok (fun xx hx => ?_) (fun er hx q' => ?_)
        · rw [asks1_ok hx] at q1
          refine comp_nil ?_
          walk_at "ks"
          refine at_din G.un ?_ rfl
          walk_at "ks"
          refine dgo_strR (List.mem_cons_of_mem _ List.mem_cons_self) getA_nm ?_
          replace q1 : Rz (rowOwn gk q (.let_ y) [xx] [] ns) _ _ := q1
          simp only [rowOwn] at q1
          cases hl : lookN ns y with
          | some kk =>
            rw [hl] at q1
            refine ite_t ?_
            walk_at "ks"
            exact ⟨_, .cons .head (.cons .head .nil), q1 _⟩
          | none =>
            rw [hl] at q1
            refine ite_f ?_
            walk_at "ks"
            refine ⟨b, _, .inr y, _, rfl, rfl, .tail .head, by rw [encNm_len]; omega, ?_⟩
            rw [setA_nm hl]
            walk_at "ks"
            exact ⟨_, .cons .head (.cons .head .nil), q1⟩
        · rw [asks1_bad hx] at q1
          rw [hex]
          exact ⟨_, .cons .head (.cons .head .nil), q1 q'⟩
      | set y =>
        obtain ⟨ex, rfl⟩ := List.length_eq_one_iff.mp hwo.1
        simp only [RW.enc, encs_cons, encs_nil] at x
        rw [szs1] at q1
        subst x
        walk_at "r"
        walk_at "ks"
        refine as_setLc true [("part", 17)] (G.comp true) G.calm G.nd (blkOk_by (by kernel_rfl)) (by walk_at "s") rfl (by walk_at "m") (by walk_at "b") (ai_tup ?_) (by with_unfolding_all rfl)
        walk_at "ks"
        refine comp_cons' ex.enc [] rfl (Nat.zero_le _) (fun Xb N' bk => ?_)
        obtain ⟨⟨s0, H0, C0, cl0, fp0, xe0, eb⟩, hex, hps2⟩ := bk
        subst eb
        have hps2 := hps2 rfl
        walk_at "k"
        walk_at "sb"
        walk_at "ks"
        refine c_ask (hes ex List.mem_cons_self) ok (fun xx hx => ?_) (fun er hx q' => ?_)
        · rw [asks1_ok hx] at q1
          have hkx := ask_kd ok (hes ex List.mem_cons_self) hx
          refine comp_nil ?_
          walk_at "ks"
          refine at_dni G.un ?_ rfl
          walk_at "ks"
          refine dgo_strR (List.mem_cons_of_mem _ List.mem_cons_self) getA_nm ?_
          replace q1 : Rz (rowOwn gk q (.set y) [xx] [] ns) _ _ := q1
          simp only [rowOwn] at q1
          cases hl : lookN ns y with
          | none =>
            rw [hl] at q1
            refine ite_nf ?_
            walk_at "ks"
            exact ⟨_, .cons .head (.cons .head .nil), q1 _⟩
          | some kk =>
            rw [hl] at q1
            have hkk := lookN_ok ok hl
            obtain ⟨q2, q3⟩ := rz_then q1
            refine ite_nt ?_
            walk_at "ks"
            refine IxX.refS (List.mem_cons_of_mem _ List.mem_cons_self) (getA_nm.trans (congrArg _ hl)) ?_
            walk_at "ks"
            refine c_vk hkk ?_
            walk_at "ks"
            refine c_need hkx hkk (fun z => ?_) (fun z => ⟨_, pk_nil, ?_⟩)
            · walk_at "ks"
              exact ⟨_, .cons .head (.cons .head .nil), q2 (by simp only [dueK, if_pos z])⟩
            · exact ⟨_, .cons .head (.cons .head .nil), q3 (.fit q xx.at_) (by simp only [dueK, if_neg z]) _⟩
        · rw [asks1_bad hx] at q1
          rw [hex]
          exact ⟨_, .cons .head (.cons .head .nil), q1 q'⟩
      | setat y =>
        obtain ⟨ex, ey, rfl⟩ := len2 hwo.1
        simp only [RW.enc, encs_cons, encs_nil] at x
        rw [szs2] at q1
        subst x
        walk_at "r"
        walk_at "ks"
        refine as_setLc true [("part", 17)] (G.comp true) G.calm G.nd (blkOk_by (by kernel_rfl)) (by walk_at "s") rfl (by walk_at "m") (by walk_at "b") (ai_tup ?_) (by with_unfolding_all rfl)
        walk_at "ks"
        refine comp_cons' ex.enc [ey.enc] rfl (Nat.zero_le _) (fun Xb N' bk => ?_)
        obtain ⟨⟨s0, H0, C0, cl0, fp0, xe0, eb⟩, hex, hps2⟩ := bk
        subst eb
        have hps2 := hps2 rfl
        walk_at "k"
        walk_at "sb"
        walk_at "ks"
        refine c_ask (hes ex List.mem_cons_self) ok (fun xx hx => ?_) (fun er hx q' => ?_)
        rotate_left
        · rw [asks2_bad1 hx] at q1
          rw [hex]
          exact ⟨_, .cons .head (.cons .head .nil), q1 q'⟩
        refine comp_cons' ey.enc [] rfl (by show 1 ≤ 100000; decide) (fun Xb N' bk => ?_)
        obtain ⟨⟨s1, H1, C1, cl1, fp1, xe1, eb⟩, hex1, hps3⟩ := bk
        subst eb
        have hps3 := hps3 rfl
        walk_at "k"
        walk_at "sb"
        walk_at "ks"
        refine c_ask (hes ey (List.mem_cons_of_mem _ List.mem_cons_self)) ok (fun yy hy => ?_) (fun er hy q' => ?_)
        rotate_left
        · rw [asks2_bad2 hx (by rwa [show q + 1 + ex.sz = q + ex.sz + 1 by omega])] at q1
          rw [hex1]
          exact ⟨_, .cons .head (.cons .head .nil), q1 q'⟩
        rw [asks2_ok hx (by rwa [show q + 1 + ex.sz = q + ex.sz + 1 by omega])] at q1
        have hkx := ask_kd ok (hes ex List.mem_cons_self) hx
        have hky := ask_kd ok (hes ey (List.mem_cons_of_mem _ List.mem_cons_self)) hy
        refine comp_nil ?_
        rw [Nat.add_assoc]
        show ∃ R', Put _ _ (D.lst [xx.enc, yy.enc]) R' ∧ _
        walk_at "ks"
        refine at_dni G.un ?_ rfl
        walk_at "ks"
        refine dgo_strR (List.mem_cons_of_mem _ List.mem_cons_self) getA_nm ?_
        replace q1 : Rz (rowOwn gk q (.setat y) [xx, yy] [] ns) _ _ := q1
        simp only [rowOwn] at q1
        cases hl : lookN ns y with
        | none =>
          rw [hl] at q1
          refine ite_nf ?_
          walk_at "ks"
          exact ⟨_, .cons .head (.cons .head .nil), q1 _⟩
        | some kk =>
          rw [hl] at q1
          dsimp only at q1
          have hkk := lookN_ok ok hl
          refine ite_nt ?_
          walk_at "ks"
          refine IxX.refS (List.mem_cons_of_mem _ List.mem_cons_self) (getA_nm.trans (congrArg _ hl)) ?_
          walk_at "ks"
          refine c_vk hkk ?_
          rw [Kd.enc_wd kk.1]
          walk_at "ks"
          refine c_needS kk.1.wd_ok (show strOk "row" = true by decide +kernel) (fun z => ?_) (fun z => ⟨_, pk_nil, ?_⟩)
          · rw [if_pos (by rw [wd_row, decide_eq_true z])] at q1
            obtain ⟨q2, q3⟩ := rz_then q1
            walk_at "ks"
            refine ai_lst ?_
            walk_at "ks"
            refine c_need hkx .num (fun z1 => ?_) (fun z1 => ⟨_, pk_nil, ?_⟩)
            · walk_at "ks"
              refine c_need hky .num (fun z2 => ?_) (fun z2 => ⟨_, pk_nil, ?_⟩)
              · walk_at "ks"
                exact ⟨_, .cons .head (.cons .head .nil), q2 (by simp only [dueK, if_pos z1, if_pos z2])⟩
              · exact ⟨_, .cons .head (.cons .head .nil), q3 (.fit q yy.at_) (by simp only [dueK, if_pos z1, if_neg z2]) _⟩
            · exact ⟨_, .cons .head (.cons .head .nil), q3 (.fit q xx.at_) (by simp only [dueK, if_neg z1]) _⟩
          · rw [if_neg (by rw [wd_row, decide_eq_false z]; exact Bool.noConfusion)] at q1
            exact ⟨_, .cons .head (.cons .head .nil), q1 _⟩
      | setf y ff =>
        obtain ⟨ex, rfl⟩ := List.length_eq_one_iff.mp hwo.1
        simp only [RW.enc, encs_cons, encs_nil] at x
        rw [szs1] at q1
        subst x
        walk_at "r"
        walk_at "ks"
        refine as_setLc true [("part", 17)] (G.comp true) G.calm G.nd (blkOk_by (by kernel_rfl)) (by walk_at "s") rfl (by walk_at "m") (by walk_at "b") (ai_tup ?_) (by with_unfolding_all rfl)
        walk_at "ks"
        refine comp_cons' ex.enc [] rfl (Nat.zero_le _) (fun Xb N' bk => ?_)
        obtain ⟨⟨s0, H0, C0, cl0, fp0, xe0, eb⟩, hex, hps2⟩ := bk
        subst eb
        have hps2 := hps2 rfl
        walk_at "k"
        walk_at "sb"
        walk_at "ks"
        refine c_ask (hes ex List.mem_cons_self) ok (fun xx hx => ?_) (fun er hx q' => ?_)
        rotate_left
        · rw [asks1_bad hx] at q1
          rw [hex]
          exact ⟨_, .cons .head (.cons .head .nil), q1 q'⟩
        rw [asks1_ok hx] at q1
        have hkx := ask_kd ok (hes ex List.mem_cons_self) hx
        refine comp_nil ?_
        walk_at "ks"
        refine at_dni G.un ?_ rfl
        walk_at "ks"
        refine dgo_strR (List.mem_cons_of_mem _ List.mem_cons_self) getA_nm ?_
        replace q1 : Rz (rowOwn gk q (.setf y ff) [xx] [] ns) _ _ := q1
        simp only [rowOwn] at q1
        cases hl : lookN ns y with
        | none =>
          rw [hl] at q1
          refine ite_nf ?_
          walk_at "ks"
          exact ⟨_, .cons .head (.cons .head .nil), q1 _⟩
        | some kk =>
          rw [hl] at q1
          dsimp only at q1
          have hkk := lookN_ok ok hl
          refine ite_nt ?_
          walk_at "ks"
          refine IxX.refS (List.mem_cons_of_mem _ List.mem_cons_self) (getA_nm.trans (congrArg _ hl)) ?_
          walk_at "ks"
          refine c_vk hkk ?_
          rw [Kd.enc_wd kk.1]
          walk_at "ks"
          refine c_needS kk.1.wd_ok (show strOk "named" = true by decide +kernel) (fun z => ?_) (fun z => ⟨_, pk_nil, ?_⟩)
          · rw [if_pos (by rw [wd_named, decide_eq_true z])] at q1
            obtain ⟨bb, eb, hb⟩ := named_of hkk z
            walk_at "ks"
            refine calls_0 ⟨h, bb, ff, q, by rw [← Kd.enc_wd, eb], rfl, hb, hwo.2.2.2, ?_⟩
            cases hf : fieldK ff q with
            | error er =>
              rw [hf] at q1
              exact ⟨_, pk_nil, _, .cons .head (.cons .head .nil), q1 _⟩
            | ok fx =>
              rw [hf] at q1
              have hkf := (fieldK_kd hf).1
              obtain ⟨q2, q3⟩ := rz_then q1
              refine ⟨_, pk_nil, ?_⟩
              walk_at "ks"
              refine c_need hkx hkf (fun z1 => ?_) (fun z1 => ⟨_, pk_nil, ?_⟩)
              · walk_at "ks"
                exact ⟨_, .cons .head (.cons .head .nil), q2 (by simp only [dueK, if_pos z1])⟩
              · exact ⟨_, .cons .head (.cons .head .nil), q3 (.fit q xx.at_) (by simp only [dueK, if_neg z1]) _⟩
          · rw [if_neg (by rw [wd_named, decide_eq_false z]; exact Bool.noConfusion)] at q1
            exact ⟨_, .cons .head (.cons .head .nil), q1 _⟩
      | if_ => cases hg
      | while_ => cases hg
      | log => cases hg
      | do_ => cases hg
      | ret => cases hg
      | raise _ => cases hg
      | try_ _ => cases hg
    )) only [↓gate_rule]
end
/-! M5: rows, plainly. -/
open PySem.PyData (strOk)
theorem rowOwn_nm {gk : Kd} {p : Nat} {as : List As} {bs : List (List D)} {ns : Nm} {x : D × Nm} (ok : NmOk ns) (hk : ∀ a ∈ as, K6 a.kd) : ∀ {w : RW}, rowOwn gk p w as bs ns = .ok x → NmOk x.2 ∧ x.2.length ≤ ns.length + 1
  | .let_ y, e => by
    cases as with
    | nil => cases e
    | cons a as =>
      simp only [rowOwn] at e
      split at e
      · cases e
      · cases e
        exact ⟨nmOk_app ok (hk a List.mem_cons_self), by show (ns ++ _).length ≤ _; rw [List.length_append]; exact Nat.le_refl _⟩
  | .set y, e => by
    simp only [rowOwn] at e
    split at e
    · cases e
    · rw [← then_ok e]; exact ⟨ok, Nat.le_succ _⟩
  | .setat y, e => by
    simp only [rowOwn] at e
    split at e
    · cases e
    · split at e
      · rw [← then_ok e]; exact ⟨ok, Nat.le_succ _⟩
      · cases e
  | .setf y ff, e => by
    simp only [rowOwn] at e
    split at e
    · cases e
    · split at e
      · obtain ⟨i, _, e⟩ := bind_ok e
        rw [← then_ok e]; exact ⟨ok, Nat.le_succ _⟩
      · cases e
  | .if_, e => by simp only [rowOwn] at e; rw [← then_ok e]; exact ⟨ok, Nat.le_succ _⟩
  | .while_, e => by simp only [rowOwn] at e; rw [← then_ok e]; exact ⟨ok, Nat.le_succ _⟩
  | .log, e => by
    cases as with
    | nil => cases e
    | cons a as =>
      simp only [rowOwn] at e
      split at e
      · cases e; exact ⟨ok, Nat.le_succ _⟩
      · cases e
  | .do_, e => by simp only [rowOwn] at e; cases e; exact ⟨ok, Nat.le_succ _⟩
  | .ret, e => by simp only [rowOwn] at e; rw [← then_ok e]; exact ⟨ok, Nat.le_succ _⟩
  | .raise s, e => by simp only [rowOwn] at e; cases e; exact ⟨ok, Nat.le_succ _⟩
  | .try_ fs, e => by simp only [rowOwn] at e; cases e; exact ⟨ok, Nat.le_succ _⟩
theorem rw_nm {h : Hd} {gk : Kd} {n : Nat} {r : Rw} {p : Nat} {ns : Nm} {x : D × Nm} (hw : WfR n r) (ok : NmOk ns) (e : r.look h gk p ns = .ok x) : NmOk x.2 ∧ x.2.length ≤ ns.length + r.sz := by
  cases hw with
  | @mk n w es bs h1 h2 h3 =>
    simp only [Rw.look] at e
    obtain ⟨as, e1, e⟩ := bind_ok e
    obtain ⟨ds, e2, e⟩ := bind_ok e
    obtain ⟨a, b⟩ := rowOwn_nm ok (asks_kd ok h2 e1) e
    refine ⟨a, Nat.le_trans b ?_⟩
    simp only [Rw.sz]
    omega
theorem rws_inv {es : Rws} (h : Rws.encs es = []) : es = .nil := by
  cases es with
  | nil => rfl
  | cons e es => simp only [Rws.encs] at h; cases h
theorem rws_inv2 {es : Rws} {d : D} {ds : List D} (h : d :: ds = Rws.encs es) : ∃ e es', es = .cons e es' ∧ d = e.enc ∧ ds = Rws.encs es' := by
  cases es with
  | nil => simp only [Rws.encs] at h; cases h
  | cons e es => simp only [Rws.encs] at h; cases h; exact ⟨e, es, rfl, rfl, rfl⟩
section
variable {h : Hd} {gk : Kd} {ns nc : Nm} {r : Rw} {rs : Rws} {p : Nat} {done : List D} {m : Except Er (List D × Nm)} {x : D × Nm} {er : Er}
theorem look_nil : Rws.look h gk .nil p ns = .ok ([], ns) := by simp only [Rws.look]
theorem look_cons : Rws.look h gk (.cons r rs) p ns = (r.look h gk p ns).bind fun x => (Rws.look h gk rs (p + r.sz) x.2).bind fun y => .ok (x.1 :: y.1, y.2) := by simp only [Rws.look]
theorem look_bind : Rws.look h gk rs p ns = (Rws.look h gk rs p ns).bind fun y => .ok ([] ++ y.1, y.2) := by
  cases Rws.look h gk rs p ns <;> rfl
theorem look_step (h0 : m = (Rws.look h gk (.cons r rs) p nc).bind fun y => .ok (done ++ y.1, y.2)) (hx : r.look h gk p nc = .ok x) : m = (Rws.look h gk rs (p + r.sz) x.2).bind fun y => .ok ((done ++ [x.1]) ++ y.1, y.2) := by
  rw [h0, look_cons, hx]
  show ((Rws.look h gk rs (p + r.sz) x.2).bind fun y => Except.ok (x.1 :: y.1, y.2)).bind _ = _
  cases Rws.look h gk rs (p + r.sz) x.2 with
  | error er => rfl
  | ok y => show Except.ok (done ++ x.1 :: y.1, y.2) = Except.ok (done ++ [x.1] ++ y.1, y.2); rw [List.append_assoc]; rfl
theorem look_stop (h0 : m = (Rws.look h gk (.cons r rs) p nc).bind fun y => .ok (done ++ y.1, y.2)) (hx : r.look h gk p nc = .error er) : m = .error er := by
  rw [h0, look_cons, hx]; rfl
theorem look_end (h0 : m = (Rws.look h gk .nil p nc).bind fun y => .ok (done ++ y.1, y.2)) : m = .ok (done, nc) := by
  rw [h0, look_nil]; show Except.ok (done ++ [], nc) = _; rw [List.append_nil]
end
theorem rwsz_cons {r : Rw} {rs : Rws} : (Rws.cons r rs).sz = r.sz + rs.sz := by simp only [Rws.sz]
section
variable {N : Ent} {Q : D → Os → Prop} {CL CH : Addr} {c : Cs} {a b t : Addr} {h : Hd} {gk : Kd} {q n : Nat} {ns nc : Nm}
theorem c_given {w : RW} {es : List Ex} (hg : givenW w = true) (hwo : w.ok es.length 0) (hes : ∀ e ∈ es, Wf n e) (ok : NmOk ns) (hl : ns.length ≤ 9000)
    (k1 : ∀ x, ((Ex.asks h ns es (q + 1)).bind fun as => rowOwn gk q w as [] ns) = .ok x → Q x.1 (lkO CL CH h gk.enc a b (q + Ex.szs es) x.2)) (k2 : ∀ er, ((Ex.asks h ns es (q + 1)).bind fun as => rowOwn gk q w as [] ns) = .error er → ∀ q', N.EX (er.C c) er.fs (lkO CL CH h gk.enc a b q' ns)) :
    CallS N (spGiven n CL CH c) [.ref a, w.enc (Ex.encs es) [], .int (q : Nat), .ref b] (lkO CL CH h gk.enc a b q ns) Q :=
  ⟨lkO CL CH h gk.enc a b q ns, .cons .head (.cons .head .nil), a, b, h, gk, q, w, es, ns, rfl, rfl, hg, hwo, hes, ok, hl, rz_mk (fun _ z => ⟨_, .step .head (.step (.tail .head) .new), k1 _ z⟩) (fun _ z q' => ⟨_, .step .head (.step (.tail .head) .new), k2 _ z q'⟩)⟩
theorem c_rws {r : Rws} (hw : WfS n r) (ok : NmOk ns) (hk : K6 gk) (hl : ns.length + r.sz ≤ 9000)
    (k1 : ∀ x, r.look h gk (q + 1) ns = .ok x → Q (.tup x.1) (lkO CL CH h gk.enc a b (q + r.sz) ns)) (k2 : ∀ er, r.look h gk (q + 1) ns = .error er → ∀ q', N.EX (er.C c) er.fs (lkO CL CH h gk.enc a b q' ns)) :
    CallS N (spRws n CL CH c) [.ref a, .tup (Rws.encs r), .ref b] (lkO CL CH h gk.enc a b q ns) Q :=
  ⟨lkO CL CH h gk.enc a b q ns, .cons .head (.cons .head .nil), a, b, h, gk, q, r, ns, rfl, rfl, hw, ok, hk, hl, rz_mk (fun _ z => ⟨_, .step .head (.step (.tail .head) .new), k1 _ z⟩) (fun _ z q' => ⟨_, .step .head (.step (.tail .head) .new), k2 _ z q'⟩)⟩
theorem c_rwt {r : Rw} (hw : WfR n r) (ok : NmOk nc) (hk : K6 gk) (hl : nc.length + r.sz ≤ 9000)
    (k1 : ∀ x, r.look h gk (q + 1) nc = .ok x → Q x.1 ((t, .dic (encNm x.2)) :: lkO CL CH h gk.enc a b (q + r.sz) ns)) (k2 : ∀ er, r.look h gk (q + 1) nc = .error er → ∀ q', N.EX (er.C c) er.fs ((t, .dic (encNm nc)) :: lkO CL CH h gk.enc a b q' ns)) :
    CallS N (spRw n CL CH c) [.ref a, r.enc, .ref t] ((t, .dic (encNm nc)) :: lkO CL CH h gk.enc a b q ns) Q :=
  ⟨lkO CL CH h gk.enc a t q nc, .cons (.tail .head) (.cons .head .nil), a, t, h, gk, q, r, nc, rfl, rfl, hw, ok, hk, hl, rz_mk (fun _ z => ⟨_, .step (.tail .head) (.step .head .new), k1 _ z⟩) (fun _ z q' => ⟨_, .step (.tail .head) (.step .head .new), k2 _ z q'⟩)⟩
end
theorem at_niTT {X : Cx} {N : Ent} {R : Rho} {O : Os} {a : Expr} {x y : Str} {p1 p2 p pos : Pos} {kk : Nat} {Q : Bool → Os → Prop} (hu : X.A.units + 65 < cLine) (h : AE X N a R O fun d1 O1 => AE X N (.Tuple [.Name x p1, .Name y p2] kk p) R O1 fun d2 O2 => ∃ s1 s2 c1 c2, d2 = .tup [.tup [.str s1], .tup [.str s2]] ∧ s1 ≠ s2 ∧ eqP (.tup [.str s1]) d1 = some c1 ∧ eqP (.tup [.str s2]) d1 = some c2 ∧ Q (!(c1 || c2)) O2) (hm : behindInMarks .NotIn (.Tuple [.Name x p1, .Name y p2] kk p) = false) :
    AT X N (.Compare a [.NotIn] [.Tuple [.Name x p1, .Name y p2] kk p] pos) R O Q := at_niT hu h hm
end
section
local macro_rules | `(tactic| walk_at "nBin") => `(tactic| (with_reducible refine ae_repT ?_))
local macro_rules | `(tactic| walk_at "nT") => `(tactic| ((with_reducible refine' at_niTT ?un ?_ ?hm); (case un => walk_at "gu"); (case hm => rfl)))
local macro_rules | `(tactic| walk_at "nS") => `(tactic| first
  | ((with_reducible refine' as_dputT ?un ?_ ?hs); (case un => walk_at "gu"); (case hs => with_unfolding_all rfl))
  | ((with_reducible refine' as_dput ?un ?_ ?hs); (case un => walk_at "gu"); (case hs => with_unfolding_all rfl))
  | ((with_reducible refine' as_fld ?_ ?hs); (case hs => with_unfolding_all rfl)))
local macro_rules | `(tactic| walk_at "nE") => `(tactic| first
  | ((with_reducible refine' ae_n ?g ?_); (case g => walk_at "g"))
  | ((with_reducible refine' ae_gm ?g ?hg ?_); (case g => assumption); (case hg => with_unfolding_all rfl))
  | ((with_reducible refine' ae_niTup ?_ ?hm); (case hm => rfl))
  | ((with_reducible refine' ae_inTup ?_ ?hm); (case hm => rfl)))
local macro_rules | `(tactic| walk_at "nSub") => `(tactic| first
  | (with_reducible refine ae_sl ?_)
  | ((with_reducible refine' ae_two ?T ?hg ?_ ?hs); (case T => assumption); (case hg => with_unfolding_all rfl); (case hs => exact fun _ _ => rfl))
  | ((with_reducible refine' ae_ixX ?un ?_ ?hs); (case un => walk_at "gu"); (case hs => exact fun _ _ => rfl)))
local macro_rules | `(tactic| walk_at "nR") => `(tactic| first
  | (with_reducible refine IxX.tup0 ?_)
  | (with_reducible refine IxX.tup1 ?_)
  | (with_reducible refine IxX.tup2 ?_)
  | (with_reducible refine aps_cons ?_)
  | (with_reducible refine aps_nil ?_)
  | ((with_reducible refine' sl_2n ?e ?_); (case e => decide))
  | ((with_reducible refine' sl_3n ?e ?_); (case e => decide))
  | ((with_reducible refine' sl_1n ?e ?_); (case e => decide))
  | ((with_reducible refine' sl_n1 ?e ?_); (case e => decide))
  | ((with_reducible refine' sl_n2 ?e ?_); (case e => decide))
  | ((with_reducible refine' IxX.tup ?h ?_); (case h => rfl))
  | ((with_reducible refine' IxX.lst ?h ?_); (case h => rfl))
  | ((with_reducible refine' IxX.dicS ?h ?_); (case h => rfl))
  | ((with_reducible refine' AddX.tup ?c ?_); (case c => exact Nat.le_of_ble_eq_true rfl)))
local macro_rules | `(tactic| walk_at "sl") => `(tactic| repeat (first | (with_reducible exact Sel.nil) | ((with_reducible apply Sel.cons); (focus (repeat (first | (with_reducible exact Take.head) | (with_reducible apply Take.tail)))))))
local macro_rules | `(tactic| walk_at "disp") => `(tactic| ((with_reducible refine' ae_disp ?_ ?hall ?hl ?h0 ?h15); (case hall => rfl); (case hl => rfl); (case h0 => exact List.cons_ne_nil _ _); (case h15 => exact Nat.le_of_ble_eq_true rfl)))
local macro_rules | `(tactic| walk_at "din") => `(tactic| ((with_reducible refine' at_din ?un ?_ ?hm); (case un => walk_at "gu"); (case hm => rfl)))
local macro_rules | `(tactic| walk_at "dni") => `(tactic| ((with_reducible refine' at_dni ?un ?_ ?hm); (case un => walk_at "gu"); (case hm => rfl)))
local macro_rules | `(tactic| walk_at "or") => `(tactic| (with_reducible refine ae_or ?_))
local macro_rules | `(tactic| walk_at "get") => `(tactic| ((with_reducible refine' ae_dgetOr ?un ?_ ?m); (case un => walk_at "gu"); (case m => exact ⟨rfl, rfl, rfl, rfl⟩)))
local macro_rules | `(tactic| walk_at "dnew") => `(tactic| (with_reducible refine ae_dnew ?_))
local macro_rules | `(tactic| walk_at "inr") => `(tactic| ((with_reducible refine' at_inR ?_ ?hm); (case hm => rfl)))
/-! Q7: rows are looked at. -/
open PySem.PyData (strOk)
abbrev sRws : Stmt := inCls 18 2
abbrev sRw : Stmt := inCls 18 3
section
variable {P : Program} {w : World} {K : PySem.W.Frag} {mg : Str → Option Value} {base : Heap} {f : Addr} {fd : FuncData} {k : Nat} {c : Cs} {CL CH : Addr}
theorem okLookRows {n : Nat} (B : Lib mg) (LL : LkC K CL) (g1 : MtA P w K mg base k CL "look_row" (spRw n CL CH c)) (Fn : Fun K "look_rows" "Looker.look_rows" sRws f fd) : FnOk P w K mg base (L2.CX P w) (k + 1) f fd ["self", "rows", "names"] (lift K (spRws n CL CH c)) := by
  refine gate ?_
  simp (disch := with_unfolding_all (
      refine fnGx (Ns := ["self", "rows", "names", "own", "row"]) Fn rfl rfl ⟨rfl, rfl, rfl, by decide +kernel, rfl, by decide +kernel, by decide +kernel⟩ (fun ds O QA EA h => ?_) (by decide) (fun cdv A outer s H E hr ds O QA EA F h G => ?_)
      · obtain ⟨a, b, h, gk, q, r, ns, x, _⟩ := h
        rw [x]; rfl
      obtain ⟨a, b, h, gk, q, r, ns, x, eO, hw, ok, hgk, hln, q1⟩ := h
      have l5 := LL.cls
      have l6 := LL.h
      have l7 := LL.g
      have l8 := LL.p
      subst x eO
      walk_at "r"
      walk_at "ks"
      refine ae_dicOf B.dct ?_
      walk_at "ks"
      refine ⟨_, .inr ⟨b, rfl, List.mem_cons_of_mem _ List.mem_cons_self⟩, .inl fun t => ?_⟩
      walk_at "ks"
      refine ae_lc true [("row", 4)] (G.comp true) G.calm G.nd (blkOk_by (by kernel_rfl)) (by walk_at "b") (ai_tup ?_)
      walk_at "ks"
      refine CompA.inv (fun ds acc O => ∃ rest qc nc, ds = Rws.encs rest ∧ WfS n rest ∧ NmOk nc ∧ nc.length + rest.sz ≤ 9000 ∧ O = (t, .dic (encNm nc)) :: lkO CL CH h gk.enc a b qc ns ∧ r.look h gk (q + 1) ns = (rest.look h gk (qc + 1) nc).bind (fun y => .ok (acc ++ y.1, y.2)) ∧ qc + rest.sz = q + r.sz ∧ acc.length + rest.len ≤ 9000) (fun acc O hi => ?_) (fun d ds acc O hi => ?_) ⟨r, q, ns, rfl, hw, ok, hln, rfl, look_bind, rfl, by have := len_sz r; simp only [List.length_nil]; omega⟩
      · obtain ⟨rest, qc, nc, e1, _, _, _, rfl, e2, e3, _⟩ := hi
        obtain rfl := rws_inv e1.symm
        rw [look_end e2] at q1
        simp only [Rws.sz, Nat.add_zero] at e3
        subst e3
        walk_at "ks"
        exact ⟨_, .cons (.tail .head) (.cons (.tail .head) .nil), q1⟩
      · obtain ⟨rest, qc, nc, e1, hw2, ok2, hl2, rfl, e2, e3, e4⟩ := hi
        obtain ⟨r1, rest', rfl, rfl, rfl⟩ := rws_inv2 e1
        cases hw2 with
        | cons hw3 hw4 =>
        rw [rwsz_cons] at hl2 e3
        simp only [Rws.len] at e4
        refine ⟨by omega, fun Xb N' bk => ?_⟩
        obtain ⟨⟨s0, H0, C0, cl0, fp0, xe0, eb⟩, hex, hps2⟩ := bk
        subst eb
        have hps2 := hps2 rfl
        walk_at "k"
        walk_at "sb"
        walk_at "ks"
        refine c_rwt hw3 ok2 hgk (by omega) (fun x hx => ?_) (fun er hx q' => ?_)
        · obtain ⟨ok3, hl3⟩ := rw_nm hw3 ok2 hx
          refine ⟨rest', qc + r1.sz, x.2, rfl, hw4, ok3, by omega, rfl, ?_, by omega, by simp only [List.length_append, List.length_cons, List.length_nil]; omega⟩
          have := look_step e2 hx
          rwa [show qc + 1 + r1.sz = qc + r1.sz + 1 by omega] at this
        · rw [hex]
          rw [look_stop e2 hx] at q1
          exact ⟨_, .cons (.tail .head) (.cons (.tail .head) .nil), q1 q'⟩
    )) only [↓gate_rule]
end
/-! Q8: a row is looked at. -/
open PySem.PyData (strOk)
theorem bdsz1 {b : Rws} : (Bds.cons b .nil).sz = b.sz := by simp only [Bds.sz, Nat.add_zero]
theorem bdsz2 {b c : Rws} : (Bds.cons b (.cons c .nil)).sz = b.sz + c.sz := by simp only [Bds.sz, Nat.add_zero]
theorem bdsz3 {b c d : Rws} : (Bds.cons b (.cons c (.cons d .nil))).sz = b.sz + (c.sz + d.sz) := by simp only [Bds.sz, Nat.add_zero]
theorem bd_none {bs : Bds} (h : bs.len = 0) : bs = .nil := by
  cases bs with
  | nil => rfl
  | cons _ _ => simp only [Bds.len] at h; omega
theorem bd_one {bs : Bds} (h : bs.len = 1) : ∃ b, bs = .cons b .nil := by
  cases bs with
  | nil => simp only [Bds.len] at h; omega
  | cons b bs => simp only [Bds.len] at h; exact ⟨b, by rw [bd_none (bs := bs) (by omega)]⟩
theorem bd_two {bs : Bds} (h : bs.len = 2) : ∃ b c, bs = .cons b (.cons c .nil) := by
  cases bs with
  | nil => simp only [Bds.len] at h; omega
  | cons b bs => simp only [Bds.len] at h; obtain ⟨c, e⟩ := bd_one (bs := bs) (by omega); exact ⟨b, c, by rw [e]⟩
theorem bd_three {bs : Bds} (h : bs.len = 3) : ∃ b c d, bs = .cons b (.cons c (.cons d .nil)) := by
  cases bs with
  | nil => simp only [Bds.len] at h; omega
  | cons b bs => simp only [Bds.len] at h; obtain ⟨c, d, e⟩ := bd_two (bs := bs) (by omega); exact ⟨b, c, d, by rw [e]⟩
section
variable {h : Hd} {gk : Kd} {ns : Nm} {p : Nat} {b c d : Rws} {x y z : List D × Nm} {er : Er}
theorem bl0 : Bds.look h gk .nil p ns = .ok [] := by simp only [Bds.look]
theorem bl1 (h1 : b.look h gk p ns = .ok x) : Bds.look h gk (.cons b .nil) p ns = .ok [x.1] := by simp only [Bds.look, h1]; rfl
theorem bl1e (h1 : b.look h gk p ns = .error er) {bs : Bds} : Bds.look h gk (.cons b bs) p ns = .error er := by simp only [Bds.look, h1]; rfl
theorem blc {bs : Bds} {r : List (List D)} (h1 : b.look h gk p ns = .ok x) (h2 : bs.look h gk (p + b.sz) ns = .ok r) : Bds.look h gk (.cons b bs) p ns = .ok (x.1 :: r) := by simp only [Bds.look, h1, h2]; rfl
theorem blce {bs : Bds} (h1 : b.look h gk p ns = .ok x) (h2 : bs.look h gk (p + b.sz) ns = .error er) : Bds.look h gk (.cons b bs) p ns = .error er := by simp only [Bds.look, h1, h2]; rfl
theorem lk_mk {w : RW} {es : List Ex} {bs : Bds} : (Rw.mk w es bs).look h gk p ns = (Ex.asks h ns es (p + 1)).bind fun as => (Bds.look h gk bs (p + 1 + Ex.szs es) ns).bind fun ds => rowOwn gk p w as ds ns := by simp only [Rw.look]
end
theorem rz_bok {α β : Type} {a : α} {g : α → Except Er β} {ok : β → Prop} {bad : Er → Prop} (h : Rz ((Except.ok a).bind g) ok bad) : Rz (g a) ok bad := h
section
variable {P : Program} {w : World} {K : PySem.W.Frag} {mg : Str → Option Value} {base : Heap} {f : Addr} {fd : FuncData} {k : Nat} {c : Cs} {CL CH : Addr}
theorem okLookRow {n : Nat} (B : Lib mg) (LL : LkC K CL) (n1 : GlM K mg "NUM" (Kd.enc .num)) (n2 : GlM K mg "TRUTH" (Kd.enc .truth)) (g0 : MtA P w K mg base (k + 1) CL "next_place" (spNext CL)) (g1 : FnA P w K mg base (k + 1) "need_agree" (spNeed c)) (g2 : MtA P w K mg base (k + 1) CL "ask" (spAsk n CL CH c)) (g3 : MtA P w K mg base (k + 1) CL "given" (spGiven n CL CH c)) (g4 : MtA P w K mg base (k + 1) CL "look_rows" (spRws n CL CH c))
    (e1 : RaiseC P w K mg base k "NoFit" c.f "wants" "gives") (Fn : Fun K "look_row" "Looker.look_row" sRw f fd) : FnOk P w K mg base (L2.CX P w) (k + 1 + 1) f fd ["self", "row", "names"] (lift K (spRw (n + 1) CL CH c)) := by
  refine gate ?_
  simp (disch := with_unfolding_all (
      refine fnGx (Ns := ["self", "row", "names", "place", "word", "rows", "worth", "kind", "at", "bodies", "fault", "other"]) Fn rfl rfl ⟨rfl, rfl, rfl, by decide +kernel, rfl, by decide +kernel, by decide +kernel⟩ (fun ds O QA EA h => ?_) (by decide) (fun cdv A outer s H E hr ds O QA EA F h G => ?_)
      · obtain ⟨a, b, h, gk, q, r, ns, x, _⟩ := h
        rw [x]; rfl
      obtain ⟨a, b, h, gk, q, r, ns, x, eO, hw, ok, hgk, hln, q1⟩ := h
      have l5 := LL.cls
      have l6 := LL.h
      have l7 := LL.g
      have l8 := LL.p
      subst eO
      cases hw with
      | @mk _ w es bs hwo hes hbs =>
      simp only [Rw.enc] at x
      simp only [Rw.sz] at hln
      have esz : (Rw.mk w es bs).sz = Ex.szs es + bs.sz + 1 := by simp only [Rw.sz]
      rw [lk_mk, esz] at q1
      cases w with
      | let_ y =>
        obtain rfl := bd_none hwo.2.1
        simp only [RW.enc, Bds.encs] at x
        have e0 : q + (Ex.szs es + Bds.nil.sz + 1) = q + 1 + Ex.szs es := by simp only [Bds.sz]; omega
        rw [e0] at q1
        simp only [bl0] at q1
        subst x
        walk_at "r"
        walk_at "ks"
        refine c_next ?_
        walk_at "ks"
        refine c_given (w := .let_ y) rfl ⟨hwo.1, rfl, hwo.2.2⟩ hes ok (by omega) (fun x hx => ?_) (fun er hx q' => ?_)
        · have z := rz_ok q1 hx
          exact ⟨_, .cons .head (.cons .head .nil), z⟩
        · have z := rz_bad q1 hx q'
          exact ⟨_, .cons .head (.cons .head .nil), z⟩
      | set y =>
        obtain rfl := bd_none hwo.2.1
        simp only [RW.enc, Bds.encs] at x
        have e0 : q + (Ex.szs es + Bds.nil.sz + 1) = q + 1 + Ex.szs es := by simp only [Bds.sz]; omega
        rw [e0] at q1
        simp only [bl0] at q1
        subst x
        walk_at "r"
        walk_at "ks"
        refine c_next ?_
        walk_at "ks"
        refine c_given (w := .set y) rfl ⟨hwo.1, rfl, hwo.2.2⟩ hes ok (by omega) (fun x hx => ?_) (fun er hx q' => ?_)
        · have z := rz_ok q1 hx
          exact ⟨_, .cons .head (.cons .head .nil), z⟩
        · have z := rz_bad q1 hx q'
          exact ⟨_, .cons .head (.cons .head .nil), z⟩
      | setat y =>
        obtain rfl := bd_none hwo.2.1
        simp only [RW.enc, Bds.encs] at x
        have e0 : q + (Ex.szs es + Bds.nil.sz + 1) = q + 1 + Ex.szs es := by simp only [Bds.sz]; omega
        rw [e0] at q1
        simp only [bl0] at q1
        subst x
        walk_at "r"
        walk_at "ks"
        refine c_next ?_
        walk_at "ks"
        refine c_given (w := .setat y) rfl ⟨hwo.1, rfl, hwo.2.2⟩ hes ok (by omega) (fun x hx => ?_) (fun er hx q' => ?_)
        · have z := rz_ok q1 hx
          exact ⟨_, .cons .head (.cons .head .nil), z⟩
        · have z := rz_bad q1 hx q'
          exact ⟨_, .cons .head (.cons .head .nil), z⟩
      | setf y ff =>
        obtain rfl := bd_none hwo.2.1
        simp only [RW.enc, Bds.encs] at x
        have e0 : q + (Ex.szs es + Bds.nil.sz + 1) = q + 1 + Ex.szs es := by simp only [Bds.sz]; omega
        rw [e0] at q1
        simp only [bl0] at q1
        subst x
        walk_at "r"
        walk_at "ks"
        refine c_next ?_
        walk_at "ks"
        refine c_given (w := .setf y ff) rfl ⟨hwo.1, rfl, hwo.2.2⟩ hes ok (by omega) (fun x hx => ?_) (fun er hx q' => ?_)
        · have z := rz_ok q1 hx
          exact ⟨_, .cons .head (.cons .head .nil), z⟩
        · have z := rz_bad q1 hx q'
          exact ⟨_, .cons .head (.cons .head .nil), z⟩
      | raise y =>
        obtain rfl := bd_none hwo.2.1
        obtain rfl := List.length_eq_zero_iff.mp hwo.1
        simp only [RW.enc, Bds.encs] at x
        subst x
        walk_at "r"
        walk_at "ks"
        refine c_next ?_
        walk_at "ks"
        exact ⟨_, .cons .head (.cons .head .nil), q1⟩
      | if_ =>
        obtain ⟨ex, rfl⟩ := List.length_eq_one_iff.mp hwo.1
        obtain ⟨b1, b2, rfl⟩ := bd_two hwo.2
        have hb1 : WfS n b1 := by cases hbs with | cons h1 h2 => exact h1
        have hb2 : WfS n b2 := by cases hbs with | cons h1 h2 => cases h2 with | cons h3 h4 => exact h3
        simp only [RW.enc, Bds.encs, encs_cons, encs_nil, List.cons_append, List.nil_append] at x
        have e0 : q + (Ex.szs [ex] + (Bds.cons b1 (.cons b2 .nil)).sz + 1) = q + 1 + ex.sz + b1.sz + b2.sz := by rw [szs1, bdsz2]; omega
        have e9 : q + 1 + 1 + ex.sz = q + 1 + ex.sz + 1 := by omega
        rw [e0, szs1, e9] at q1
        rw [szs1] at hln
        subst x
        walk_at "r"
        walk_at "ks"
        refine c_next ?_
        walk_at "ks"
        refine c_ask (hes ex List.mem_cons_self) ok (fun xx hx => ?_) (fun er hx q' => ?_)
        rotate_left
        · rw [asks1_bad hx] at q1
          exact ⟨_, .cons .head (.cons .head .nil), q1 q'⟩
        rw [asks1_ok hx] at q1
        replace q1 := rz_bok q1
        have hkx := ask_kd ok (hes ex List.mem_cons_self) hx
        walk_at "ks"
        refine ae_lc true [("rows", 5)] (G.comp true) G.calm G.nd (blkOk_by (by kernel_rfl)) (by walk_at "b") (ai_tup ?_)
        walk_at "ks"
        refine comp_cons' (.tup (Rws.encs b1)) [.tup (Rws.encs b2)] rfl (by exact Nat.zero_le _) (fun Xb N' bk => ?_)
        obtain ⟨⟨s0, H0, C0, cl0, fp0, xe0, eb⟩, hex, hps2⟩ := bk
        subst eb
        have hps2 := hps2 rfl
        walk_at "k"
        walk_at "sb"
        walk_at "ks"
        refine c_rws hb1 ok hgk (by rw [bdsz2] at hln; omega) (fun y1 hy1 => ?_) (fun er hy q' => ?_)
        rotate_left
        · rw [bl1e hy] at q1
          rw [hex]
          exact ⟨_, .cons .head (.cons .head .nil), q1 q'⟩
        refine comp_cons' (.tup (Rws.encs b2)) [] rfl (by show 1 ≤ 100000; decide) (fun Xb N' bk => ?_)
        obtain ⟨⟨s1, H1, C1, cl1, fp1, xe1, eb⟩, hex, hps2⟩ := bk
        subst eb
        have hps2 := hps2 rfl
        walk_at "k"
        walk_at "sb"
        walk_at "ks"
        refine c_rws hb2 ok hgk (by rw [bdsz2] at hln; omega) (fun y2 hy2 => ?_) (fun er hy q' => ?_)
        rotate_left
        · rw [blce hy1 (bl1e (by rwa [show q + 1 + ex.sz + 1 + b1.sz = q + 1 + ex.sz + b1.sz + 1 by omega]))] at q1
          rw [hex]
          exact ⟨_, .cons .head (.cons .head .nil), q1 q'⟩
        rw [blc hy1 (bl1 (by rwa [show q + 1 + ex.sz + 1 + b1.sz = q + 1 + ex.sz + b1.sz + 1 by omega]))] at q1
        refine comp_nil ?_
        replace q1 : Rz (rowOwn gk (q + 1) .if_ [xx] [y1.1, y2.1] ns) _ _ := q1
        simp only [rowOwn] at q1
        obtain ⟨q2, q3⟩ := rz_then q1
        walk_at "ks"
        refine c_need hkx .truth (fun z => ?_) (fun z => ⟨_, pk_nil, ?_⟩)
        · walk_at "ks"
          exact ⟨_, .cons .head (.cons .head .nil), q2 (by simp only [dueK, if_pos z])⟩
        · exact ⟨_, .cons .head (.cons .head .nil), q3 (.fit (q + 1) xx.at_) (by simp only [dueK, if_neg z]) _⟩
      | while_ =>
        obtain ⟨ex, rfl⟩ := List.length_eq_one_iff.mp hwo.1
        obtain ⟨b1, rfl⟩ := bd_one hwo.2
        have hb1 : WfS n b1 := by cases hbs with | cons h1 h2 => exact h1
        simp only [RW.enc, Bds.encs, encs_cons, encs_nil, List.cons_append, List.nil_append] at x
        have e0 : q + (Ex.szs [ex] + (Bds.cons b1 .nil).sz + 1) = q + 1 + ex.sz + b1.sz := by rw [szs1, bdsz1]; omega
        have e9 : q + 1 + 1 + ex.sz = q + 1 + ex.sz + 1 := by omega
        rw [e0, szs1, e9] at q1
        rw [szs1] at hln
        subst x
        walk_at "r"
        walk_at "ks"
        refine c_next ?_
        walk_at "ks"
        refine c_ask (hes ex List.mem_cons_self) ok (fun xx hx => ?_) (fun er hx q' => ?_)
        rotate_left
        · rw [asks1_bad hx] at q1
          exact ⟨_, .cons .head (.cons .head .nil), q1 q'⟩
        rw [asks1_ok hx] at q1
        replace q1 := rz_bok q1
        have hkx := ask_kd ok (hes ex List.mem_cons_self) hx
        walk_at "ks"
        refine ae_lc true [("rows", 5)] (G.comp true) G.calm G.nd (blkOk_by (by kernel_rfl)) (by walk_at "b") (ai_tup ?_)
        walk_at "ks"
        refine comp_cons' (.tup (Rws.encs b1)) [] rfl (by exact Nat.zero_le _) (fun Xb N' bk => ?_)
        obtain ⟨⟨s0, H0, C0, cl0, fp0, xe0, eb⟩, hex, hps2⟩ := bk
        subst eb
        have hps2 := hps2 rfl
        walk_at "k"
        walk_at "sb"
        walk_at "ks"
        refine c_rws hb1 ok hgk (by rw [bdsz1] at hln; omega) (fun y1 hy1 => ?_) (fun er hy q' => ?_)
        rotate_left
        · rw [bl1e hy] at q1
          rw [hex]
          exact ⟨_, .cons .head (.cons .head .nil), q1 q'⟩
        rw [bl1 hy1] at q1
        refine comp_nil ?_
        walk_at "ks"
        replace q1 : Rz (rowOwn gk (q + 1) .while_ [xx] [y1.1] ns) _ _ := q1
        simp only [rowOwn] at q1
        obtain ⟨q2, q3⟩ := rz_then q1
        walk_at "ks"
        refine c_need hkx .truth (fun z => ?_) (fun z => ⟨_, pk_nil, ?_⟩)
        · walk_at "ks"
          exact ⟨_, .cons .head (.cons .head .nil), q2 (by simp only [dueK, if_pos z])⟩
        · exact ⟨_, .cons .head (.cons .head .nil), q3 (.fit (q + 1) xx.at_) (by simp only [dueK, if_neg z]) _⟩
      | ret =>
        obtain ⟨ex, rfl⟩ := List.length_eq_one_iff.mp hwo.1
        obtain rfl := bd_none hwo.2
        simp only [RW.enc, Bds.encs, encs_cons, encs_nil, List.cons_append, List.nil_append] at x
        have e0 : q + (Ex.szs [ex] + Bds.nil.sz + 1) = q + 1 + ex.sz := by rw [szs1]; simp only [Bds.sz]; omega
        have e9 : q + 1 + 1 + ex.sz = q + 1 + ex.sz + 1 := by omega
        rw [e0, szs1, e9] at q1
        rw [szs1] at hln
        subst x
        walk_at "r"
        walk_at "ks"
        refine c_next ?_
        walk_at "ks"
        refine c_ask (hes ex List.mem_cons_self) ok (fun xx hx => ?_) (fun er hx q' => ?_)
        rotate_left
        · rw [asks1_bad hx] at q1
          exact ⟨_, .cons .head (.cons .head .nil), q1 q'⟩
        rw [asks1_ok hx] at q1
        replace q1 := rz_bok q1
        have hkx := ask_kd ok (hes ex List.mem_cons_self) hx
        walk_at "ks"
        refine ae_lc true [("rows", 5)] (G.comp true) G.calm G.nd (blkOk_by (by kernel_rfl)) (by walk_at "b") (ai_tup ?_)
        walk_at "ks"
        rw [bl0] at q1
        refine comp_nil' rfl ?_
        replace q1 : Rz (rowOwn gk (q + 1) .ret [xx] [] ns) _ _ := q1
        simp only [rowOwn] at q1
        obtain ⟨q2, q3⟩ := rz_then q1
        walk_at "ks"
        refine c_need hkx hgk (fun z => ?_) (fun z => ⟨_, pk_nil, ?_⟩)
        · walk_at "ks"
          exact ⟨_, .cons .head (.cons .head .nil), q2 (by simp only [dueK, if_pos z])⟩
        · exact ⟨_, .cons .head (.cons .head .nil), q3 (.fit (q + 1) xx.at_) (by simp only [dueK, if_neg z]) _⟩
      | do_ =>
        obtain ⟨ex, rfl⟩ := List.length_eq_one_iff.mp hwo.1
        obtain rfl := bd_none hwo.2
        simp only [RW.enc, Bds.encs, encs_cons, encs_nil, List.cons_append, List.nil_append] at x
        have e0 : q + (Ex.szs [ex] + Bds.nil.sz + 1) = q + 1 + ex.sz := by rw [szs1]; simp only [Bds.sz]; omega
        have e9 : q + 1 + 1 + ex.sz = q + 1 + ex.sz + 1 := by omega
        rw [e0, szs1, e9] at q1
        rw [szs1] at hln
        subst x
        walk_at "r"
        walk_at "ks"
        refine c_next ?_
        walk_at "ks"
        refine c_ask (hes ex List.mem_cons_self) ok (fun xx hx => ?_) (fun er hx q' => ?_)
        rotate_left
        · rw [asks1_bad hx] at q1
          exact ⟨_, .cons .head (.cons .head .nil), q1 q'⟩
        rw [asks1_ok hx] at q1
        replace q1 := rz_bok q1
        have hkx := ask_kd ok (hes ex List.mem_cons_self) hx
        walk_at "ks"
        refine ae_lc true [("rows", 5)] (G.comp true) G.calm G.nd (blkOk_by (by kernel_rfl)) (by walk_at "b") (ai_tup ?_)
        walk_at "ks"
        rw [bl0] at q1
        refine comp_nil' rfl ?_
        replace q1 : Rz (rowOwn gk (q + 1) .do_ [xx] [] ns) _ _ := q1
        simp only [rowOwn] at q1
        walk_at "ks"
        exact ⟨_, .cons .head (.cons .head .nil), q1⟩
      | log =>
        obtain ⟨ex, rfl⟩ := List.length_eq_one_iff.mp hwo.1
        obtain rfl := bd_none hwo.2
        simp only [RW.enc, Bds.encs, encs_cons, encs_nil, List.cons_append, List.nil_append] at x
        have e0 : q + (Ex.szs [ex] + Bds.nil.sz + 1) = q + 1 + ex.sz := by rw [szs1]; simp only [Bds.sz]; omega
        have e9 : q + 1 + 1 + ex.sz = q + 1 + ex.sz + 1 := by omega
        rw [e0, szs1, e9] at q1
        rw [szs1] at hln
        subst x
        walk_at "r"
        walk_at "ks"
        refine c_next ?_
        walk_at "ks"
        refine c_ask (hes ex List.mem_cons_self) ok (fun xx hx => ?_) (fun er hx q' => ?_)
        rotate_left
        · rw [asks1_bad hx] at q1
          exact ⟨_, .cons .head (.cons .head .nil), q1 q'⟩
        rw [asks1_ok hx] at q1
        replace q1 := rz_bok q1
        have hkx := ask_kd ok (hes ex List.mem_cons_self) hx
        walk_at "ks"
        refine ae_lc true [("rows", 5)] (G.comp true) G.calm G.nd (blkOk_by (by kernel_rfl)) (by walk_at "b") (ai_tup ?_)
        walk_at "ks"
        rw [bl0] at q1
        refine comp_nil' rfl ?_
        replace q1 : Rz (rowOwn gk (q + 1) .log [xx] [] ns) _ _ := q1
        simp only [rowOwn] at q1
        walk_at "ks"
        refine ⟨"num", "truth", _, _, rfl, by decide +kernel, kd_eq .num hkx, kd_eq .truth hkx, ?_⟩
        by_cases z : xx.kd = .num ∨ xx.kd = .truth
        · rw [if_pos z] at q1
          have e : (!(decide (Kd.num = xx.kd) || decide (Kd.truth = xx.kd))) = false := by
            rcases z with z | z <;> rw [z] <;> decide
          rw [e]
          refine ite_f ?_
          walk_at "ks"
          exact ⟨_, .cons .head (.cons .head .nil), q1⟩
        · rw [if_neg z] at q1
          have e : (!(decide (Kd.num = xx.kd) || decide (Kd.truth = xx.kd))) = true := by
            rw [decide_eq_false (fun y => z (.inl y.symm)), decide_eq_false (fun y => z (.inr y.symm))]; rfl
          rw [e]
          refine ite_t ?_
          walk_at "ks"
          exact ⟨_, .cons .head (.cons .head .nil), q1 _⟩
      | try_ fs =>
        obtain rfl := List.length_eq_zero_iff.mp hwo.1
        rcases hwo.2.2.1 with z | z
        · obtain ⟨f1, rfl⟩ := List.length_eq_one_iff.mp z
          obtain ⟨b1, b2, rfl⟩ := bd_two hwo.2.1
          have hb1 : WfS n b1 := by cases hbs with | cons h1 h2 => exact h1
          have hb2 : WfS n b2 := by cases hbs with | cons h1 h2 => cases h2 with | cons h3 h4 => exact h3
          simp only [RW.enc, Bds.encs, tryD, zips, List.map_cons, List.map_nil] at x
          have e0 : q + (Ex.szs [] + (Bds.cons b1 (.cons b2 .nil)).sz + 1) = q + 1 + b1.sz + b2.sz := by rw [bdsz2]; simp only [Ex.szs]; omega
          rw [e0, asks_nil] at q1
          rw [bdsz2] at hln
          replace q1 := rz_bok q1
          rw [show q + 1 + 1 + Ex.szs [] = q + 1 + 1 by simp only [Ex.szs, Nat.add_zero]] at q1
          subst x
          walk_at "r"
          walk_at "ks"
          refine c_next ?_
          walk_at "ks"
          refine c_rws hb1 ok hgk (by omega) (fun y1 hy1 => ?_) (fun er hy q' => ?_)
          rotate_left
          · rw [bl1e hy] at q1
            exact ⟨_, .cons .head (.cons .head .nil), q1 q'⟩
          walk_at "ks"
          refine ae_lc true [("fault", 10), ("other", 11)] (G.comp true) G.calm G.nd (blkOk_by (by kernel_rfl)) (by walk_at "b") (ai_tup ?_)
          walk_at "ks"
          refine comp_cons' (.tup [.str f1, .tup (Rws.encs b2)]) [] rfl (by exact Nat.zero_le _) (fun Xb N' bk => ?_)
          obtain ⟨⟨s0, H0, C0, cl0, fp0, xe0, eb⟩, hex, hps2⟩ := bk
          subst eb
          have hps2 := hps2 rfl
          walk_at "a"
          walk_at "sb"
          walk_at "ks"
          refine c_rws hb2 ok hgk (by omega) (fun y2 hy2 => ?_) (fun er hy q' => ?_)
          rotate_left
          · rw [blce hy1 (bl1e (by rwa [show q + 1 + 1 + b1.sz = q + 1 + b1.sz + 1 by omega]))] at q1
            rw [hex]
            exact ⟨_, .cons .head (.cons .head .nil), q1 q'⟩
          walk_at "ks"
          rw [blc hy1 (bl1 (by rwa [show q + 1 + 1 + b1.sz = q + 1 + b1.sz + 1 by omega]))] at q1
          refine comp_nil ?_
          walk_at "ks"
          exact ⟨_, .cons .head (.cons .head .nil), q1⟩
        · obtain ⟨f1, f2, rfl⟩ := len2 z
          obtain ⟨b1, b2, b3, rfl⟩ := bd_three hwo.2.1
          have hb1 : WfS n b1 := by cases hbs with | cons h1 h2 => exact h1
          have hb2 : WfS n b2 := by cases hbs with | cons h1 h2 => cases h2 with | cons h3 h4 => exact h3
          have hb3 : WfS n b3 := by cases hbs with | cons h1 h2 => cases h2 with | cons h3 h4 => cases h4 with | cons h5 h6 => exact h5
          simp only [RW.enc, Bds.encs, tryD, zips, List.map_cons, List.map_nil] at x
          have e0 : q + (Ex.szs [] + (Bds.cons b1 (.cons b2 (.cons b3 .nil))).sz + 1) = q + 1 + b1.sz + b2.sz + b3.sz := by rw [bdsz3]; simp only [Ex.szs]; omega
          rw [e0, asks_nil] at q1
          rw [bdsz3] at hln
          replace q1 := rz_bok q1
          rw [show q + 1 + 1 + Ex.szs [] = q + 1 + 1 by simp only [Ex.szs, Nat.add_zero]] at q1
          subst x
          walk_at "r"
          walk_at "ks"
          refine c_next ?_
          walk_at "ks"
          refine c_rws hb1 ok hgk (by omega) (fun y1 hy1 => ?_) (fun er hy q' => ?_)
          rotate_left
          · rw [bl1e hy] at q1
            exact ⟨_, .cons .head (.cons .head .nil), q1 q'⟩
          walk_at "ks"
          refine ae_lc true [("fault", 10), ("other", 11)] (G.comp true) G.calm G.nd (blkOk_by (by kernel_rfl)) (by walk_at "b") (ai_tup ?_)
          walk_at "ks"
          refine comp_cons' (.tup [.str f1, .tup (Rws.encs b2)]) [.tup [.str f2, .tup (Rws.encs b3)]] rfl (by exact Nat.zero_le _) (fun Xb N' bk => ?_)
          obtain ⟨⟨s0, H0, C0, cl0, fp0, xe0, eb⟩, hex, hps2⟩ := bk
          subst eb
          have hps2 := hps2 rfl
          walk_at "a"
          walk_at "sb"
          walk_at "ks"
          refine c_rws hb2 ok hgk (by omega) (fun y2 hy2 => ?_) (fun er hy q' => ?_)
          rotate_left
          · rw [blce hy1 (bl1e (by rwa [show q + 1 + 1 + b1.sz = q + 1 + b1.sz + 1 by omega]))] at q1
            rw [hex]
            exact ⟨_, .cons .head (.cons .head .nil), q1 q'⟩
          walk_at "ks"
          refine comp_cons' (.tup [.str f2, .tup (Rws.encs b3)]) [] rfl (by show 1 ≤ 100000; decide) (fun Xb N' bk => ?_)
          obtain ⟨⟨s1, H1, C1, cl1, fp1, xe1, eb⟩, hex, hps2⟩ := bk
          subst eb
          have hps2 := hps2 rfl
          walk_at "a"
          walk_at "sb"
          walk_at "ks"
          refine c_rws hb3 ok hgk (by omega) (fun y3 hy3 => ?_) (fun er hy q' => ?_)
          rotate_left
          · rw [blce hy1 (blce (by rwa [show q + 1 + 1 + b1.sz = q + 1 + b1.sz + 1 by omega]) (bl1e (by rwa [show q + 1 + 1 + b1.sz + b2.sz = q + 1 + b1.sz + b2.sz + 1 by omega])))] at q1
            rw [hex]
            exact ⟨_, .cons .head (.cons .head .nil), q1 q'⟩
          walk_at "ks"
          rw [blc hy1 (blc (by rwa [show q + 1 + 1 + b1.sz = q + 1 + b1.sz + 1 by omega]) (bl1 (by rwa [show q + 1 + 1 + b1.sz + b2.sz = q + 1 + b1.sz + b2.sz + 1 by omega])))] at q1
          refine comp_nil ?_
          walk_at "ks"
          exact ⟨_, .cons .head (.cons .head .nil), q1⟩
    )) only [↓gate_rule]
end
/-! A27: a text among the texts of a list that is written. -/
open PySem.PyData (strOk)
section
variable {X : Cx} {N : Ent} {R : Rho} {O : Os} {a b : Expr} {pos : Pos} {d1 d2 : D}
def inRD (O : Os) (d1 d2 : D) (P : Str → List Str → Prop) : Prop := ∃ s p ds l, d1 = .str s ∧ d2 = .ref p ∧ (p, MO.lst ds) ∈ O ∧ strsD ds = some l ∧ P s l
theorem ra_inR {neg : Bool} {Q : D → Os → Prop} (h : inRD O d1 d2 fun s l => Q (.bl (if neg then !decide (s ∈ l) else decide (s ∈ l))) O) : RA X N (rIn X.K neg) d1 d2 R O Q := fun v1 v2 σ H F r p1 p2 => by
  obtain ⟨s, p, ds, l, e1, e2, hm, hs, q⟩ := h
  subst e1 e2
  cases p1
  cases p2
  obtain ⟨ws, h1, l1⟩ := (r.o.ob _ hm).2
  refine ⟨_, _, rfl, .inl (SqL.of h1), rfl, ?_, ?_⟩
  · rw [strs_vs l1 hs]; exact flat_strs l
  · rw [strs_vs l1 hs, inV_strs]; exact QV.same r (.bl _) q
theorem at_inR {Q : Bool → Os → Prop} (h : AE X N a R O fun d1 O1 => AE X N b R O1 fun d2 O2 => inRD O2 d1 d2 fun s l => Q (decide (s ∈ l)) O2) (hm : behindInMarks .In b = false) : AT X N (.Compare a [.In] [b] pos) R O Q :=
  at_cmp op_in_seq mon_in hm (h.imp fun d1 O1 h => h.imp fun d2 O2 ⟨s, p, ds, l, h1, h2, h3, h4, q⟩ => ra_inR (neg := false) ⟨s, p, ds, l, h1, h2, h3, h4, _, rfl, q⟩)
theorem ae_niTup {es : List Expr} {kk : Nat} {p : Pos} {Q : D → Os → Prop} (h : AE X N a R O fun d1 O1 => AE X N (.Tuple es kk p) R O1 fun d2 O2 => inD d1 d2 fun s l => Q (.bl (!decide (s ∈ l))) O2) (hm : behindInMarks .NotIn (.Tuple es kk p) = false) : AE X N (.Compare a [.NotIn] [.Tuple es kk p] pos) R O Q := ae_ni h hm
theorem ae_inTup {es : List Expr} {kk : Nat} {p : Pos} {Q : D → Os → Prop} (h : AE X N a R O fun d1 O1 => AE X N (.Tuple es kk p) R O1 fun d2 O2 => inD d1 d2 fun s l => Q (.bl (decide (s ∈ l))) O2) (hm : behindInMarks .In (.Tuple es kk p) = false) : AE X N (.Compare a [.In] [.Tuple es kk p] pos) R O Q := ae_in h hm
end
theorem fld_i {K : PySem.W.Frag} {a C : Addr} {fs : List (Str × D)} {f : Str} {d1 : D} {O O3 : Os} {P : Os → Prop} (c : Cls K C) (n : NoAttr K C f) (u : U O a (.ins C fs) (.ins C (putA f d1 fs)) O3) (hl : fs.length < 1000) (q : P O3) :
    ∃ a' C' fs' O3, D.ref a = .ref a' ∧ Cls K C' ∧ NoAttr K C' f ∧ U O a' (.ins C' fs') (.ins C' (putA f d1 fs')) O3 ∧ fs'.length < 1000 ∧ P O3 := ⟨a, C, fs, O3, rfl, c, n, u, hl, q⟩
/-! ### the heads being filled -/
abbrev hdIns (CH d1 d2 d3 : Addr) : MO := .ins CH [("made", .ref d1), ("known", .ref d2), ("places", .ref d3)]
def recKey (nm : Str) : List Key := [.inr "record", .inr nm]
def funKey (nm : Str) : List Key := [.inr "fun", .inr nm]
def spNK (CH : Addr) : ASp := fun ds O Q _ => ∃ (y d1 d2 d3 : Addr) (kd : Kd) (p : Nat), ds = [.ref y, kd.enc, .int (p : Nat)] ∧ O = [(d1, .dic madeD), (y, hdIns CH d1 d2 d3)] ∧ K6 kd ∧ Q .non O
def spLR (CH : Addr) : ASp := fun ds O Q _ => ∃ (y d1 d2 d3 : Addr) (nm : Str) (p : Nat) (m : List (Key × D)) (pl : List (List Key × D)), ds = [.ref y, .str nm, fldsD, .int (p : Nat)] ∧ O = [(d3, .dct pl), (d1, .dic m), (y, hdIns CH d1 d2 d3)] ∧ getA m (.inr nm) = none ∧ m.length ≤ 100 ∧ pl.length ≤ 100 ∧ Q .non [(d3, .dct (setA pl (recKey nm) (.int (p : Nat)))), (d1, .dic (setA m (.inr nm) fldsL)), (y, hdIns CH d1 d2 d3)]
/-- the two heads -/
inductive FnH : D → Str → D → Prop
  | m {b : Rws} : FnH (fnMD b) "main" (.tup [.tup [Kd.enc .num, Kd.enc .truth, Kd.enc (.row 2), Kd.enc (.named "pair")], Kd.enc .num])
  | g {b : Rws} : FnH (fnGD b) "g" (.tup [.tup [Kd.enc (.named "pair"), Kd.enc .num], Kd.enc (.row 2)])
def spLF (CH : Addr) : ASp := fun ds O Q _ => ∃ (y d1 d2 d3 : Addr) (fn : D) (nm : Str) (e : D) (p : Nat) (k : List (Key × D)) (pl : List (List Key × D)), ds = [.ref y, fn, .int (p : Nat)] ∧ O = [(d3, .dct pl), (d2, .dic k), (d1, .dic madeD), (y, hdIns CH d1 d2 d3)] ∧ FnH fn nm e ∧ getA k (.inr nm) = none ∧ k.length ≤ 100 ∧ pl.length ≤ 100 ∧
  Q .non [(d3, .dct (setA pl (funKey nm) (.int (p : Nat)))), (d2, .dic (setA k (.inr nm) e)), (d1, .dic madeD), (y, hdIns CH d1 d2 d3)]
theorem c_nk {N : Ent} {Q : D → Os → Prop} {CH y d1 d2 d3 t : Addr} {kd : Kd} {p : Nat} {m3 m2 mt : MO} (hk : K6 kd) (q : Q .non [(t, mt), (d3, m3), (d2, m2), (d1, .dic madeD), (y, hdIns CH d1 d2 d3)]) : CallS N (spNK CH) [.ref y, kd.enc, .int (p : Nat)] [(t, mt), (d3, m3), (d2, m2), (d1, .dic madeD), (y, hdIns CH d1 d2 d3)] Q :=
  ⟨[(d1, .dic madeD), (y, hdIns CH d1 d2 d3)], .cons (.tail (.tail (.tail .head))) (.cons (.tail (.tail (.tail .head))) .nil), y, d1, d2, d3, kd, p, rfl, rfl, hk, _, .step (.tail (.tail (.tail .head))) (.step (.tail (.tail (.tail (.tail .head)))) .new), q⟩
end
section
local macro_rules | `(tactic| walk_at "nBin") => `(tactic| (with_reducible refine ae_repT ?_))
local macro_rules | `(tactic| walk_at "nT") => `(tactic| ((with_reducible refine' at_niTT ?un ?_ ?hm); (case un => walk_at "gu"); (case hm => rfl)))
local macro_rules | `(tactic| walk_at "nS") => `(tactic| first
  | ((with_reducible refine' as_dputT ?un ?_ ?hs); (case un => walk_at "gu"); (case hs => with_unfolding_all rfl))
  | ((with_reducible refine' as_dput ?un ?_ ?hs); (case un => walk_at "gu"); (case hs => with_unfolding_all rfl))
  | ((with_reducible refine' as_fld ?_ ?hs); (case hs => with_unfolding_all rfl)))
local macro_rules | `(tactic| walk_at "nE") => `(tactic| first
  | ((with_reducible refine' ae_n ?g ?_); (case g => walk_at "g"))
  | ((with_reducible refine' ae_gm ?g ?hg ?_); (case g => assumption); (case hg => with_unfolding_all rfl))
  | ((with_reducible refine' ae_niTup ?_ ?hm); (case hm => rfl))
  | ((with_reducible refine' ae_inTup ?_ ?hm); (case hm => rfl)))
local macro_rules | `(tactic| walk_at "nSub") => `(tactic| first
  | (with_reducible refine ae_sl ?_)
  | ((with_reducible refine' ae_two ?T ?hg ?_ ?hs); (case T => assumption); (case hg => with_unfolding_all rfl); (case hs => exact fun _ _ => rfl))
  | ((with_reducible refine' ae_ixX ?un ?_ ?hs); (case un => walk_at "gu"); (case hs => exact fun _ _ => rfl)))
local macro_rules | `(tactic| walk_at "nR") => `(tactic| first
  | (with_reducible refine IxX.tup0 ?_)
  | (with_reducible refine IxX.tup1 ?_)
  | (with_reducible refine IxX.tup2 ?_)
  | (with_reducible refine aps_cons ?_)
  | (with_reducible refine aps_nil ?_)
  | ((with_reducible refine' sl_2n ?e ?_); (case e => decide))
  | ((with_reducible refine' sl_3n ?e ?_); (case e => decide))
  | ((with_reducible refine' sl_1n ?e ?_); (case e => decide))
  | ((with_reducible refine' sl_n1 ?e ?_); (case e => decide))
  | ((with_reducible refine' sl_n2 ?e ?_); (case e => decide))
  | ((with_reducible refine' IxX.tup ?h ?_); (case h => rfl))
  | ((with_reducible refine' IxX.lst ?h ?_); (case h => rfl))
  | ((with_reducible refine' IxX.dicS ?h ?_); (case h => rfl))
  | ((with_reducible refine' AddX.tup ?c ?_); (case c => exact Nat.le_of_ble_eq_true rfl)))
local macro_rules | `(tactic| walk_at "sl") => `(tactic| repeat (first | (with_reducible exact Sel.nil) | ((with_reducible apply Sel.cons); (focus (repeat (first | (with_reducible exact Take.head) | (with_reducible apply Take.tail)))))))
local macro_rules | `(tactic| walk_at "disp") => `(tactic| ((with_reducible refine' ae_disp ?_ ?hall ?hl ?h0 ?h15); (case hall => rfl); (case hl => rfl); (case h0 => exact List.cons_ne_nil _ _); (case h15 => exact Nat.le_of_ble_eq_true rfl)))
local macro_rules | `(tactic| walk_at "din") => `(tactic| ((with_reducible refine' at_din ?un ?_ ?hm); (case un => walk_at "gu"); (case hm => rfl)))
local macro_rules | `(tactic| walk_at "dni") => `(tactic| ((with_reducible refine' at_dni ?un ?_ ?hm); (case un => walk_at "gu"); (case hm => rfl)))
local macro_rules | `(tactic| walk_at "or") => `(tactic| (with_reducible refine ae_or ?_))
local macro_rules | `(tactic| walk_at "get") => `(tactic| ((with_reducible refine' ae_dgetOr ?un ?_ ?m); (case un => walk_at "gu"); (case m => exact ⟨rfl, rfl, rfl, rfl⟩)))
local macro_rules | `(tactic| walk_at "dnew") => `(tactic| (with_reducible refine ae_dnew ?_))
local macro_rules | `(tactic| walk_at "inr") => `(tactic| ((with_reducible refine' at_inR ?_ ?hm); (case hm => rfl)))
/-! Q9: the heads. -/
open PySem.PyData (strOk)
abbrev sLR : Stmt := inCls 17 1
abbrev sLF : Stmt := inCls 17 2
abbrev sNK : Stmt := inCls 17 3
section
variable {P : Program} {w : World} {K : PySem.W.Frag} {mg : Str → Option Value} {base : Heap} {f : Addr} {fd : FuncData} {k : Nat} {c : Cs} {CL CH : Addr}
theorem okNK (L : HdC K CH) (Fn : Fun K "need_kind" "Heads.need_kind" sNK f fd) : FnOk P w K mg base (L2.CX P w) (k + 1) f fd ["self", "kind", "place"] (lift K (spNK CH)) := by
  refine gate ?_
  simp (disch := with_unfolding_all (
      refine fnGx (Ns := ["self", "kind", "place"]) Fn rfl rfl ⟨rfl, rfl, rfl, by decide +kernel, rfl, by decide +kernel, by decide +kernel⟩ (fun ds O QA EA h => ?_) (by decide) (fun cdv A outer s H E hr ds O QA EA F h G => ?_)
      · obtain ⟨y, d1, d2, d3, kd, p, x, _⟩ := h
        rw [x]; rfl
      obtain ⟨y, d1, d2, d3, kd, p, x, eO, hk, q⟩ := h
      have l1 := L.cls
      have l2 := L.m
      have l3 := L.k
      have l4 := L.p
      subst x eO
      by_cases z : kd.wd = "named"
      · obtain ⟨bb, rfl, hb⟩ := named_of hk z
        unfold Kd.enc
        walk_at "r"
        rcases hb with rfl | rfl
        · walk_at "ks"
          refine dgo_strR (o := some _) List.mem_cons_self rfl ?_
          refine ite_nt ?_
          walk_at "ks"
          exact ⟨_, .cons .head (.cons .head .nil), q⟩
        · walk_at "ks"
          refine dgo_strR (o := some _) List.mem_cons_self rfl ?_
          refine ite_nt ?_
          walk_at "ks"
          exact ⟨_, .cons .head (.cons .head .nil), q⟩
      · rw [Kd.enc_wd]
        walk_at "r"
        walk_at "ks"
        refine ⟨_, eqP_str kd.wd_ok (by decide +kernel), ite_se (fun y => absurd y z) (fun _ => ?_)⟩
        walk_at "ks"
        exact ⟨_, .cons .head (.cons .head .nil), q⟩
    )) only [↓gate_rule]
theorem okLR (B : Lib mg) (L : HdC K CH) (Fn : Fun K "look_record" "Heads.look_record" sLR f fd) : FnOk P w K mg base (L2.CX P w) (k + 1) f fd ["self", "name", "fields", "place"] (lift K (spLR CH)) := by
  refine gate ?_
  simp (disch := with_unfolding_all (
      refine fnGx (Ns := ["self", "name", "fields", "place", "field", "names", "k", "kind"]) Fn rfl rfl ⟨rfl, rfl, rfl, by decide +kernel, rfl, by decide +kernel, by decide +kernel⟩ (fun ds O QA EA h => ?_) (by decide) (fun cdv A outer s H E hr ds O QA EA F h G => ?_)
      · obtain ⟨y, d1, d2, d3, nm, p, m, pl, x, _⟩ := h
        rw [x]; rfl
      obtain ⟨y, d1, d2, d3, nm, p, m, pl, x, eO, hn, hl1, hl2, q⟩ := h
      have l1 := L.cls
      have l2 := L.m
      have l3 := L.k
      have l4 := L.p
      unfold fldsD at x
      subst x eO
      walk_at "r"
      walk_at "ks"
      refine dgo_strR (o := none) (List.mem_cons_of_mem _ List.mem_cons_self) hn ?_
      refine ite_f ?_
      walk_at "ks"
      refine as_setLc true [("field", 4), ("kind", 7)] (G.comp true) G.calm G.nd (blkOk_by (by kernel_rfl)) (by walk_at "s") rfl (by walk_at "m") (by walk_at "b") (ai_tup ?_) (by with_unfolding_all rfl)
      walk_at "ks"
      walk_at "cb"
      walk_at "ks"
      walk_at "sb"
      walk_at "ks"
      walk_at "cb"
      walk_at "ks"
      walk_at "sb"
      walk_at "ks"
      refine comp_nil ?_
      walk_at "ks"
      refine ai_enum rfl B.enu ?_ rfl
      walk_at "ks"
      refine at_in ?_ rfl
      walk_at "ks"
      refine inD_lst (l := []) rfl ?_
      walk_at "ks"
      refine at_in ?_ rfl
      walk_at "ks"
      refine inD_lst (l := ["x"]) rfl ?_
      walk_at "l"
      refine ⟨d1, _, .inr nm, _, rfl, rfl, .tail .head, by omega, ?_⟩
      walk_at "ks"
      refine ⟨d3, _, recKey nm, _, rfl, rfl, .head, by omega, ?_⟩
      walk_at "ks"
      exact ⟨_, .cons .head (.cons .head (.cons .head .nil)), q⟩
    )) only [↓gate_rule]
theorem okLF (B : Lib mg) (L : HdC K CH) (g1 : MtA P w K mg base k CH "need_kind" (spNK CH)) (Fn : Fun K "look_function" "Heads.look_function" sLF f fd) : FnOk P w K mg base (L2.CX P w) (k + 1) f fd ["self", "function", "place"] (lift K (spLF CH)) := by
  refine gate ?_
  simp (disch := with_unfolding_all (
      refine fnGx (Ns := ["self", "function", "place", "word", "name", "takes", "gives", "rows", "names", "take", "kind"]) Fn rfl rfl ⟨rfl, rfl, rfl, by decide +kernel, rfl, by decide +kernel, by decide +kernel⟩ (fun ds O QA EA h => ?_) (by decide) (fun cdv A outer s H E hr ds O QA EA F h G => ?_)
      · obtain ⟨y, d1, d2, d3, fn, nm, e, p, kk, pl, x, _⟩ := h
        rw [x]; rfl
      obtain ⟨y, d1, d2, d3, fn, nm, e, p, kk, pl, x, eO, hf, hn, hl1, hl2, q⟩ := h
      have l1 := L.cls
      have l2 := L.m
      have l3 := L.k
      have l4 := L.p
      cases hf with
      | m =>
        unfold fnMD takesM at x
        subst x eO
        walk_at "r"
        walk_at "ks"
        refine dgo_strR (o := none) (List.mem_cons_of_mem _ List.mem_cons_self) hn ?_
        refine ite_f ?_
        walk_at "ks"
        refine ae_lstm ?_
        walk_at "ks"
        intro t
        walk_at "ks"
        refine ai_tup ?_
        walk_at "ks"
        refine c_nk .num ?_
        walk_at "ks"
        refine at_inR ?_ (by rfl)
        walk_at "ks"
        refine ⟨_, t, _, [], rfl, rfl, List.mem_cons_self, rfl, ?_⟩
        walk_at "ks"
        refine c_nk .truth ?_
        walk_at "ks"
        refine at_inR ?_ (by rfl)
        walk_at "ks"
        refine ⟨_, t, _, ["a"], rfl, rfl, List.mem_cons_self, rfl, ?_⟩
        walk_at "ks"
        refine c_nk .row2 ?_
        walk_at "ks"
        refine at_inR ?_ (by rfl)
        walk_at "ks"
        refine ⟨_, t, _, ["a", "b"], rfl, rfl, List.mem_cons_self, rfl, ?_⟩
        walk_at "ks"
        refine c_nk .pair ?_
        walk_at "ks"
        refine at_inR ?_ (by rfl)
        walk_at "ks"
        refine ⟨_, t, _, ["a", "b", "r"], rfl, rfl, List.mem_cons_self, rfl, ?_⟩
        walk_at "ks"
        refine c_nk .num ?_
        walk_at "ks"
        refine ae_lc true [("take", 9), ("kind", 10)] (G.comp true) G.calm G.nd (blkOk_by (by kernel_rfl)) (by walk_at "b") (ai_tup ?_)
        walk_at "ks"
        walk_at "cb"
        walk_at "ks"
        walk_at "sb"
        walk_at "ks"
        walk_at "cb"
        walk_at "ks"
        walk_at "sb"
        walk_at "ks"
        walk_at "cb"
        walk_at "ks"
        walk_at "sb"
        walk_at "ks"
        walk_at "cb"
        walk_at "ks"
        walk_at "sb"
        walk_at "ks"
        refine comp_nil ?_
        walk_at "ks"
        refine ⟨d2, _, .inr _, _, rfl, rfl, .tail (.tail .head), by omega, ?_⟩
        walk_at "ks"
        refine ⟨d3, _, funKey _, _, rfl, rfl, .tail .head, by omega, ?_⟩
        walk_at "ks"
        exact ⟨_, .cons (.tail .head) (.cons (.tail .head) (.cons (.tail .head) (.cons (.tail .head) .nil))), q⟩
      | g =>
        unfold fnGD takesG at x
        subst x eO
        walk_at "r"
        walk_at "ks"
        refine dgo_strR (o := none) (List.mem_cons_of_mem _ List.mem_cons_self) hn ?_
        refine ite_f ?_
        walk_at "ks"
        refine ae_lstm ?_
        walk_at "ks"
        intro t
        walk_at "ks"
        refine ai_tup ?_
        walk_at "ks"
        refine c_nk .pair ?_
        walk_at "ks"
        refine at_inR ?_ (by rfl)
        walk_at "ks"
        refine ⟨_, t, _, [], rfl, rfl, List.mem_cons_self, rfl, ?_⟩
        walk_at "ks"
        refine c_nk .num ?_
        walk_at "ks"
        refine at_inR ?_ (by rfl)
        walk_at "ks"
        refine ⟨_, t, _, ["p"], rfl, rfl, List.mem_cons_self, rfl, ?_⟩
        walk_at "ks"
        refine c_nk .row2 ?_
        walk_at "ks"
        refine ae_lc true [("take", 9), ("kind", 10)] (G.comp true) G.calm G.nd (blkOk_by (by kernel_rfl)) (by walk_at "b") (ai_tup ?_)
        walk_at "ks"
        walk_at "cb"
        walk_at "ks"
        walk_at "sb"
        walk_at "ks"
        walk_at "cb"
        walk_at "ks"
        walk_at "sb"
        walk_at "ks"
        refine comp_nil ?_
        walk_at "ks"
        refine ⟨d2, _, .inr _, _, rfl, rfl, .tail (.tail .head), by omega, ?_⟩
        walk_at "ks"
        refine ⟨d3, _, funKey _, _, rfl, rfl, .tail .head, by omega, ?_⟩
        walk_at "ks"
        exact ⟨_, .cons (.tail .head) (.cons (.tail .head) (.cons (.tail .head) (.cons (.tail .head) .nil))), q⟩
    )) only [↓gate_rule]
end
/-! M6: a whole program, plainly; promises of the makers. -/
open PySem.PyData (strOk)
def hd0 (b1 : Rws) : Hd := ⟨2, 2 + (b1.sz + 1)⟩
def nsM : Nm := [("a", .num, 2), ("b", .truth, 2), ("r", .row 2, 2), ("p", .named "pair", 2)]
def nsG (p : Nat) : Nm := [("p", .named "pair", p), ("a", .num, p)]
def ownM : D := .tup [.tup [.str "a", vk .num], .tup [.str "b", vk .truth], .tup [.str "r", vk (.row 2)], .tup [.str "p", vk (.named "pair")]]
def ownG : D := .tup [.tup [.str "p", vk (.named "pair")], .tup [.str "a", vk .num]]
def typedR (b1 b2 : Rws) : Except Er (List (Key × D)) := (b1.look (hd0 b1) .num (2 + 1) nsM).bind fun x => (b2.look (hd0 b1) (.row 2) ((hd0 b1).pg + 1) (nsG (hd0 b1).pg)).bind fun y => .ok [(.inr "main", .tup [ownM, vk .num, .tup x.1]), (.inr "g", .tup [ownG, vk (.row 2), .tup y.1])]
def spLI (CL : Addr) : ASp := fun ds O Q _ => ∃ (y : Addr) (hd g : D) (q : Int), ds = [.ref y, hd, g, .int q] ∧ O = [(y, .ins CL [])] ∧ Q .non [(y, lkM CL hd g q)]
def spTI (CT : Addr) : ASp := fun ds O Q _ => ∃ (y t : Addr) (fs : List (Key × D)), ds = [.ref y, .ref t] ∧ O = [(t, .dic fs), (y, .ins CT [])] ∧ ∀ t2, Q .non [(t, .dic fs), (y, .ins CT [("functions", .ref t2)]), (t2, .dic fs)]
def spHI (CH : Addr) : ASp := fun ds O Q _ => ∃ (y : Addr) (b1 b2 : Rws), ds = [.ref y, progD b1 b2] ∧ O = [(y, .ins CH [])] ∧ GdP b1 ∧ GdP b2 ∧ ∀ d1 d2 d3, Q .non [(y, hdIns CH d1 d2 d3), (d3, .dct (placesD (hd0 b1))), (d2, .dic knownD), (d1, .dic madeD)]
def spTyped (CT : Addr) (c : Cs) : ASp := fun ds O Q E => ∃ (b1 b2 : Rws), ds = [progD b1 b2] ∧ O = [] ∧ GdP b1 ∧ GdP b2 ∧ Rz (typedR b1 b2) (fun fs => ∀ y t, Q (.ref y) [(t, .dic fs), (y, .ins CT [("functions", .ref t)])]) (fun er => E (er.C c) er.fs [])
theorem hnLI {CL : Addr} : ∀ ds O1 QA EA, spLI CL ds O1 QA EA → ∀ QA' : D → Os → Prop, (∀ d O', d = .non → QA d O' → QA' d O') → spLI CL ds O1 QA' EA := fun ds O1 QA EA ⟨y, hd, g, q, a, b, z⟩ QA' h => ⟨y, hd, g, q, a, b, h _ _ rfl z⟩
theorem hnTI {CT : Addr} : ∀ ds O1 QA EA, spTI CT ds O1 QA EA → ∀ QA' : D → Os → Prop, (∀ d O', d = .non → QA d O' → QA' d O') → spTI CT ds O1 QA' EA := fun ds O1 QA EA ⟨y, t, fs, a, b, z⟩ QA' h => ⟨y, t, fs, a, b, fun t2 => h _ _ rfl (z t2)⟩
theorem hnHI {CH : Addr} : ∀ ds O1 QA EA, spHI CH ds O1 QA EA → ∀ QA' : D → Os → Prop, (∀ d O', d = .non → QA d O' → QA' d O') → spHI CH ds O1 QA' EA := fun ds O1 QA EA ⟨y, b1, b2, a, b, g1, g2, z⟩ QA' h => ⟨y, b1, b2, a, b, g1, g2, fun d1 d2 d3 => h _ _ rfl (z d1 d2 d3)⟩
theorem ok_le {n m : Nat} {ds : List D} (h : ∀ d ∈ ds, Ok n d) (l : n ≤ m) : ∀ d ∈ ds, Ok m d := fun d hd => (h d hd).le l
theorem kd_ok {n : Nat} {k : Kd} (h : K6 k) : Ok (n + 1) k.enc := by
  cases h with
  | num => exact .tup (ok_cons okS ok_nil)
  | truth => exact .tup (ok_cons okS ok_nil)
  | row2 => exact .tup (ok_cons okS (ok_cons (.int _) ok_nil))
  | row3 => exact .tup (ok_cons okS (ok_cons (.int _) ok_nil))
  | pair => exact .tup (ok_cons okS (ok_cons okS ok_nil))
  | twin => exact .tup (ok_cons okS (ok_cons okS ok_nil))
theorem fnM_sz {b : Rws} (h : GdP b) : Sz (fnMD b) (b.sz + 1) := by
  refine .mk .fn (.tup (n := 61) (ok_cons okS (ok_cons okS (ok_cons (.tup (n := 60) ?_) (ok_cons (kd_ok (n := 60) .num) (ok_cons (.tup (n := 60) (ok_le (rws_ok h.1) (by decide))) ok_nil)))))) (rws_szL h.1 (by decide))
  exact ok_cons (.tup (n := 59) (ok_cons okS (ok_cons (kd_ok (n := 58) .num) ok_nil))) (ok_cons (.tup (n := 59) (ok_cons okS (ok_cons (kd_ok (n := 58) .truth) ok_nil))) (ok_cons (.tup (n := 59) (ok_cons okS (ok_cons (kd_ok (n := 58) .row2) ok_nil))) (ok_cons (.tup (n := 59) (ok_cons okS (ok_cons (kd_ok (n := 58) .pair) ok_nil))) ok_nil)))
theorem fnG_sz {b : Rws} (h : GdP b) : Sz (fnGD b) (b.sz + 1) := by
  refine .mk .fn (.tup (n := 61) (ok_cons okS (ok_cons okS (ok_cons (.tup (n := 60) ?_) (ok_cons (kd_ok (n := 60) .row2) (ok_cons (.tup (n := 60) (ok_le (rws_ok h.1) (by decide))) ok_nil)))))) (rws_szL h.1 (by decide))
  exact ok_cons (.tup (n := 59) (ok_cons okS (ok_cons (kd_ok (n := 58) .pair) ok_nil))) (ok_cons (.tup (n := 59) (ok_cons okS (ok_cons (kd_ok (n := 58) .num) ok_nil))) ok_nil)
section
variable {N : Ent} {Q : D → Os → Prop} {CH y d1 d2 d3 : Addr} {p : Nat}
theorem c_lr {nm : Str} {m k : List (Key × D)} {pl : List (List Key × D)} (h1 : getA m (.inr nm) = none) (h4 : getA pl (recKey nm) = none) (h2 : m.length ≤ 100) (h3 : pl.length ≤ 100) (q : Q .non [(d3, .dct (pl ++ [(recKey nm, .int (p : Nat))])), (d2, .dic k), (d1, .dic (m ++ [(.inr nm, fldsL)])), (y, hdIns CH d1 d2 d3)]) :
    CallS N (spLR CH) [.ref y, .str nm, fldsD, .int (p : Nat)] [(d3, .dct pl), (d2, .dic k), (d1, .dic m), (y, hdIns CH d1 d2 d3)] Q := by
  rw [← setA_new h1, ← setA_new h4] at q
  exact ⟨[(d3, .dct pl), (d1, .dic m), (y, hdIns CH d1 d2 d3)], .cons .head (.cons (.tail .head) (.cons (.tail .head) .nil)), y, d1, d2, d3, nm, p, m, pl, rfl, rfl, h1, h2, h3, _, .step .head (.step (.tail (.tail .head)) (.step (.tail (.tail (.tail .head))) .new)), q⟩
theorem c_lf {fn e : D} {nm : Str} {k : List (Key × D)} {pl : List (List Key × D)} (hf : FnH fn nm e) (h1 : getA k (.inr nm) = none) (h4 : getA pl (funKey nm) = none) (h2 : k.length ≤ 100) (h3 : pl.length ≤ 100) (q : Q .non [(d3, .dct (pl ++ [(funKey nm, .int (p : Nat))])), (d2, .dic (k ++ [(.inr nm, e)])), (d1, .dic madeD), (y, hdIns CH d1 d2 d3)]) :
    CallS N (spLF CH) [.ref y, fn, .int (p : Nat)] [(d3, .dct pl), (d2, .dic k), (d1, .dic madeD), (y, hdIns CH d1 d2 d3)] Q := by
  rw [← setA_new h1, ← setA_new h4] at q
  exact ⟨[(d3, .dct pl), (d2, .dic k), (d1, .dic madeD), (y, hdIns CH d1 d2 d3)], .cons .head (.cons .head (.cons .head (.cons .head .nil))), y, d1, d2, d3, fn, nm, e, p, k, pl, rfl, rfl, hf, h1, h2, h3, _, .step .head (.step (.tail .head) (.step (.tail (.tail .head)) (.step (.tail (.tail (.tail .head))) .new))), q⟩
theorem c_rws2 {CL a b : Addr} {c : Cs} {h : Hd} {gk : Kd} {q n : Nat} {ns : Nm} {r : Rws} {O : Os} (hw : WfS n r) (ok : NmOk ns) (hk : K6 gk) (hl : ns.length + r.sz ≤ 9000)
    (k1 : ∀ x, r.look h gk (q + 1) ns = .ok x → Q (.tup x.1) ((b, .dic (encNm ns)) :: (a, lkM CL (hdD CH h) gk.enc ((q + r.sz : Nat) : Int)) :: O)) (k2 : ∀ er, r.look h gk (q + 1) ns = .error er → ∀ O', N.EX (er.C c) er.fs O') :
    CallS N (spRws n CL CH c) [.ref a, .tup (Rws.encs r), .ref b] ((b, .dic (encNm ns)) :: (a, lkM CL (hdD CH h) gk.enc (q : Nat)) :: O) Q :=
  ⟨lkO CL CH h gk.enc a b q ns, .cons (.tail .head) (.cons .head .nil), a, b, h, gk, q, r, ns, rfl, rfl, hw, ok, hk, hl, rz_mk (fun _ z => ⟨_, .step (.tail .head) (.step .head .new), k1 _ z⟩) (fun _ z q' => ⟨_, .step (.tail .head) (.step .head .new), k2 _ z _⟩)⟩
end
theorem dputN {a : Addr} {x : Str} {k : Kd} {p : Nat} {ns : Nm} {O O4 : Os} {P : Os → Prop} (u : U O a (.dic (encNm ns)) (.dic (encNm (ns ++ [(x, k, p)]))) O4) (h : lookN ns x = none) (hl : ns.length ≤ 9000) (q : P O4) :
    ∃ a' kvs k' O4, D.ref a = .ref a' ∧ D.str x = keyD k' ∧ U O a' (.dic kvs) (.dic (setA kvs k' (.tup [k.enc, .int (p : Nat)]))) O4 ∧ kvs.length ≤ 100000 ∧ P O4 :=
  ⟨a, encNm ns, .inr x, O4, rfl, rfl, by rw [setA_nm h]; exact u, by rw [encNm_len]; omega, q⟩
/-! Q10: the makers. -/
open PySem.PyData (strOk)
abbrev sTI : Stmt := inCls 16 0
abbrev sHI : Stmt := inCls 17 0
abbrev sLI : Stmt := inCls 18 0
section
variable {P : Program} {w : World} {K : PySem.W.Frag} {mg : Str → Option Value} {base : Heap} {f : Addr} {fd : FuncData} {k : Nat} {c : Cs} {CL CH CT : Addr}
theorem okLI (L : LkC K CL) (Fn : Fun K "__init__" "Looker.__init__" sLI f fd) : FnOk P w K mg base (L2.CX P w) (k + 1) f fd ["self", "heads", "gives", "place"] (lift K (spLI CL)) := by
  refine gate ?_
  simp (disch := with_unfolding_all (
      refine fnGx (Ns := ["self", "heads", "gives", "place"]) Fn rfl rfl ⟨rfl, rfl, rfl, by decide +kernel, rfl, by decide +kernel, by decide +kernel⟩ (fun ds O QA EA h => ?_) (by decide) (fun cdv A outer s H E hr ds O QA EA F h G => ?_)
      · obtain ⟨y, hd, g, q, x, _⟩ := h
        rw [x]; rfl
      obtain ⟨y, hd, g, q, x, eO, z⟩ := h
      subst x eO
      walk_at "r"
      walk_at "ks"
      refine fld_i L.cls L.h .head (Nat.le_of_ble_eq_true rfl) ?_
      walk_at "ks"
      refine fld_i L.cls L.g .head (Nat.le_of_ble_eq_true rfl) ?_
      walk_at "ks"
      refine fld_i L.cls L.p .head (Nat.le_of_ble_eq_true rfl) ?_
      walk_at "ks"
      exact ⟨_, .cons .head .nil, z⟩
    )) only [↓gate_rule]
theorem okTI (B : Lib mg) (c1 : Cls K CT) (c2 : NoAttr K CT "functions") (Fn : Fun K "__init__" "Typed.__init__" sTI f fd) : FnOk P w K mg base (L2.CX P w) (k + 1) f fd ["self", "functions"] (lift K (spTI CT)) := by
  refine gate ?_
  simp (disch := with_unfolding_all (
      refine fnGx (Ns := ["self", "functions"]) Fn rfl rfl ⟨rfl, rfl, rfl, by decide +kernel, rfl, by decide +kernel, by decide +kernel⟩ (fun ds O QA EA h => ?_) (by decide) (fun cdv A outer s H E hr ds O QA EA F h G => ?_)
      · obtain ⟨y, t, fs, x, _⟩ := h
        rw [x]; rfl
      obtain ⟨y, t, fs, x, eO, z⟩ := h
      subst x eO
      walk_at "r"
      walk_at "ks"
      refine ae_dicOf B.dct ?_
      walk_at "ks"
      refine ⟨_, .inr ⟨t, rfl, List.mem_cons_self⟩, .inl fun t2 => ?_⟩
      walk_at "ks"
      refine fld_i c1 c2 (.tail (.tail .head)) (Nat.le_of_ble_eq_true rfl) ?_
      walk_at "ks"
      exact ⟨_, .cons (.tail .head) (.cons (.tail .head) (.cons .head .nil)), z t2⟩
    )) only [↓gate_rule]
theorem okHI (B : Lib mg) (L : HdC K CH) (g1 : MtA P w K mg base k CH "look_record" (spLR CH)) (g2 : MtA P w K mg base k CH "look_function" (spLF CH)) (g3 : FnA P w K mg base k "counted" spCounted) (Fn : Fun K "__init__" "Heads.__init__" sHI f fd) : FnOk P w K mg base (L2.CX P w) (k + 1) f fd ["self", "program"] (lift K (spHI CH)) := by
  refine gate ?_
  simp (disch := with_unfolding_all (
      refine fnGx (Ns := ["self", "program", "records", "functions", "place", "name", "fields", "function"]) Fn rfl rfl ⟨rfl, rfl, rfl, by decide +kernel, rfl, by decide +kernel, by decide +kernel⟩ (fun ds O QA EA h => ?_) (by decide) (fun cdv A outer s H E hr ds O QA EA F h G => ?_)
      · obtain ⟨y, b1, b2, x, _⟩ := h
        rw [x]; rfl
      obtain ⟨y, b1, b2, x, eO, h1, h2, z⟩ := h
      have l1 := L.cls
      have l2 := L.m
      have l3 := L.k
      have l4 := L.p
      unfold progD recsD at x
      subst x eO
      walk_at "r"
      walk_at "ks"
      refine ae_dnew fun d1 => ?_
      walk_at "ks"
      refine fld_i l1 l2 (.tail .head) (Nat.le_of_ble_eq_true rfl) ?_
      walk_at "ks"
      refine ae_dnew fun d2 => ?_
      walk_at "ks"
      refine fld_i l1 l3 (.tail (.tail .head)) (Nat.le_of_ble_eq_true rfl) ?_
      walk_at "ks"
      refine ae_dnewT fun d3 => ?_
      walk_at "ks"
      refine fld_i l1 l4 (.tail (.tail (.tail .head))) (Nat.le_of_ble_eq_true rfl) ?_
      show ASs _ _ _ _ [(d3, .dct []), (d2, .dic []), (d1, .dic []), (y, hdIns CH d1 d2 d3)] _
      walk_at "ks"
      refine ai_enum rfl B.enu ?_ rfl
      walk_at "ks"
      refine c_lr rfl rfl (by decide) (by decide) ?_
      walk_at "ks"
      refine c_lr rfl rfl (by decide) (by decide) ?_
      walk_at "ks"
      refine ai_tup ?_
      walk_at "ks"
      refine c_lf .m rfl rfl (by decide) (by decide) ?_
      walk_at "ks"
      refine calls_0 ⟨_, _, rfl, rfl, fnM_sz h1, by have := h1.2; omega, _, pk_nil, ?_⟩
      walk_at "ks"
      show CallS _ _ [_, _, .int ((2 + (b1.sz + 1) : Nat) : Int)] _ _
      refine c_lf .g rfl rfl (Nat.le_of_ble_eq_true rfl) (Nat.le_of_ble_eq_true rfl) ?_
      walk_at "ks"
      refine calls_0 ⟨_, _, rfl, rfl, fnG_sz h2, by have := h2.2; omega, _, pk_nil, ?_⟩
      walk_at "ks"
      refine dgo_strR (o := some _) (List.mem_cons_of_mem _ List.mem_cons_self) rfl ?_
      refine ite_nt ?_
      walk_at "ks"
      exact ⟨_, .cons (.tail (.tail (.tail .head))) (.cons .head (.cons .head (.cons .head .nil))), z d1 d2 d3⟩
    )) only [↓gate_rule]
theorem ok1 : NmOk [("a", .num, 2), ("b", .truth, 2), ("r", .row 2, 2), ("p", .named "pair", 2)] := fun x hx => by
  simp only [List.mem_cons, List.not_mem_nil, or_false] at hx
  rcases hx with rfl | rfl | rfl | rfl <;> constructor
theorem ok2 {p : Nat} : NmOk [("p", .named "pair", p), ("a", .num, p)] := fun x hx => by
  simp only [List.mem_cons, List.not_mem_nil, or_false] at hx
  rcases hx with rfl | rfl <;> constructor
abbrev sTyped : Stmt := top 19
theorem okTyped {n : Nat} (hn : n = 7) (B : Lib mg) (LL : LkC K CL) (L : HdC K CH) (g1 : MkA P w K mg base k "Heads" CH (spHI CH)) (g2 : MkA P w K mg base k "Looker" CL (spLI CL)) (g3 : MkA P w K mg base k "Typed" CT (spTI CT)) (g4 : MtA P w K mg base (k + 1) CH "value_kind" (spVK CH)) (g5 : MtA P w K mg base (k + 1) CL "look_rows" (spRws n CL CH c))
    (Fn : Fun K "typed" "typed" sTyped f fd) : FnOk P w K mg base (L2.CX P w) (k + 1 + 1) f fd ["program"] (lift K (spTyped CT c)) := by
  refine gate ?_
  simp (disch := with_unfolding_all (
      refine fnGx (Ns := ["program", "heads", "functions", "word", "name", "takes", "gives", "rows", "looker", "names", "take", "kind", "own"]) Fn rfl rfl ⟨rfl, rfl, rfl, by decide +kernel, rfl, by decide +kernel, by decide +kernel⟩ (fun ds O QA EA h => ?_) (by decide) (fun cdv A outer s H E hr ds O QA EA F h G => ?_)
      · obtain ⟨b1, b2, x, _⟩ := h
        rw [x]; rfl
      obtain ⟨b1, b2, x, eO, h1, h2, z⟩ := h
      have l1 := L.cls
      have l2 := L.m
      have l3 := L.k
      have l4 := L.p
      have l5 := LL.cls
      have l6 := LL.h
      have l7 := LL.g
      have l8 := LL.p
      unfold progD fnMD fnGD takesM takesG at x
      subst x eO hn
      walk_at "r"
      walk_at "ks"
      refine ae_make g1 hr G.ps ?_ (by with_unfolding_all rfl) (by decide) (by with_unfolding_all rfl) (by with_unfolding_all rfl) hnHI
      walk_at "ks"
      intro y
      refine calls_1 ⟨y, b1, b2, rfl, rfl, h1, h2, fun d1 d2 d3 => ⟨[(d3, .dct (placesD (hd0 b1))), (d2, .dic knownD), (d1, .dic madeD), (y, hdIns CH d1 d2 d3)], .step .head .new, ?_⟩⟩
      walk_at "k"
      refine' ab_still Take.head (.cons .same (.cons .same (.cons (.ins (.cons .same (.cons .same (.cons .here .nil)))) .nil))) ?rr ?_
      (case rr => walk_at "zr")
      refine' ab_still Take.head (.cons .same (.cons (.ins (.cons .same (.cons .here (.cons .same .nil)))) .nil)) ?rr ?_
      (case rr => walk_at "zr")
      refine' ab_still Take.head (.cons (.ins (.cons .here (.cons .same (.cons .same .nil)))) .nil) ?rr ?_
      (case rr => walk_at "zr")
      refine' ab_still Take.head .nil ?rr ?_
      (case rr => walk_at "zr")
      dsimp only [MO.d]
      walk_at "ks"
      refine ae_dnew fun t => ?_
      walk_at "ks"
      refine ai_tup ?_
      walk_at "ks"
      refine ae_make g2 hr G.ps ?_ (by with_unfolding_all rfl) (by decide) (by with_unfolding_all rfl) (by with_unfolding_all rfl) hnLI
      walk_at "ks"
      refine IxX.dct (ks := funKey "main") rfl rfl ?_
      walk_at "ks"
      intro y1
      refine calls_1 ⟨y1, _, _, _, rfl, rfl, _, pk_1, ?_⟩
      walk_at "ks"
      refine ae_dnew fun n1 => ?_
      walk_at "ks"
      refine ai_tup ?_
      walk_at "ks"
      refine dputN (ns := []) (k := .num) (p := 2) .head rfl (Nat.le_of_ble_eq_true rfl) ?_
      walk_at "ks"
      refine dputN (ns := [("a", .num, 2)]) (k := .truth) (p := 2) .head rfl (Nat.le_of_ble_eq_true rfl) ?_
      walk_at "ks"
      refine dputN (ns := [("a", .num, 2), ("b", .truth, 2)]) (k := .row 2) (p := 2) .head rfl (Nat.le_of_ble_eq_true rfl) ?_
      walk_at "ks"
      refine dputN (ns := [("a", .num, 2), ("b", .truth, 2), ("r", .row 2, 2)]) (k := .named "pair") (p := 2) .head rfl (Nat.le_of_ble_eq_true rfl) ?_
      walk_at "ks"
      refine ae_lc true [("take", 10), ("kind", 11)] (G.comp true) G.calm G.nd (blkOk_by (by kernel_rfl)) (by walk_at "b") (ai_tup ?_)
      walk_at "ks"
      walk_at "cb"
      walk_at "ks"
      walk_at "sb"
      walk_at "ks"
      refine c_vk (h := hd0 b1) .num ?_
      walk_at "ks"
      walk_at "cb"
      walk_at "ks"
      walk_at "sb"
      walk_at "ks"
      refine c_vk (h := hd0 b1) .truth ?_
      walk_at "ks"
      walk_at "cb"
      walk_at "ks"
      walk_at "sb"
      walk_at "ks"
      refine c_vk (h := hd0 b1) .row2 ?_
      walk_at "ks"
      walk_at "cb"
      walk_at "ks"
      walk_at "sb"
      walk_at "ks"
      refine c_vk (h := hd0 b1) .pair ?_
      walk_at "ks"
      refine comp_nil ?_
      walk_at "ks"
      refine c_vk (h := hd0 b1) .num ?_
      walk_at "ks"
      refine c_rws2 (h := hd0 b1) (gk := .num) (q := 2) (ns := nsM) (r := b1) h1.1 (by unfold nsM; exact ok1) .num (by have := h1.2; show 4 + _ ≤ 9000; omega) (fun x1 hx1 => ?_) (fun er hx O' => ⟨[], .nil, ?_⟩)
      rotate_left
      · refine rz_bad z ?_
        unfold typedR
        rw [hx]; rfl
      walk_at "ks"
      refine ⟨t, _, .inr "main", _, rfl, rfl, .tail (.tail .head), Nat.le_of_ble_eq_true rfl, ?_⟩
      walk_at "ks"
      refine ae_make g2 hr G.ps ?_ (by with_unfolding_all rfl) (by decide) (by with_unfolding_all rfl) (by with_unfolding_all rfl) hnLI
      walk_at "ks"
      refine IxX.dct (ks := funKey "g") rfl rfl ?_
      walk_at "ks"
      intro y2
      refine calls_1 ⟨y2, _, _, _, rfl, rfl, _, pk_1, ?_⟩
      walk_at "ks"
      refine ae_dnew fun n2 => ?_
      walk_at "ks"
      refine ai_tup ?_
      walk_at "ks"
      refine dputN (ns := []) (k := .named "pair") (p := (hd0 b1).pg) .head rfl (Nat.le_of_ble_eq_true rfl) ?_
      walk_at "ks"
      refine dputN (ns := [("p", .named "pair", (hd0 b1).pg)]) (k := .num) (p := (hd0 b1).pg) .head rfl (Nat.le_of_ble_eq_true rfl) ?_
      walk_at "ks"
      refine ae_lc true [("take", 10), ("kind", 11)] (G.comp true) G.calm G.nd (blkOk_by (by kernel_rfl)) (by walk_at "b") (ai_tup ?_)
      walk_at "ks"
      walk_at "cb"
      walk_at "ks"
      walk_at "sb"
      walk_at "ks"
      refine c_vk (h := hd0 b1) .pair ?_
      walk_at "ks"
      walk_at "cb"
      walk_at "ks"
      walk_at "sb"
      walk_at "ks"
      refine c_vk (h := hd0 b1) .num ?_
      walk_at "ks"
      refine comp_nil ?_
      walk_at "ks"
      refine c_vk (h := hd0 b1) .row2 ?_
      walk_at "ks"
      refine c_rws2 (h := hd0 b1) (gk := .row 2) (q := (hd0 b1).pg) (ns := (nsG (hd0 b1).pg)) (r := b2) h2.1 (by unfold nsG; exact ok2) .row2 (by have := h2.2; show 2 + _ ≤ 9000; omega) (fun x2 hx2 => ?_) (fun er hx O' => ⟨[], .nil, ?_⟩)
      rotate_left
      · refine rz_bad z ?_
        unfold typedR
        rw [hx1]; show Except.bind _ _ = _; rw [hx]; rfl
      walk_at "ks"
      refine ⟨t, _, .inr "g", _, rfl, rfl, .tail (.tail (.tail (.tail .head))), Nat.le_of_ble_eq_true rfl, ?_⟩
      walk_at "ks"
      refine ae_make g3 hr G.ps ?_ (by with_unfolding_all rfl) (by decide) (by with_unfolding_all rfl) (by with_unfolding_all rfl) hnTI
      walk_at "ks"
      intro y3
      refine ⟨_, .cons (.tail (.tail (.tail (.tail (.tail .head))))) (.cons .head .nil), y3, t, _, rfl, rfl, fun t2 => ⟨_, .step (.tail (.tail (.tail (.tail (.tail .head))))) (.step .head .new), ?_⟩⟩
      have z2 : ∀ y t, QA (.ref y) [(t, .dic [(.inr "main", .tup [ownM, vk .num, .tup x1.1]), (.inr "g", .tup [ownG, vk (.row 2), .tup x2.1])]), (y, .ins CT [("functions", .ref t)])] := by
        refine rz_ok z ?_
        unfold typedR
        rw [hx1]
        show Except.bind _ _ = _
        rw [hx2]
        rfl
      exact ⟨_, .cons .head (.cons .head .nil), z2 y3 t2⟩
    )) only [↓gate_rule]
end
/-! M7: the law's events, plainly. -/
open PySem.PyData (strOk)
abbrev evD (p : Nat) (d : D) (ps bs : List D) : D := .tup [.int (p : Nat), d, .lst ps, .lst bs]
def plE : List Ex → Nat → List D
  | [], _ => []
  | e :: es, p => .int (p : Nat) :: plE es (p + e.sz)
mutual
def Ex.evs : Ex → Nat → List D
  | .mk w ps, p => Ex.evss ps (p + 1) ++ [evD p (w.enc (Ex.encs ps)) (plE ps (p + 1)) []]
def Ex.evss : List Ex → Nat → List D
  | [], _ => []
  | e :: es, p => e.evs p ++ Ex.evss es (p + e.sz)
end
def plR : Rws → Nat → List D
  | .nil, _ => []
  | .cons r rs, p => .int (p : Nat) :: plR rs (p + r.sz)
def plB : Bds → Nat → List D
  | .nil, _ => []
  | .cons b bs, p => .lst (plR b p) :: plB bs (p + b.sz)
mutual
def Rw.evs : Rw → Nat → List D
  | .mk w es bs, p => Ex.evss es (p + 1) ++ Bds.evs bs (p + 1 + Ex.szs es) ++ [evD p (w.enc (Ex.encs es) (Bds.encs bs)) (plE es (p + 1)) (plB bs (p + 1 + Ex.szs es))]
def Rws.evs : Rws → Nat → List D
  | .nil, _ => []
  | .cons r rs, p => r.evs p ++ Rws.evs rs (p + r.sz)
def Bds.evs : Bds → Nat → List D
  | .nil, _ => []
  | .cons b bs, p => .str "begin" :: (b.evs p ++ (.str "end" :: Bds.evs bs (p + b.sz)))
end
def evsOf (d : D) (es : List Ex) (bs : Bds) (p : Nat) : List D := Ex.evss es (p + 1) ++ Bds.evs bs (p + 1 + Ex.szs es) ++ [evD p d (plE es (p + 1)) (plB bs (p + 1 + Ex.szs es))]
def Bds.lists : Bds → List (List D)
  | .nil => []
  | .cons b bs => Rws.encs b :: Bds.lists bs
theorem lists_encs : ∀ {bs : Bds}, bs.lists.map D.tup = bs.encs
  | .nil => by simp only [Bds.lists, Bds.encs, List.map_nil]
  | .cons b bs => by simp only [Bds.lists, Bds.encs, List.map_cons, lists_encs]
theorem ex_evs {w : EW} {ps : List Ex} {p : Nat} : (Ex.mk w ps).evs p = evsOf (w.enc (Ex.encs ps)) ps .nil p := by
  unfold evsOf
  simp only [Ex.evs, Bds.evs, plB, List.append_nil]
theorem rw_evs {w : RW} {es : List Ex} {bs : Bds} {p : Nat} : (Rw.mk w es bs).evs p = evsOf (w.enc (Ex.encs es) (Bds.encs bs)) es bs p := by
  unfold evsOf
  simp only [Rw.evs]
mutual
theorem ex_evl : ∀ (e : Ex) (p : Nat), (e.evs p).length = e.sz
  | .mk w ps, p => by simp only [Ex.evs, Ex.sz, List.length_append, List.length_cons, List.length_nil, exs_evl ps (p + 1)]
theorem exs_evl : ∀ (es : List Ex) (p : Nat), (Ex.evss es p).length = Ex.szs es
  | [], p => by simp only [Ex.evss, Ex.szs, List.length_nil]
  | e :: es, p => by simp only [Ex.evss, Ex.szs, List.length_append, ex_evl e p, exs_evl es (p + e.sz)]
end
/-- what the law looks at in a node -/
inductive VwL : D → List D → List (List D) → Prop
  | num {n : Int} : VwL (.tup [.str "num", .int n]) [] []
  | truth {b : Bool} : VwL (.tup [.str "truth", .bl b]) [] []
  | name {s : Str} : VwL (.tup [.str "name", .str s]) [] []
  | two {s : Str} {a b : D} : VwL (.tup [.str "two", .str s, a, b]) [a, b] []
  | one {s : Str} {a : D} : VwL (.tup [.str "one", .str s, a]) [a] []
  | call {s : Str} {ps : List D} : VwL (.tup [.str "call", .str s, .tup ps]) ps []
  | new {s : Str} {ps : List D} : VwL (.tup [.str "new", .str s, .tup ps]) ps []
  | row {ps : List D} : VwL (.tup [.str "row", .tup ps]) ps []
  | field {s : Str} {a : D} : VwL (.tup [.str "field", a, .str s]) [a] []
  | index {a b : D} : VwL (.tup [.str "index", a, b]) [a, b] []
  | let_ {s : Str} {a : D} : VwL (.tup [.str "let", .str s, a]) [a] []
  | set {s : Str} {a : D} : VwL (.tup [.str "set", .str s, a]) [a] []
  | setat {s : Str} {a b : D} : VwL (.tup [.str "setat", .str s, a, b]) [a, b] []
  | setf {s f : Str} {a : D} : VwL (.tup [.str "setfield", .str s, .str f, a]) [a] []
  | log {a : D} : VwL (.tup [.str "log", a]) [a] []
  | do_ {a : D} : VwL (.tup [.str "do", a]) [a] []
  | ret {a : D} : VwL (.tup [.str "return", a]) [a] []
  | raise {s : Str} : VwL (.tup [.str "raise", .str s]) [] []
  | if_ {c : D} {b1 b2 : List D} : VwL (.tup [.str "if", c, .tup b1, .tup b2]) [c] [b1, b2]
  | while_ {c : D} {b1 : List D} : VwL (.tup [.str "while", c, .tup b1]) [c] [b1]
  | try0 {b0 : List D} : VwL (.tup [.str "try", .tup b0, .tup []]) [] [b0]
  | try1 {f : Str} {b0 b1 : List D} : VwL (.tup [.str "try", .tup b0, .tup [hD f b1]]) [] [b0, b1]
  | try2 {f f' : Str} {b0 b1 b2 : List D} : VwL (.tup [.str "try", .tup b0, .tup [hD f b1, hD f' b2]]) [] [b0, b1, b2]
theorem ex_vwl : ∀ {w : EW} {ps : List Ex}, w.ok ps.length → VwL (w.enc (Ex.encs ps)) (Ex.encs ps) []
  | .num _, [], _ => .num
  | .truth _, [], _ => .truth
  | .name _, [], _ => .name
  | .two _, [a, b], _ => .two
  | .one _, [a], _ => .one
  | .call _, ps, _ => .call
  | .new _, ps, _ => .new
  | .row, ps, _ => .row
  | .field _, [a], _ => .field
  | .index, [a, b], _ => .index
theorem rw_vwl : ∀ {w : RW} {es : List Ex} {bs : Bds}, w.ok es.length bs.len → VwL (w.enc (Ex.encs es) (Bds.encs bs)) (Ex.encs es) bs.lists
  | .let_ _, [e], .nil, _ => .let_
  | .set _, [e], .nil, _ => .set
  | .setat _, [a, b], .nil, _ => .setat
  | .setf _ _, [a], .nil, _ => .setf
  | .if_, [c], .cons b1 (.cons b2 .nil), _ => .if_
  | .while_, [c], .cons b1 .nil, _ => .while_
  | .log, [e], .nil, _ => .log
  | .do_, [e], .nil, _ => .do_
  | .ret, [e], .nil, _ => .ret
  | .raise _, [], .nil, _ => .raise
  | .try_ [f], [], .cons b0 (.cons b1 .nil), _ => .try1
  | .try_ [f, f'], [], .cons b0 (.cons b1 (.cons b2 .nil)), _ => .try2
  | .try_ [], _, _, h => by rcases h.2.2.1 with z | z <;> cases z
theorem ok_bds {w : RW} {n m : Nat} (h : w.ok n m) : m ≤ 3 := by
  cases w with
  | let_ _ => rw [h.2.1]; decide
  | set _ => rw [h.2.1]; decide
  | setat _ => rw [h.2.1]; decide
  | setf _ _ => rw [h.2.1]; decide
  | if_ => rw [h.2]; decide
  | while_ => rw [h.2]; decide
  | log => rw [h.2]; decide
  | do_ => rw [h.2]; decide
  | ret => rw [h.2]; decide
  | raise _ => rw [h.2.1]; decide
  | try_ fs => have := h.2.1; rcases h.2.2.1 with z | z <;> omega
mutual
theorem rw_evl : ∀ {n : Nat} {r : Rw} (p : Nat), WfR n r → (r.evs p).length ≤ 7 * r.sz
  | _, .mk w es bs, p, .mk h1 h2 h3 => by
    have a := bds_evl (p + 1 + Ex.szs es) h3
    have b := ok_bds h1
    simp only [Rw.evs, Rw.sz, List.length_append, List.length_cons, List.length_nil, exs_evl es (p + 1)]
    omega
theorem rws_evl : ∀ {n : Nat} {r : Rws} (p : Nat), WfS n r → (r.evs p).length ≤ 7 * r.sz
  | _, .nil, p, _ => by simp only [Rws.evs, List.length_nil]; omega
  | _, .cons r rs, p, .cons h1 h2 => by
    have a := rw_evl p h1
    have b := rws_evl (p + r.sz) h2
    simp only [Rws.evs, Rws.sz, List.length_append]
    omega
theorem bds_evl : ∀ {n : Nat} {r : Bds} (p : Nat), WfB n r → (r.evs p).length ≤ 7 * r.sz + 2 * r.len
  | _, .nil, p, _ => by simp only [Bds.evs, List.length_nil]; omega
  | _, .cons b bs, p, .cons h1 h2 => by
    have a := rws_evl p h1
    have c := bds_evl (p + b.sz) h2
    simp only [Bds.evs, Bds.sz, Bds.len, List.length_append, List.length_cons]
    omega
end
def Er.tup : Er → D
  | .name s p => .tup [.str "name", .str s, .int (p : Nat)]
  | .twice s p => .tup [.str "twice", .str s, .int (p : Nat)]
  | .fit a b => .tup [.str "fit", .int (a : Nat), .int (b : Nat)]
abbrev lhNew (c : Str) (p : Int) : D := .tup [.tup [Kd.enc .num, Kd.enc .truth], Kd.enc (.named c), .int p]
abbrev lhCall (w : List Kd × Kd × Nat) : D := .tup [.tup (w.1.map Kd.enc), w.2.1.enc, .int (w.2.2 : Nat)]
abbrev namesL : D := .lst [.str "x", .str "y"]
def lhD (h : Hd) : D := .dic [(.inr "new", .dic [(.inr "pair", lhNew "pair" 0), (.inr "twin", lhNew "twin" 1)]), (.inr "fields", .dic [(.inr "pair", namesL), (.inr "twin", namesL)]),
  (.inr "call", .dic [(.inr "main", lhCall ([.num, .truth, .row 2, .named "pair"], .num, h.pm)), (.inr "g", lhCall ([.named "pair", .num], .row 2, h.pg))])]
def atD (as : List As) : List D := as.map fun a => .int (a.at_ : Nat)
/-- what is known of the parts -/
def KdOk (KD : List (Key × D)) (as : List As) : Prop := ∀ a ∈ as, K6 a.kd ∧ getA KD (.inl (a.at_ : Nat)) = some a.kd.enc
def TdOk (TD : List (Key × D)) (as : List As) : Prop := ∀ a ∈ as, getA TD (.inl (a.at_ : Nat)) = some a.told
theorem due_needs {k : Kd} {p : Nat} : ∀ {as : List As}, dueK as k p = needs as (List.replicate as.length k) p
  | [] => rfl
  | a :: as => by
    simp only [dueK, List.length_cons, List.replicate_succ, needs, due_needs (as := as)]
set_option profiler true
set_option profiler.threshold 2000
/-! S1: the law's small words. -/
open PySem.PyData (strOk)
abbrev tInner : Stmt := top 30
abbrev tGroups : Stmt := top 31
abbrev tVK : Stmt := top 33
abbrev tWants : Stmt := top 34
abbrev tField : Stmt := top 35
def spInnerL : ASp := fun ds O Q _ => ∃ nd ps bs, ds = [nd] ∧ O = [] ∧ VwL nd ps bs ∧ Q (.tup ps) []
def spGroupsL : ASp := fun ds O Q _ => ∃ nd ps bs, ds = [nd] ∧ O = [] ∧ VwL nd ps bs ∧ Q (.tup (bs.map .tup)) []
def spVKL : ASp := fun ds O Q _ => ∃ h kd, ds = [Kd.enc kd, lhD h] ∧ O = [] ∧ K6 kd ∧ Q (vk kd) []
def spWantsL : ASp := fun ds O Q _ => ∃ (p : Nat) (nd bd du : D) (as : List As) (ks : List Kd) (KD : List (Key × D)) (kr : Addr), ds = [.tup [.int (p : Nat), nd, .lst (atD as), bd], du, .ref kr] ∧ O = [(kr, .dic KD)] ∧ (du = .lst (ks.map Kd.enc) ∨ du = .tup (ks.map Kd.enc)) ∧ KdOk KD as ∧ (∀ k ∈ ks, K6 k) ∧
  match needs as ks p with
  | none => Q .non O
  | some er => Q er.tup O
def spFieldL : ASp := fun ds O Q _ => ∃ (h : Hd) (b s : Str) (p : Nat), ds = [Kd.enc (.named b), .str s, lhD h, .int (p : Nat)] ∧ O = [] ∧ (b = "pair" ∨ b = "twin") ∧ Rz (fieldK s p) (fun x => Q (.lst [x.2.enc, .str "get", .int (x.1 : Nat)]) []) (fun er => Q er.tup [])
section
variable {P : Program} {w : World} {K : PySem.W.Frag} {mg : Str → Option Value} {base : Heap} {f : Addr} {fd : FuncData} {k : Nat}
theorem okInnerL (B : Lib mg) (Fn : Fun K "_law_inner" "_law_inner" tInner f fd) : FnOk P w K mg base (L2.CX P w) (k + 1) f fd ["_law_node"] (lift K spInnerL) := by
  refine fnG (Ns := ["_law_node"]) Fn rfl rfl ⟨rfl, rfl, rfl, by decide +kernel, rfl, by decide +kernel, by decide +kernel⟩ (fun ds O QA EA h => ?_) (by decide) (fun cdv A outer s H E hr T ds O QA EA F h G => ?_)
  · obtain ⟨nd, ps, bs, x, _⟩ := h
    rw [x]; rfl
  obtain ⟨nd, ps, bs, x, eO, hv, q⟩ := h
  subst x eO
  cases hv <;> (walk_at "r") <;> (walk_at "l") <;> exact q
theorem okGroupsL (B : Lib mg) (Fn : Fun K "_law_groups" "_law_groups" tGroups f fd) : FnOk P w K mg base (L2.CX P w) (k + 1) f fd ["_law_row_here"] (lift K spGroupsL) := by
  refine gate ?_
  simp (disch := with_unfolding_all (
      refine fnG (Ns := ["_law_row_here", "_law_name", "_law_rows"]) Fn rfl rfl ⟨rfl, rfl, rfl, by decide +kernel, rfl, by decide +kernel, by decide +kernel⟩ (fun ds O QA EA h => ?_) (by decide) (fun cdv A outer s H E hr T ds O QA EA F h G => ?_)
      · obtain ⟨nd, ps, bs, x, _⟩ := h
        rw [x]; rfl
      obtain ⟨nd, ps, bs, x, eO, hv, q⟩ := h
      subst x eO
      cases hv with
      | try0 =>
        walk_at "r"
        walk_at "ks"
        refine ae_lc true [("_law_name", 1), ("_law_rows", 2)] (G.comp true) G.calm G.nd (blkOk_by (by kernel_rfl)) (by walk_at "b") (ai_tup ?_)
        walk_at "ks"
        refine comp_nil ?_
        walk_at "ks"
        exact q
      | try1 =>
        unfold hD
        walk_at "r"
        walk_at "ks"
        refine ae_lc true [("_law_name", 1), ("_law_rows", 2)] (G.comp true) G.calm G.nd (blkOk_by (by kernel_rfl)) (by walk_at "b") (ai_tup ?_)
        walk_at "ks"
        walk_at "cb"
        walk_at "ks"
        walk_at "sb"
        walk_at "ks"
        refine comp_nil ?_
        walk_at "ks"
        exact q
      | try2 =>
        unfold hD
        walk_at "r"
        walk_at "ks"
        refine ae_lc true [("_law_name", 1), ("_law_rows", 2)] (G.comp true) G.calm G.nd (blkOk_by (by kernel_rfl)) (by walk_at "b") (ai_tup ?_)
        walk_at "ks"
        walk_at "cb"
        walk_at "ks"
        walk_at "sb"
        walk_at "ks"
        walk_at "cb"
        walk_at "ks"
        walk_at "sb"
        walk_at "ks"
        refine comp_nil ?_
        walk_at "ks"
        exact q
      | _ =>
        walk_at "r"
        walk_at "ks"
        exact q
    )) only [↓gate_rule]
theorem okVKL (Fn : Fun K "_law_value_kind" "_law_value_kind" tVK f fd) : FnOk P w K mg base (L2.CX P w) (k + 1) f fd ["_law_kind", "_law_heads_here"] (lift K spVKL) := by
  refine fnG (Ns := ["_law_kind", "_law_heads_here"]) Fn rfl rfl ⟨rfl, rfl, rfl, by decide +kernel, rfl, by decide +kernel, by decide +kernel⟩ (fun ds O QA EA h => ?_) (by decide) (fun cdv A outer s H E hr T ds O QA EA F h G => ?_)
  · obtain ⟨h, kd, x, _⟩ := h
    rw [x]; rfl
  obtain ⟨h, kd, x, eO, hk, q⟩ := h
  unfold lhD at x
  subst x eO
  cases hk <;> unfold Kd.enc <;> (walk_at "r") <;> (walk_at "ks") <;> exact q
theorem okFieldL (Fn : Fun K "_law_field" "_law_field" tField f fd) : FnOk P w K mg base (L2.CX P w) (k + 1) f fd ["_law_kind", "_law_name", "_law_heads_here", "_law_place"] (lift K spFieldL) := by
  refine gate ?_
  simp (disch := with_unfolding_all (
      refine fnG (Ns := ["_law_kind", "_law_name", "_law_heads_here", "_law_place", "_law_names", "_law_at"]) Fn rfl rfl ⟨rfl, rfl, rfl, by decide +kernel, rfl, by decide +kernel, by decide +kernel⟩ (fun ds O QA EA h => ?_) (by decide) (fun cdv A outer s H E hr T ds O QA EA F h G => ?_)
      · obtain ⟨h, b, s, p, x, _⟩ := h
        rw [x]; rfl
      obtain ⟨h, b, s, p, x, eO, hb, q⟩ := h
      unfold lhD at x
      subst x eO
      by_cases z1 : s = "x"
      · subst z1
        rcases hb with rfl | rfl <;> unfold Kd.enc <;> (walk_at "r") <;> (walk_at "ks") <;> refine at_ni ?_ rfl <;> (walk_at "ks") <;> refine inD_lst (l := ["x", "y"]) rfl ?_ <;> (walk_at "ks") <;> refine ae_index ?_ <;> (walk_at "ks") <;> refine ⟨⟨_, rfl⟩, ?_⟩ <;> (walk_at "ks") <;> refine ⟨_, ["x", "y"], "x", rfl, rfl, rfl, by decide +kernel, ?_⟩ <;> (walk_at "l") <;> exact q
      by_cases z2 : s = "y"
      · subst z2
        rcases hb with rfl | rfl <;> unfold Kd.enc <;> (walk_at "r") <;> (walk_at "ks") <;> refine at_ni ?_ rfl <;> (walk_at "ks") <;> refine inD_lst (l := ["x", "y"]) rfl ?_ <;> (walk_at "ks") <;> refine ae_index ?_ <;> (walk_at "ks") <;> refine ⟨⟨_, rfl⟩, ?_⟩ <;> (walk_at "ks") <;> refine ⟨_, ["x", "y"], "y", rfl, rfl, rfl, by decide +kernel, ?_⟩ <;> (walk_at "l") <;> exact q
      have e : fieldK s p = .error (.name s p) := by unfold fieldK; rw [if_neg z1, if_neg z2]
      rw [e] at q
      have z : ¬ s ∈ (["x", "y"] : List Str) := by simp only [List.mem_cons, List.not_mem_nil, or_false, not_or]; exact ⟨z1, z2⟩
      rcases hb with rfl | rfl <;> unfold Kd.enc <;> (walk_at "r") <;> (walk_at "ks") <;> refine at_ni ?_ rfl <;> (walk_at "ks") <;> refine inD_lst (l := ["x", "y"]) rfl (ite_ndt z ?_) <;> (walk_at "ks") <;> exact q
    )) only [↓gate_rule]
theorem okWantsL (B : Lib mg) (Fn : Fun K "_law_wants" "_law_wants" tWants f fd) : FnOk P w K mg base (L2.CX P w) (k + 1) f fd ["_law_event", "_law_dues", "_law_kinds"] (lift K spWantsL) := by
  refine gate ?_
  simp (disch := with_unfolding_all (
      refine fnGx (Ns := ["_law_event", "_law_dues", "_law_kinds", "_law_part", "_law_due_here"]) Fn rfl rfl ⟨rfl, rfl, rfl, by decide +kernel, rfl, by decide +kernel, by decide +kernel⟩ (fun ds O QA EA h => ?_) (by decide) (fun cdv A outer s H E hr ds O QA EA F h G => ?_)
      · obtain ⟨p, nd, bd, du, as, ks, KD, kr, x, _⟩ := h
        rw [x]; rfl
      obtain ⟨p, nd, bd, du, as, ks, KD, kr, x, eO, hdu, hKD, hks, q⟩ := h
      subst x eO
      walk_at "r"
      walk_at "ks"
      refine ai_zip rfl B.zip ?_ rfl
      walk_at "ks"
      refine ⟨_, _, .inl rfl, hdu, ?_⟩
      refine LoopA.inv (fun ds R O' => ∃ as' ks' o1 o2, ds = zips (atD as') (ks'.map Kd.enc) ∧ KdOk KD as' ∧ (∀ x ∈ ks', K6 x) ∧ needs as' ks' p = needs as ks p ∧ O' = [(kr, .dic KD)] ∧ R = ([("_law_event", some (.tup [.int (p : Nat), nd, .lst (atD as), bd])), ("_law_dues", some du), ("_law_kinds", some (.ref kr)), ("_law_part", o1), ("_law_due_here", o2)] : Rho)) (fun R O' h' => ?_) (fun d ds R O' h' => ?_) ⟨as, ks, none, none, rfl, hKD, hks, rfl, rfl, rfl⟩
      · obtain ⟨as', ks', o1, o2, e1, e2, e3, e4, rfl, rfl⟩ := h'
        have e5 : needs as ks p = none := by
          rw [← e4]
          cases as' with
          | nil => rfl
          | cons _ _ => cases ks' with
            | nil => rfl
            | cons _ _ => simp only [atD, List.map_cons, zips] at e1; cases e1
        rw [e5] at q
        walk_at "ks"
        exact ⟨_, .cons .head .nil, q⟩
      · obtain ⟨as', ks', o1, o2, e1, e2, e3, e4, rfl, rfl⟩ := h'
        cases as' with
        | nil => simp only [atD, List.map_nil, zips] at e1; cases e1
        | cons a1 as' =>
          cases ks' with
          | nil => simp only [atD, List.map_cons, List.map_nil, zips] at e1; cases e1
          | cons k1 ks' =>
            simp only [atD, List.map_cons, zips] at e1
            cases e1
            obtain ⟨ha, hg⟩ := e2 a1 List.mem_cons_self
            walk_at "ks"
            refine IxX.refI List.mem_cons_self hg ?_
            walk_at "ks"
            refine ⟨_, kd_eq ha (e3 k1 List.mem_cons_self), ?_⟩
            by_cases z : a1.kd = k1
            · refine ite_ndf z ?_
              walk_at "ks"
              exact ⟨as', ks', _, _, rfl, fun x hx => e2 x (List.mem_cons_of_mem _ hx), fun x hx => e3 x (List.mem_cons_of_mem _ hx), by rw [← e4]; simp only [needs, if_pos z], rfl, rfl⟩
            · refine ite_ndt z ?_
              have e5 : needs as ks p = some (.fit p a1.at_) := by rw [← e4]; simp only [needs, if_neg z]
              rw [e5] at q
              walk_at "ks"
              exact ⟨_, .cons .head .nil, q⟩
    )) only [↓gate_rule]
end
/-! S2: a node is spread into events. -/
open PySem.PyData (strOk)
abbrev tSpread : Stmt := top 32
def spSpread (n : Nat) : ASp := fun ds O Q _ => ∃ (d : D) (es : List Ex) (bs : Bds) (p : Nat) (fr : Addr) (xs : List D), ds = [d, .int (p : Nat), .ref fr] ∧ O = [(fr, .lst xs)] ∧ VwL d (Ex.encs es) bs.lists ∧ (∀ e ∈ es, ∃ m, m < n ∧ Wf m e) ∧ (∃ m, m < n ∧ WfB m bs) ∧ es.length ≤ 3 ∧ bs.len ≤ 3 ∧ xs.length + (evsOf d es bs p).length ≤ 50000 ∧ bs.sz ≤ 20000 ∧
  Q (.int ((p + (Ex.szs es + bs.sz + 1) : Nat) : Int)) [(fr, .lst (xs ++ evsOf d es bs p))]
theorem rll_refl {a : Addr} {d' : D} : ∀ {ds : List D}, RlL a d' ds ds
  | [] => .nil
  | _ :: _ => .cons .same rll_refl
theorem rll_last {a : Addr} {d' : D} : ∀ {ds : List D}, RlL a d' (ds ++ [.ref a]) (ds ++ [d'])
  | [] => .cons .here .nil
  | _ :: _ => .cons .same rll_last
theorem evss_cons {e : Ex} {es : List Ex} {p : Nat} : Ex.evss (e :: es) p = e.evs p ++ Ex.evss es (p + e.sz) := by simp only [Ex.evss]
theorem rwevs_cons {r : Rw} {rs : Rws} {p : Nat} : Rws.evs (.cons r rs) p = r.evs p ++ Rws.evs rs (p + r.sz) := by simp only [Rws.evs]
theorem bdevs_cons {b : Rws} {bs : Bds} {p : Nat} : Bds.evs (.cons b bs) p = .str "begin" :: (b.evs p ++ (.str "end" :: Bds.evs bs (p + b.sz))) := by simp only [Bds.evs]
section
variable {N : Ent} {Q : D → Os → Prop} {n p : Nat} {fr : Addr} {xs : List D} {O O2 : Os}
/-- an expression is spread -/
theorem c_spE {e : Ex} (hw : Wf n e) (t : Take fr (.lst xs) O O2) (hl : xs.length + (e.evs p).length ≤ 50000) (u : ∃ O3, U O fr (.lst xs) (.lst (xs ++ e.evs p)) O3 ∧ Q (.int ((p + e.sz : Nat) : Int)) O3) : CallS N (spSpread n) [e.enc, .int (p : Nat), .ref fr] O Q := by
  cases hw with
  | @mk m w ps h hp =>
  obtain ⟨O3, u, q⟩ := u
  rw [ex_evs] at u hl
  rw [enc_mk]
  refine ⟨[(fr, .lst xs)], .cons t .nil, _, ps, .nil, p, fr, xs, rfl, rfl, ex_vwl h, fun e he => ⟨m, Nat.lt_succ_self m, hp e he⟩, ⟨m, Nat.lt_succ_self m, .nil⟩, ok_len h, Nat.zero_le _, hl, Nat.zero_le _, O3, .step u .new, ?_⟩
  have e : Ex.szs ps + Bds.nil.sz + 1 = (Ex.mk w ps).sz := by simp only [Ex.sz, Bds.sz, Nat.add_zero]
  rw [e]
  exact q
theorem c_spR {r : Rw} (hw : WfR n r) (hz : r.sz ≤ 20000) (t : Take fr (.lst xs) O O2) (hl : xs.length + (r.evs p).length ≤ 50000) (u : ∃ O3, U O fr (.lst xs) (.lst (xs ++ r.evs p)) O3 ∧ Q (.int ((p + r.sz : Nat) : Int)) O3) : CallS N (spSpread n) [r.enc, .int (p : Nat), .ref fr] O Q := by
  cases hw with
  | @mk m w es bs h he hb =>
  obtain ⟨O3, u, q⟩ := u
  rw [rw_evs] at u hl
  have hl1 : es.length ≤ 3 := by
    cases w <;> first | exact Nat.le_trans (Nat.le_of_eq h.1) (by decide)
  refine ⟨[(fr, .lst xs)], .cons t .nil, _, es, bs, p, fr, xs, by simp only [Rw.enc], rfl, rw_vwl h, fun e h => ⟨m, Nat.lt_succ_self m, he e h⟩, ⟨m, Nat.lt_succ_self m, hb⟩, hl1, ok_bds h, hl, (by simp only [Rw.sz] at hz; omega), O3, .step u .new, ?_⟩
  have e : Ex.szs es + bs.sz + 1 = (Rw.mk w es bs).sz := by simp only [Rw.sz]
  rw [e]
  exact q
end
section
variable {P : Program} {w : World} {K : PySem.W.Frag} {mg : Str → Option Value} {base : Heap} {f : Addr} {fd : FuncData} {k : Nat}
theorem okSpread {n : Nat} (B : Lib mg) (g1 : FnA P w K mg base k "_law_inner" spInnerL) (g2 : FnA P w K mg base k "_law_groups" spGroupsL) (g3 : FnA P w K mg base k "_law_spread" (spSpread n)) (Fn : Fun K "_law_spread" "_law_spread" tSpread f fd) : FnOk P w K mg base (L2.CX P w) (k + 1) f fd ["_law_node", "_law_place", "_law_found"] (lift K (spSpread (n + 1))) := by
  refine gate ?_
  simp (disch := with_unfolding_all (
      refine fnGx (Ns := ["_law_node", "_law_place", "_law_found", "_law_at", "_law_parts", "_law_part", "_law_bodies", "_law_rows", "_law_row_here"]) Fn rfl rfl ⟨rfl, rfl, rfl, by decide +kernel, rfl, by decide +kernel, by decide +kernel⟩ (fun ds O QA EA h => ?_) (by decide) (fun cdv A outer s H E hr ds O QA EA F h G => ?_)
      · obtain ⟨d, es, bs, p, fr, xs, x, _⟩ := h
        rw [x]; rfl
      obtain ⟨d, es, bs, p, fr, xs, x, eO, hv, he0, ⟨mb, hmb, hb0⟩, hl1, hl2, hl, hz, q⟩ := h
      have he : ∀ e ∈ es, Wf n e := fun e h => let ⟨m, hm, w⟩ := he0 e h; w.le (by omega)
      have hb : WfB n bs := hb0.le (by omega)
      subst x eO
      unfold evsOf at hl q
      rw [List.length_append, List.length_append] at hl
      walk_at "r"
      walk_at "ks"
      refine ae_lstm ?_
      walk_at "ks"
      intro t1
      walk_at "ks"
      refine ai_tup ?_
      walk_at "ks"
      refine calls_0 ⟨d, _, _, rfl, rfl, hv, _, pk_nil, ?_⟩
      walk_at "ks"
      refine LoopA.inv (fun ds R O' => ∃ (rest : List Ex) (done : List D) (qc : Nat) (xc : List D) (o1 : Option D), ds = Ex.encs rest ∧ (∀ e ∈ rest, Wf n e) ∧ done ++ plE rest qc = plE es (p + 1) ∧ xc ++ Ex.evss rest qc = xs ++ Ex.evss es (p + 1) ∧ qc + Ex.szs rest = p + 1 + Ex.szs es ∧ done.length + rest.length ≤ 3 ∧ O' = [(t1, .lst done), (fr, .lst xc)] ∧ R = ([("_law_node", some d), ("_law_place", some (.int (p : Nat))), ("_law_found", some (.ref fr)), ("_law_at", some (.int (qc : Nat))), ("_law_parts", some (.ref t1)), ("_law_part", o1), ("_law_bodies", none), ("_law_rows", none), ("_law_row_here", none)] : Rho)) (fun R O' h' => ?_) (fun dd ds R O' h' => ?_) ⟨es, [], p + 1, xs, none, rfl, he, rfl, rfl, rfl, by simp only [List.length_nil]; omega, rfl, rfl⟩
      · obtain ⟨rest, done, qc, xc, o1, e1, _, e2, e3, e4, _, rfl, rfl⟩ := h'
        obtain rfl := encs_inv e1.symm
        simp only [plE, List.append_nil] at e2
        simp only [Ex.evss, List.append_nil] at e3
        simp only [Ex.szs, Nat.add_zero] at e4
        subst e2
        walk_at "ks"
        refine ae_lstm ?_
        walk_at "ks"
        intro t2
        walk_at "ks"
        refine ai_tup ?_
        walk_at "ks"
        refine calls_0 ⟨d, _, _, rfl, rfl, hv, _, pk_nil, ?_⟩
        walk_at "ks"
        rw [lists_encs]
        refine LoopA.inv (fun ds R O' => ∃ (rest : Bds) (doneB : List D) (qb : Nat) (xb : List D) (o1 o2 o3 : Option D), ds = Bds.encs rest ∧ WfB n rest ∧ doneB ++ plB rest qb = plB bs (p + 1 + Ex.szs es) ∧ xb ++ Bds.evs rest qb = xs ++ Ex.evss es (p + 1) ++ Bds.evs bs (p + 1 + Ex.szs es) ∧ qb + rest.sz = p + 1 + Ex.szs es + bs.sz ∧ doneB.length + rest.len ≤ 3 ∧ rest.sz ≤ 20000 ∧ O' = [(t2, .lst doneB), (t1, .lst (plE es (p + 1))), (fr, .lst xb)] ∧ R = ([("_law_node", some d), ("_law_place", some (.int (p : Nat))), ("_law_found", some (.ref fr)), ("_law_at", some (.int (qb : Nat))), ("_law_parts", some (.ref t1)), ("_law_part", o1), ("_law_bodies", some (.ref t2)), ("_law_rows", o2), ("_law_row_here", o3)] : Rho)) (fun R O' h' => ?_) (fun dd ds R O' h' => ?_) ⟨bs, [], p + 1 + Ex.szs es, xs ++ Ex.evss es (p + 1), o1, none, none, rfl, hb, rfl, by rw [List.append_assoc], rfl, by simp only [List.length_nil]; omega, hz, by rw [e3], by rw [e4]⟩
        · obtain ⟨rest, doneB, qb, xb, o1, o2, o3, f1, _, f2, f3, f4, _, _, rfl, rfl⟩ := h'
          have f5 : rest = .nil := by
            cases rest with
            | nil => rfl
            | cons b bs => simp only [Bds.encs] at f1; cases f1
          subst f5
          simp only [plB, List.append_nil] at f2
          simp only [Bds.evs, List.append_nil] at f3
          simp only [Bds.sz, Nat.add_zero] at f4
          subst f2 f3 f4
          refine' ab_still Take.head (.cons .same (.cons .same .nil)) ?rr ?_
          (case rr => walk_at "zr")
          refine' ab_still Take.head (.cons .same .nil) ?rr ?_
          (case rr => walk_at "zr")
          dsimp only [MO.d]
          have hxl : (xs ++ Ex.evss es (p + 1) ++ Bds.evs bs (p + 1 + Ex.szs es)).length ≤ 100000 := by
            rw [List.length_append, List.length_append]; omega
          walk_at "ks"
          refine ⟨_, .cons .head .nil, ?_⟩
          have e6 : p + 1 + Ex.szs es + bs.sz = p + (Ex.szs es + bs.sz + 1) := by omega
          rw [e6, List.append_assoc, List.append_assoc, ← List.append_assoc (Ex.evss es (p + 1))]
          exact q
        · obtain ⟨rest, doneB, qb, xb, o1, o2, o3, f1, f0, f2, f3, f4, f5, f6, rfl, rfl⟩ := h'
          cases rest with
          | nil => simp only [Bds.encs] at f1; cases f1
          | cons b rest' =>
          simp only [Bds.encs] at f1
          cases f1
          have hwb : WfS n b := by cases f0 with | cons h1 h2 => exact h1
          have hwr : WfB n rest' := by cases f0 with | cons h1 h2 => exact h2
          simp only [Bds.len] at f5
          simp only [Bds.sz] at f6 f4
          rw [bdevs_cons] at f3
          have f7 := congrArg List.length f3
          simp only [List.length_append, List.length_cons] at f7
          have hxb : xb.length ≤ 50000 := by omega
          walk_at "ks"
          refine ae_lstm ?_
          walk_at "ks"
          intro u
          walk_at "ks"
          refine ai_tup ?_
          walk_at "ks"
          refine LoopA.inv (fun ds R O' => ∃ (rest2 : Rws) (done2 : List D) (q2 : Nat) (x2 : List D) (o4 : Option D), ds = Rws.encs rest2 ∧ WfS n rest2 ∧ done2 ++ plR rest2 q2 = plR b qb ∧ x2 ++ Rws.evs rest2 q2 = (xb ++ [.str "begin"]) ++ b.evs qb ∧ q2 + rest2.sz = qb + b.sz ∧ done2.length + rest2.len ≤ 20000 ∧ rest2.sz ≤ 20000 ∧ O' = [(u, .lst done2), (t2, .lst (doneB ++ [.ref u])), (t1, .lst (plE es (p + 1))), (fr, .lst x2)] ∧ R = ([("_law_node", some d), ("_law_place", some (.int (p : Nat))), ("_law_found", some (.ref fr)), ("_law_at", some (.int (q2 : Nat))), ("_law_parts", some (.ref t1)), ("_law_part", o1), ("_law_bodies", some (.ref t2)), ("_law_rows", some (.tup (Rws.encs b))), ("_law_row_here", o4)] : Rho)) (fun R O' h' => ?_) (fun dd ds R O' h' => ?_) ⟨b, [], qb, xb ++ [.str "begin"], o3, rfl, hwb, rfl, rfl, rfl, by have := len_sz b; simp only [List.length_nil]; omega, by omega, rfl, rfl⟩
          · obtain ⟨rest2, done2, q2, x2, o4, g1, _, g2, g3, g4, _, _, rfl, rfl⟩ := h'
            obtain rfl := rws_inv g1.symm
            simp only [plR, List.append_nil] at g2
            simp only [Rws.evs, List.append_nil] at g3
            simp only [Rws.sz, Nat.add_zero] at g4
            subst g2 g3 g4
            refine' ab_still Take.head (.cons (.lst rll_last) (.cons .same (.cons .same .nil))) ?rr ?_
            (case rr => walk_at "zr")
            dsimp only [MO.d]
            have hxl : ((xb ++ [D.str "begin"]) ++ b.evs qb).length ≤ 100000 := by
              simp only [List.length_append, List.length_cons, List.length_nil]; omega
            walk_at "ks"
            refine ⟨rest', doneB ++ [.lst (plR b qb)], qb + b.sz, _, _, _, _, rfl, hwr, ?_, ?_, by omega, by simp only [List.length_append, List.length_cons, List.length_nil]; omega, by omega, rfl, rfl⟩
            · rw [List.append_assoc]; exact f2
            · rw [← f3]; simp only [List.append_assoc, List.cons_append, List.nil_append]
          · obtain ⟨rest2, done2, q2, x2, o4, g1, g0, g2, g3, g4, g5, g6, rfl, rfl⟩ := h'
            obtain ⟨r, rest3, rfl, rfl, rfl⟩ := rws_inv2 g1
            have hwr1 : WfR n r := by cases g0 with | cons h1 h2 => exact h1
            have hwr2 : WfS n rest3 := by cases g0 with | cons h1 h2 => exact h2
            rw [rwsz_cons] at g4 g6
            simp only [Rws.len] at g5
            rw [rwevs_cons] at g3
            have g7 := congrArg List.length g3
            simp only [List.length_append, List.length_cons, List.length_nil] at g7
            walk_at "ks"
            refine IxX.lref (List.mem_cons_of_mem _ List.mem_cons_self) (atI_last _ _) ?_
            walk_at "ks"
            refine c_spR hwr1 (by omega) (.tail (.tail (.tail .head))) (by omega) ⟨_, .tail (.tail (.tail .head)), ?_⟩
            walk_at "ks"
            refine ⟨rest3, done2 ++ [.int (q2 : Nat)], q2 + r.sz, x2 ++ r.evs q2, _, rfl, hwr2, ?_, ?_, by omega, by simp only [List.length_append, List.length_cons, List.length_nil]; omega, by omega, rfl, rfl⟩
            · rw [List.append_assoc]; exact g2
            · rw [List.append_assoc]; exact g3
      · obtain ⟨rest, done, qc, xc, o1, e1, e0, e2, e3, e4, e5, rfl, rfl⟩ := h'
        obtain ⟨e, rest', rfl, rfl, rfl⟩ := encs_inv2 e1
        rw [encs_szs] at e4
        simp only [List.length_cons] at e5
        rw [evss_cons] at e3
        have e7 := congrArg List.length e3
        simp only [List.length_append] at e7
        walk_at "ks"
        refine c_spE (e0 e List.mem_cons_self) (.tail .head) (by omega) ⟨_, .tail .head, ?_⟩
        walk_at "ks"
        refine ⟨rest', done ++ [.int (qc : Nat)], qc + e.sz, xc ++ e.evs qc, _, rfl, fun y hy => e0 y (List.mem_cons_of_mem _ hy), ?_, ?_, by omega, by simp only [List.length_append, List.length_cons, List.length_nil]; omega, rfl, rfl⟩
        · rw [List.append_assoc]; exact e2
        · rw [List.append_assoc]; exact e3
    )) only [↓gate_rule]
end
/-! A28: small words for the law's side. -/
open PySem.PyData (strOk)
theorem U.self {O : Os} {a : Addr} {m : MO} (h : (a, m) ∈ O) : U O a m m O := by
  induction O with
  | nil => cases h
  | cons p O ih =>
    rcases List.mem_cons.mp h with e | h
    · subst e; exact .head
    · exact .tail (ih h)
theorem take_mem {O : Os} {a : Addr} {m : MO} (h : (a, m) ∈ O) : ∃ O', Take a m O O' := by
  induction O with
  | nil => cases h
  | cons p O ih =>
    rcases List.mem_cons.mp h with e | h
    · subst e; exact ⟨_, .head⟩
    · obtain ⟨O', t⟩ := ih h; exact ⟨_, .tail t⟩
theorem take_ne {O O' : Os} {a b : Addr} {m n : MO} (t : Take a m O O') (h : (b, n) ∈ O) (ne : b ≠ a) : (b, n) ∈ O' := by
  induction t with
  | head =>
    rcases List.mem_cons.mp h with e | h
    · cases e; exact absurd rfl ne
    · exact h
  | tail _ ih =>
    rcases List.mem_cons.mp h with e | h
    · subst e; exact List.mem_cons_self
    · exact List.mem_cons_of_mem _ (ih h)
theorem IxX.tup1 {O : Os} {x y : D} {ds : List D} {P : D → Prop} (q : P y) : IxX O (.tup (x :: y :: ds)) (.int 1) P := .tup (show atI (x :: y :: ds) ((1 : Nat) : Int) = some y from atI_nat rfl) q
theorem IxX.tup2 {O : Os} {x y z : D} {ds : List D} {P : D → Prop} (q : P z) : IxX O (.tup (x :: y :: z :: ds)) (.int 2) P := .tup (show atI (x :: y :: z :: ds) ((2 : Nat) : Int) = some z from atI_nat rfl) q
section
variable {X : Cx} {N : Ent} {R : Rho} {O : Os} {a b k v : Expr} {ks : List (Option Expr)} {vs : List Expr} {es : List Expr} {pos pos2 : Pos}
theorem aps_nil {Q : List (D × D) → Os → Prop} (q : Q [] O) : APs X N [] [] R O Q := q
theorem aps_cons {Q : List (D × D) → Os → Prop} (h : AE X N k R O fun dk O1 => AE X N v R O1 fun dv O2 => APs X N ks vs R O2 fun ps O3 => Q ((dk, dv) :: ps) O3) : APs X N (some k :: ks) (v :: vs) R O Q := h
theorem ae_repT {Q : D → Os → Prop} (h : AE X N (.List es pos2) R O fun d1 O1 => AE X N b R O1 fun d2 O2 => ∃ x i, d1 = .lst [x] ∧ d2 = .int i ∧ (-1000 ≤ i ∧ i ≤ 1000) ∧ Q (.lst (List.replicate i.toNat x)) O2) : AE X N (.BinOp (.List es pos2) .Mult b pos) R O Q := ae_rep h
end
theorem er_tup (er : Er) : ∃ x xs, er.tup = .tup (x :: xs) := by cases er <;> exact ⟨_, _, rfl⟩
/-- what the law finds of a node -/
def found (h : Hd) (ns : Nm) (p : Nat) : EW → List As → Except Er Rk
  | .num _, _ => .ok ⟨"", .non, .num⟩
  | .truth _, _ => .ok ⟨"", .non, .truth⟩
  | .name s, _ => match lookN ns s with
    | none => .error (.name s p)
    | some k => .ok ⟨"", .non, k.1⟩
  | .two o, as => reckon h p (.two o) as
  | .one o, as => reckon h p (.one o) as
  | .call o, as => reckon h p (.call o) as
  | .new o, as => reckon h p (.new o) as
  | .row, as => reckon h p .row as
  | .field o, as => reckon h p (.field o) as
  | .index, as => reckon h p .index as
/-- what the law tells of a node -/
def tellD (w : EW) (as : List As) (r : Rk) : D := match w with
  | .num n => .tup [.str "const", .tup [.str "num", .int n]]
  | .truth n => .tup [.str "const", .tup [.str "truth", .bl n]]
  | .name s => .tup [.str "local", .str s, vk r.kd]
  | w => finD w as r
theorem ask_found {h : Hd} {ns : Nm} {w : EW} {ps : List Ex} {p : Nat} (hw : w.ok ps.length) : (Ex.mk w ps).ask h ns p = (Ex.asks h ns ps (p + 1)).bind fun as => (found h ns p w as).bind fun r => .ok ⟨tellD w as r, r.kd, p⟩ := by
  cases w with
  | num n => obtain rfl := List.length_eq_zero_iff.mp hw; simp only [Ex.ask, asks_nil]; rfl
  | truth n => obtain rfl := List.length_eq_zero_iff.mp hw; simp only [Ex.ask, asks_nil]; rfl
  | name s =>
    obtain rfl := List.length_eq_zero_iff.mp hw.1
    simp only [Ex.ask, asks_nil]
    simp only [found]
    cases lookN ns s <;> rfl
  | two o => rw [ask_op rfl]; rfl
  | one o => rw [ask_op rfl]; rfl
  | call o => rw [ask_op rfl]; rfl
  | new o => rw [ask_op rfl]; rfl
  | row => rw [ask_op rfl]; rfl
  | field o => rw [ask_op rfl]; rfl
  | index => rw [ask_op rfl]; rfl
theorem found_kd {h : Hd} {ns : Nm} {w : EW} {as : List As} {p : Nat} {r : Rk} (hn : NmOk ns) (hw : w.ok as.length) (e : found h ns p w as = .ok r) : K6 r.kd := by
  cases w with
  | num n => cases e; exact .num
  | truth n => cases e; exact .truth
  | name s =>
    simp only [found] at e
    split at e
    · cases e
    · rename_i k hk
      cases e; exact lookN_ok hn hk
  | two o => exact reckon_kd (h := h) hw e
  | one o => exact reckon_kd (h := h) hw e
  | call o => exact reckon_kd (h := h) hw e
  | new o => exact reckon_kd (h := h) hw e
  | row => exact reckon_kd (h := h) hw e
  | field o => exact reckon_kd (h := h) hw e
  | index => exact reckon_kd (h := h) hw e
def wordsL : List (Key × D) := [(.inr "+", .str "add"), (.inr "-", .str "sub"), (.inr "*", .str "mul"), (.inr "/", .str "div"), (.inr "<", .str "less"), (.inr "=", .str "same")]
theorem words_get {s : Str} (h : s ∈ ops9) : (getA wordsL (.inr s)).getD (.str s) = .str (op2 s) := by
  unfold ops9 at h
  simp only [List.mem_cons, List.not_mem_nil, or_false] at h
  rcases h with rfl | rfl | rfl | rfl | rfl | rfl | rfl | rfl | rfl <;> rfl
theorem op2_ok {s : Str} (h : s ∈ ops9) : strOk (op2 s) = true := (by decide +kernel : ∀ s ∈ ops9, strOk (op2 s) = true) s h
theorem words_merge : mergeA [] wordsL = wordsL := rfl
theorem words_i {t : Addr} {O : Os} {P : Os → Prop} (h : P ((t, .dic wordsL) :: O)) : ∃ (kvs kvs' : List (Key × D)) (O2 : Os), [(D.str "+", D.str "add"), (D.str "-", D.str "sub"), (D.str "*", D.str "mul"), (D.str "/", D.str "div"), (D.str "<", D.str "less"), (D.str "=", D.str "same")] = kvs.map (fun kv => (keyD kv.1, kv.2)) ∧ kvs.length ≤ 15 ∧ mergeA [] kvs = kvs' ∧ U ((t, .dic []) :: O) t (.dic []) (.dic kvs') O2 ∧ P O2 :=
  ⟨wordsL, wordsL, _, rfl, by decide, words_merge, .head, h⟩
theorem words_g {t : Addr} {O : Os} {s : Str} {P : Option D → Prop} (h : P (getA wordsL (.inr s))) : ∃ r, dgD ((t, .dic wordsL) :: O) (.ref t) (.str s) r ∧ P r :=
  ⟨_, ⟨wordsL, .inr s, .inr ⟨t, rfl, List.mem_cons_self⟩, rfl, rfl⟩, h⟩
theorem words_neg : (getA wordsL (.inr "-")).getD (.str "-") = .str "sub" := rfl
theorem words_not : (getA wordsL (.inr "not")).getD (.str "not") = .str "not" := rfl
end
section
local macro_rules | `(tactic| walk_at "nBin") => `(tactic| (with_reducible refine ae_repT ?_))
local macro_rules | `(tactic| walk_at "nT") => `(tactic| ((with_reducible refine' at_niTT ?un ?_ ?hm); (case un => walk_at "gu"); (case hm => rfl)))
local macro_rules | `(tactic| walk_at "nS") => `(tactic| first
  | ((with_reducible refine' as_dputT ?un ?_ ?hs); (case un => walk_at "gu"); (case hs => with_unfolding_all rfl))
  | ((with_reducible refine' as_dput ?un ?_ ?hs); (case un => walk_at "gu"); (case hs => with_unfolding_all rfl))
  | ((with_reducible refine' as_fld ?_ ?hs); (case hs => with_unfolding_all rfl)))
local macro_rules | `(tactic| walk_at "nE") => `(tactic| first
  | ((with_reducible refine' ae_n ?g ?_); (case g => walk_at "g"))
  | ((with_reducible refine' ae_gm ?g ?hg ?_); (case g => assumption); (case hg => with_unfolding_all rfl))
  | ((with_reducible refine' ae_niTup ?_ ?hm); (case hm => rfl))
  | ((with_reducible refine' ae_inTup ?_ ?hm); (case hm => rfl)))
local macro_rules | `(tactic| walk_at "nSub") => `(tactic| first
  | (with_reducible refine ae_sl ?_)
  | ((with_reducible refine' ae_two ?T ?hg ?_ ?hs); (case T => assumption); (case hg => with_unfolding_all rfl); (case hs => exact fun _ _ => rfl))
  | ((with_reducible refine' ae_ixX ?un ?_ ?hs); (case un => walk_at "gu"); (case hs => exact fun _ _ => rfl)))
local macro_rules | `(tactic| walk_at "nR") => `(tactic| first
  | (with_reducible refine IxX.tup0 ?_)
  | (with_reducible refine IxX.tup1 ?_)
  | (with_reducible refine IxX.tup2 ?_)
  | (with_reducible refine aps_cons ?_)
  | (with_reducible refine aps_nil ?_)
  | ((with_reducible refine' sl_2n ?e ?_); (case e => decide))
  | ((with_reducible refine' sl_3n ?e ?_); (case e => decide))
  | ((with_reducible refine' sl_1n ?e ?_); (case e => decide))
  | ((with_reducible refine' sl_n1 ?e ?_); (case e => decide))
  | ((with_reducible refine' sl_n2 ?e ?_); (case e => decide))
  | ((with_reducible refine' IxX.tup ?h ?_); (case h => rfl))
  | ((with_reducible refine' IxX.lst ?h ?_); (case h => rfl))
  | ((with_reducible refine' IxX.dicS ?h ?_); (case h => rfl))
  | ((with_reducible refine' AddX.tup ?c ?_); (case c => exact Nat.le_of_ble_eq_true rfl)))
local macro_rules | `(tactic| walk_at "sl") => `(tactic| repeat (first | (with_reducible exact Sel.nil) | ((with_reducible apply Sel.cons); (focus (repeat (first | (with_reducible exact Take.head) | (with_reducible apply Take.tail)))))))
local macro_rules | `(tactic| walk_at "disp") => `(tactic| ((with_reducible refine' ae_disp ?_ ?hall ?hl ?h0 ?h15); (case hall => rfl); (case hl => rfl); (case h0 => exact List.cons_ne_nil _ _); (case h15 => exact Nat.le_of_ble_eq_true rfl)))
local macro_rules | `(tactic| walk_at "din") => `(tactic| ((with_reducible refine' at_din ?un ?_ ?hm); (case un => walk_at "gu"); (case hm => rfl)))
local macro_rules | `(tactic| walk_at "dni") => `(tactic| ((with_reducible refine' at_dni ?un ?_ ?hm); (case un => walk_at "gu"); (case hm => rfl)))
local macro_rules | `(tactic| walk_at "or") => `(tactic| (with_reducible refine ae_or ?_))
local macro_rules | `(tactic| walk_at "get") => `(tactic| ((with_reducible refine' ae_dgetOr ?un ?_ ?m); (case un => walk_at "gu"); (case m => exact ⟨rfl, rfl, rfl, rfl⟩)))
local macro_rules | `(tactic| walk_at "dnew") => `(tactic| (with_reducible refine ae_dnew ?_))
local macro_rules | `(tactic| walk_at "inr") => `(tactic| ((with_reducible refine' at_inR ?_ ?hm); (case hm => rfl)))
/-! S3: what the law finds of a node. -/
open PySem.PyData (strOk)
abbrev tCalled : Stmt := top 36
abbrev tAsked : Stmt := top 37
abbrev tTold : Stmt := top 38
def spCalledL : ASp := fun ds O Q _ => ∃ (h : Hd) (p : Nat) (wd s : Str) (pds : List D) (bd : D) (as : List As) (KD : List (Key × D)) (kr : Addr), ds = [.tup [.int (p : Nat), .tup [.str wd, .str s, .tup pds], .lst (atD as), bd], lhD h, .ref kr] ∧ O = [(kr, .dic KD)] ∧ pds.length = as.length ∧ KdOk KD as ∧
  ((wd = "call" ∧ Rz (reckon h p (.call s) as) (fun r => Q (.lst [r.kd.enc, .str r.op, r.extra]) O) (fun er => Q er.tup O)) ∨ (wd = "new" ∧ (s = "pair" ∨ s = "twin") ∧ Rz (reckon h p (.new s) as) (fun r => Q (.lst [r.kd.enc, .str r.op, r.extra]) O) (fun er => Q er.tup O)))
def spAskedL : ASp := fun ds O Q _ => ∃ (h : Hd) (ns : Nm) (p : Nat) (w : EW) (pds : List D) (as : List As) (KD : List (Key × D)) (nr kr : Addr), ds = [.tup [.int (p : Nat), w.enc pds, .lst (atD as), .lst []], .ref nr, lhD h, .ref kr] ∧ O = [(nr, .dic (encNm ns)), (kr, .dic KD)] ∧ w.ok as.length ∧ pds.length = as.length ∧ KdOk KD as ∧
  Rz (found h ns p w as) (fun r => Q (.lst [r.kd.enc, .str r.op, r.extra]) O) (fun er => Q er.tup O)
def spToldL : ASp := fun ds O Q _ => ∃ (h : Hd) (p : Nat) (w : EW) (pds : List D) (as : List As) (r : Rk) (TD : List (Key × D)) (tr : Addr), ds = [.tup [.int (p : Nat), w.enc pds, .lst (atD as), .lst []], .lst [r.kd.enc, .str r.op, r.extra], lhD h, .ref tr] ∧ O = [(tr, .dic TD)] ∧ w.ok as.length ∧ pds.length = as.length ∧ strOk r.op = true ∧ K6 r.kd ∧ TdOk TD as ∧ Q (tellD w as r) O
section
variable {N : Ent} {Q : D → Os → Prop} {O : Os} {kr : Addr} {KD : List (Key × D)}
theorem c_wants {p : Nat} {nd bd du : D} {as : List As} {ks : List Kd} (hm : (kr, .dic KD) ∈ O) (hdu : du = .lst (ks.map Kd.enc) ∨ du = .tup (ks.map Kd.enc)) (hKD : KdOk KD as) (hks : ∀ k ∈ ks, K6 k) (h1 : needs as ks p = none → Q .non O) (h2 : ∀ er, needs as ks p = some er → Q er.tup O) :
    CallS N spWantsL [.tup [.int (p : Nat), nd, .lst (atD as), bd], du, .ref kr] O Q := by
  obtain ⟨O', t⟩ := take_mem hm
  refine ⟨_, .cons t .nil, p, nd, bd, du, as, ks, KD, kr, rfl, rfl, hdu, hKD, hks, ?_⟩
  cases e : needs as ks p with
  | none => exact ⟨O, .step (U.self hm) .new, h1 e⟩
  | some er => exact ⟨O, .step (U.self hm) .new, h2 er e⟩
theorem c_fieldL {h : Hd} {b s : Str} {p : Nat} (hb : b = "pair" ∨ b = "twin") (h1 : ∀ x, fieldK s p = .ok x → Q (.lst [x.2.enc, .str "get", .int (x.1 : Nat)]) O) (h2 : ∀ er, fieldK s p = .error er → Q er.tup O) : CallS N spFieldL [Kd.enc (.named b), .str s, lhD h, .int (p : Nat)] O Q :=
  calls_0 ⟨h, b, s, p, rfl, rfl, hb, rz_mk (fun _ z => ⟨_, pk_nil, h1 _ z⟩) (fun _ z => ⟨_, pk_nil, h2 _ z⟩)⟩
theorem c_vkl {h : Hd} {k : Kd} (hk : K6 k) (z : Q (vk k) O) : CallS N spVKL [k.enc, lhD h] O Q := calls_0 ⟨h, k, rfl, rfl, hk, _, pk_nil, z⟩
end
theorem or_non {A B : Prop} (h : A) : (D.non = .non ∧ A) ∨ ∃ x ds, D.non = .tup (x :: ds) ∧ B := .inl ⟨rfl, h⟩
theorem or_er {A : Prop} {er : Er} {P : Prop} (h : P) : (er.tup = .non ∧ A) ∨ ∃ x ds, er.tup = .tup (x :: ds) ∧ P := by
  obtain ⟨x, xs, e⟩ := er_tup er
  exact .inr ⟨x, xs, e, h⟩
theorem needs_rep {as : List As} {k : Kd} {p m : Nat} (h : as.length ≤ m) : needs as (List.replicate m k) p = dueK as k p := by
  induction as generalizing m with
  | nil => rfl
  | cons a as ih =>
    cases m with
    | zero => cases h
    | succ m =>
      simp only [List.replicate_succ, needs, dueK, ih (Nat.le_of_succ_le_succ h)]
theorem called_split {as : List As} {w : List Kd × Kd × Nat} {p : Nat} {ok : Rk → Prop} {bad : Er → Prop} (h : Rz (called as w p) ok bad) : (as.length ≠ w.1.length → bad (.fit w.2.2 p)) ∧ (as.length = w.1.length → Rz (thenE (needs as w.1 p) ⟨"make", .non, w.2.1⟩) ok bad) := by
  unfold called at h
  constructor
  · intro z; rw [if_neg z] at h; exact h
  · intro z; rw [if_pos z] at h; exact h
section
variable {P : Program} {w : World} {K : PySem.W.Frag} {mg : Str → Option Value} {base : Heap} {f : Addr} {fd : FuncData} {k : Nat}
theorem okCalledL (B : Lib mg) (g1 : FnA P w K mg base k "_law_wants" spWantsL) (Fn : Fun K "_law_called" "_law_called" tCalled f fd) : FnOk P w K mg base (L2.CX P w) (k + 1) f fd ["_law_event", "_law_heads_here", "_law_kinds"] (lift K spCalledL) := by
  refine gate ?_
  simp (disch := with_unfolding_all (
      refine fnG (Ns := ["_law_event", "_law_heads_here", "_law_kinds", "_law_place", "_law_node", "_law_wanted", "_law_result", "_law_first"]) Fn rfl rfl ⟨rfl, rfl, rfl, by decide +kernel, rfl, by decide +kernel, by decide +kernel⟩ (fun ds O QA EA h => ?_) (by decide) (fun cdv A outer s H E hr T ds O QA EA F h G => ?_)
      · obtain ⟨h, p, wd, s, pds, bd, as, KD, kr, x, _⟩ := h
        rw [x]; rfl
      obtain ⟨h, p, wd, s, pds, bd, as, KD, kr, x, eO, hl, hKD, ⟨rfl, q⟩ | ⟨rfl, hs, q⟩⟩ := h
      · unfold lhD at x
        subst x eO
        simp only [reckon] at q
        walk_at "r"
        walk_at "ks"
        walk_at "dni"
        walk_at "ks"
        by_cases z1 : s = "main"
        · subst z1
          refine dgo_str (o := some _) rfl ?_
          refine ite_nt ?_
          replace q : Rz (called as ([.num, .truth, .row 2, .named "pair"], .num, h.pm) p) _ _ := q
          have hk2 := (wantC_kd (h := h) (f := "main") rfl).2
          obtain ⟨c1, c2⟩ := called_split q
          walk_at "ks"
          refine ite_ni (fun z => ?_) (fun z => ?_)
          · walk_at "ks"
            exact c1 (fun y => z (by rw [hl, y]; rfl))
          obtain ⟨q1, q2⟩ := rz_then (c2 (show as.length = 4 by rw [← hl]; exact z.symm))
          walk_at "ks"
          walk_at "or"
          walk_at "ks"
          refine c_wants List.mem_cons_self (.inr rfl) hKD hk2 (fun z => or_non ?_) (fun er z => or_er (q2 er z))
          walk_at "l"
          exact q1 z
        by_cases z2 : s = "g"
        · subst z2
          refine dgo_str (o := some _) rfl ?_
          refine ite_nt ?_
          replace q : Rz (called as ([.named "pair", .num], .row 2, h.pg) p) _ _ := q
          have hk2 := (wantC_kd (h := h) (f := "g") rfl).2
          obtain ⟨c1, c2⟩ := called_split q
          walk_at "ks"
          refine ite_ni (fun z => ?_) (fun z => ?_)
          · walk_at "ks"
            exact c1 (fun y => z (by rw [hl, y]; rfl))
          obtain ⟨q1, q2⟩ := rz_then (c2 (show as.length = 2 by rw [← hl]; exact z.symm))
          walk_at "ks"
          walk_at "or"
          walk_at "ks"
          refine c_wants List.mem_cons_self (.inr rfl) hKD hk2 (fun z => or_non ?_) (fun er z => or_er (q2 er z))
          walk_at "l"
          exact q1 z
        have hw : wantC h s = none := by unfold wantC; rw [if_neg z1, if_neg z2]
        rw [hw] at q
        refine dgo_str (o := none) (getA_key2 (fun z => z1 (Sum.inr.inj z).symm) (fun z => z2 (Sum.inr.inj z).symm)) ?_
        refine ite_nf ?_
        walk_at "ks"
        exact q
      · unfold lhD at x
        subst x eO
        simp only [reckon] at q
        have hk2 := (wantN_kd hs).2
        walk_at "r"
        rcases hs with rfl | rfl
        all_goals
          walk_at "ks"
          walk_at "dni"
          walk_at "ks"
          refine dgo_str (o := some _) rfl ?_
          refine ite_nt ?_
          obtain ⟨c1, c2⟩ := called_split q
          walk_at "ks"
          refine ite_ni (fun z => ?_) (fun z => ?_)
          · walk_at "ks"
            exact c1 (fun y => z (by rw [hl, y]; rfl))
          obtain ⟨q1, q2⟩ := rz_then (c2 (show as.length = 2 by rw [← hl]; exact z.symm))
          walk_at "ks"
          walk_at "or"
          walk_at "ks"
          refine c_wants (ks := [.num, .truth]) List.mem_cons_self (.inr rfl) hKD hk2 (fun z => or_non ?_) (fun er z => or_er (q2 er z))
          walk_at "l"
          exact q1 z
    )) only [↓gate_rule]
theorem okAskedL (B : Lib mg) (g1 : FnA P w K mg base k "_law_wants" spWantsL) (g2 : FnA P w K mg base k "_law_called" spCalledL) (g3 : FnA P w K mg base k "_law_field" spFieldL) (Fn : Fun K "_law_asked" "_law_asked" tAsked f fd) : FnOk P w K mg base (L2.CX P w) (k + 1) f fd ["_law_event", "_law_names", "_law_heads_here", "_law_kinds"] (lift K spAskedL) := by
  refine gate ?_
  simp (disch := with_unfolding_all (
      refine fnGx (Ns := ["_law_event", "_law_names", "_law_heads_here", "_law_kinds", "_law_place", "_law_node", "_law_parts", "_law_bodies", "_law_num", "_law_truth", "_law_words", "_law_op", "_law_due_here"]) Fn rfl rfl ⟨rfl, rfl, rfl, by decide +kernel, rfl, by decide +kernel, by decide +kernel⟩ (fun ds O QA EA h => ?_) (by decide) (fun cdv A outer s H E hr ds O QA EA F h G => ?_)
      · obtain ⟨h, ns, p, w, pds, as, KD, nr, kr, x, _⟩ := h
        rw [x]; rfl
      obtain ⟨h, ns, p, w, pds, as, KD, nr, kr, x, eO, hwo, hl, hKD, q⟩ := h
      cases w with
      | num z =>
        unfold EW.enc at x
        subst x eO
        walk_at "r"
        walk_at "l"
        exact ⟨_, .cons .head (.cons .head .nil), q⟩
      | truth z =>
        unfold EW.enc at x
        subst x eO
        walk_at "r"
        walk_at "l"
        exact ⟨_, .cons .head (.cons .head .nil), q⟩
      | name s =>
        unfold EW.enc at x
        subst x eO
        simp only [found] at q
        walk_at "r"
        walk_at "ks"
        refine ae_if ?_
        walk_at "din"
        walk_at "ks"
        refine dgo_strR List.mem_cons_self getA_nm ?_
        cases hk : lookN ns s with
        | none =>
          rw [hk] at q
          refine ite_f ?_
          walk_at "ks"
          exact ⟨_, .cons .head (.cons .head .nil), q⟩
        | some kk =>
          rw [hk] at q
          refine ite_t ?_
          walk_at "l"
          refine IxX.refS List.mem_cons_self (getA_nm.trans (congrArg _ hk)) ?_
          walk_at "l"
          exact ⟨_, .cons .head (.cons .head .nil), q⟩
      | call s =>
        unfold EW.enc at x
        subst x eO
        walk_at "r"
        walk_at "ks"
        exact ⟨[(kr, .dic KD)], .cons (.tail .head) .nil, h, p, "call", s, pds, _, as, KD, kr, rfl, rfl, hl, hKD, .inl ⟨rfl, rz_imp q (fun _ _ z => ⟨_, .step (.tail .head) .new, _, .cons .head (.cons .head .nil), z⟩) (fun _ z => ⟨_, .step (.tail .head) .new, _, .cons .head (.cons .head .nil), z⟩)⟩⟩
      | new s =>
        unfold EW.enc at x
        subst x eO
        walk_at "r"
        walk_at "ks"
        exact ⟨[(kr, .dic KD)], .cons (.tail .head) .nil, h, p, "new", s, pds, _, as, KD, kr, rfl, rfl, hl, hKD, .inr ⟨rfl, hwo.2, rz_imp q (fun _ _ z => ⟨_, .step (.tail .head) .new, _, .cons .head (.cons .head .nil), z⟩) (fun _ z => ⟨_, .step (.tail .head) .new, _, .cons .head (.cons .head .nil), z⟩)⟩⟩
      | row =>
        unfold EW.enc at x
        subst x eO
        simp only [found, reckon] at q
        obtain ⟨q1, q2⟩ := rz_then q
        have hl3 : as.length ≤ 3 := by rcases hwo with z | z <;> omega
        have hla : (atD as).length = as.length := by unfold atD; rw [List.length_map]
        walk_at "r"
        walk_at "ks"
        walk_at "or"
        walk_at "l"
        refine ⟨_, _, rfl, rfl, ⟨by omega, by rw [hla]; omega⟩, ?_⟩
        walk_at "ks"
        refine c_wants (ks := List.replicate as.length .num) (List.mem_cons_of_mem _ List.mem_cons_self) (.inl ?_) hKD (fun k hk => by rw [(List.mem_replicate.mp hk).2]; exact .num) (fun z => or_non ?_) (fun er z => or_er ?_)
        · rw [hla, List.map_replicate, Int.toNat_natCast]; rfl
        · walk_at "l"
          rw [hla]
          exact ⟨_, .cons .head (.cons .head .nil), q1 (by rw [← needs_rep (Nat.le_refl _)]; exact z)⟩
        · exact ⟨_, .cons .head (.cons .head .nil), q2 er (by rw [← needs_rep (Nat.le_refl _)]; exact z)⟩
      | field s =>
        obtain ⟨a1, rfl⟩ := List.length_eq_one_iff.mp hwo.1
        obtain ⟨d1, rfl⟩ := List.length_eq_one_iff.mp hl
        unfold EW.enc at x
        subst x eO
        simp only [found, reckon] at q
        obtain ⟨k1, g1'⟩ := hKD a1 List.mem_cons_self
        walk_at "r"
        walk_at "ks"
        refine IxX.refI (List.mem_cons_of_mem _ List.mem_cons_self) g1' ?_
        rw [Kd.enc_wd]
        walk_at "l"
        refine ⟨_, eqP_str a1.kd.wd_ok (show strOk "named" = true by decide +kernel), ?_⟩
        by_cases z : a1.kd.wd = "named"
        · obtain ⟨b, eb, hb⟩ := named_of k1 z
          rw [if_pos (by rw [wd_named, decide_eq_true z])] at q
          have e9 : (!(a1.kd.wd == "named")) = false := by rw [z]; rfl
          rw [e9]
          refine ite_f ?_
          walk_at "ks"
          refine IxX.refI (List.mem_cons_of_mem _ List.mem_cons_self) g1' ?_
          rw [eb]
          walk_at "ks"
          refine c_fieldL hb (fun xx hx => ?_) (fun er hx => ?_)
          · rw [hx] at q
            exact ⟨_, .cons .head (.cons .head .nil), q⟩
          · rw [hx] at q
            exact ⟨_, .cons .head (.cons .head .nil), q⟩
        · rw [if_neg (by rw [wd_named, decide_eq_false z]; exact Bool.noConfusion)] at q
          have e9 : (!(a1.kd.wd == "named")) = true := by
            have : (a1.kd.wd == "named") = false := by simpa using z
            rw [this]; rfl
          rw [e9]
          refine ite_t ?_
          walk_at "ks"
          exact ⟨_, .cons .head (.cons .head .nil), q⟩
      | index =>
        obtain ⟨a1, a2, rfl⟩ := len2 hwo
        obtain ⟨d1, d2, rfl⟩ := len2 (hl.trans hwo)
        unfold EW.enc at x
        subst x eO
        simp only [found, reckon] at q
        obtain ⟨k1, g1'⟩ := hKD a1 List.mem_cons_self
        walk_at "r"
        walk_at "ks"
        refine IxX.refI (List.mem_cons_of_mem _ List.mem_cons_self) g1' ?_
        rw [Kd.enc_wd]
        walk_at "l"
        refine ⟨_, eqP_str a1.kd.wd_ok (show strOk "row" = true by decide +kernel), ?_⟩
        by_cases z : a1.kd.wd = "row"
        · rw [if_pos (by rw [wd_row, decide_eq_true z])] at q
          obtain ⟨q1, q2⟩ := rz_then q
          have e9 : (!(a1.kd.wd == "row")) = false := by rw [z]; rfl
          rw [e9]
          refine ite_f ?_
          walk_at "ks"
          walk_at "or"
          walk_at "l"
          refine IxX.refI (List.mem_cons_of_mem _ List.mem_cons_self) g1' ?_
          walk_at "l"
          have e8 : ∀ o, needs [a1, a2] [a1.kd, .num] p = o → dueK [a2] .num p = o := fun o h => by rw [← h]; simp only [needs, dueK, if_true]
          refine c_wants (ks := [a1.kd, .num]) (List.mem_cons_of_mem _ List.mem_cons_self) (.inl rfl) hKD (fun k hk => ?_) (fun z => or_non ?_) (fun er z => or_er ?_)
          · simp only [List.mem_cons, List.not_mem_nil, or_false] at hk
            rcases hk with rfl | rfl
            · exact k1
            · exact .num
          · walk_at "l"
            exact ⟨_, .cons .head (.cons .head .nil), q1 (e8 _ z)⟩
          · exact ⟨_, .cons .head (.cons .head .nil), q2 er (e8 _ z)⟩
        · rw [if_neg (by rw [wd_row, decide_eq_false z]; exact Bool.noConfusion)] at q
          have e9 : (!(a1.kd.wd == "row")) = true := by
            have : (a1.kd.wd == "row") = false := by simpa using z
            rw [this]; rfl
          rw [e9]
          refine ite_t ?_
          walk_at "ks"
          exact ⟨_, .cons .head (.cons .head .nil), q⟩
      | one o =>
        obtain ⟨a1, rfl⟩ := List.length_eq_one_iff.mp hwo.1
        obtain ⟨d1, rfl⟩ := List.length_eq_one_iff.mp hl
        unfold EW.enc at x
        subst x eO
        rcases hwo.2 with rfl | rfl
        · simp only [found, reckon] at q
          rw [if_neg (by decide +kernel)] at q
          obtain ⟨q1, q2⟩ := rz_then q
          walk_at "r"
          walk_at "ks"
          walk_at "disp"
          intro t
          walk_at "ks"
          refine words_i ?_
          walk_at "ks"
          walk_at "get"
          walk_at "ks"
          refine ⟨⟨_, .inr ⟨t, rfl, List.mem_cons_self⟩⟩, ?_⟩
          walk_at "ks"
          refine words_g ?_
          rw [words_neg]
          walk_at "l"
          walk_at "or"
          walk_at "l"
          refine c_wants (ks := [.num, .num]) (List.mem_cons_of_mem _ (List.mem_cons_of_mem _ List.mem_cons_self)) (.inl rfl) hKD (fun k hk => ?_) (fun z => or_non ?_) (fun er z => or_er ?_)
          · simp only [List.mem_cons, List.not_mem_nil, or_false] at hk
            rcases hk with rfl | rfl <;> constructor
          · walk_at "l"
            exact ⟨_, .cons (.tail .head) (.cons (.tail .head) .nil), q1 (by rw [← needs_rep (show [a1].length ≤ 2 from Nat.le_succ 1)]; exact z)⟩
          · exact ⟨_, .cons (.tail .head) (.cons (.tail .head) .nil), q2 er (by rw [← needs_rep (show [a1].length ≤ 2 from Nat.le_succ 1)]; exact z)⟩
        · simp only [found, reckon] at q
          rw [if_pos trivial] at q
          obtain ⟨q1, q2⟩ := rz_then q
          walk_at "r"
          walk_at "ks"
          walk_at "disp"
          intro t
          walk_at "ks"
          refine words_i ?_
          walk_at "ks"
          walk_at "get"
          walk_at "ks"
          refine ⟨⟨_, .inr ⟨t, rfl, List.mem_cons_self⟩⟩, ?_⟩
          walk_at "ks"
          refine words_g ?_
          rw [words_not]
          walk_at "l"
          walk_at "or"
          walk_at "l"
          refine c_wants (ks := [.truth, .truth]) (List.mem_cons_of_mem _ (List.mem_cons_of_mem _ List.mem_cons_self)) (.inl rfl) hKD (fun k hk => ?_) (fun z => or_non ?_) (fun er z => or_er ?_)
          · simp only [List.mem_cons, List.not_mem_nil, or_false] at hk
            rcases hk with rfl | rfl <;> constructor
          · walk_at "l"
            exact ⟨_, .cons (.tail .head) (.cons (.tail .head) .nil), q1 (by rw [← needs_rep (show [a1].length ≤ 2 from Nat.le_succ 1)]; exact z)⟩
          · exact ⟨_, .cons (.tail .head) (.cons (.tail .head) .nil), q2 er (by rw [← needs_rep (show [a1].length ≤ 2 from Nat.le_succ 1)]; exact z)⟩
      | two o =>
        obtain ⟨a1, a2, rfl⟩ := len2 hwo.1
        obtain ⟨d1, d2, rfl⟩ := len2 (hl.trans hwo.1)
        have ho := hwo.2
        obtain ⟨b1, b2, b3⟩ := op2_bool ho
        have hoo := op2_ok ho
        unfold EW.enc at x
        subst x eO
        simp only [found, reckon] at q
        walk_at "r"
        walk_at "ks"
        walk_at "disp"
        intro t
        walk_at "ks"
        refine words_i ?_
        walk_at "ks"
        walk_at "get"
        walk_at "ks"
        refine ⟨⟨_, .inr ⟨t, rfl, List.mem_cons_self⟩⟩, ?_⟩
        walk_at "ks"
        refine words_g ?_
        rw [words_get ho]
        walk_at "l"
        by_cases z : op2 o ∈ (["and", "or", "not"] : List Str)
        · rw [if_pos (b1.mp z)] at q
          obtain ⟨q1, q2⟩ := rz_then q
          rw [show decide (op2 o ∈ (["and", "or", "not"] : List Str)) = true from decide_eq_true z]
          walk_at "l"
          walk_at "or"
          walk_at "l"
          refine c_wants (ks := [.truth, .truth]) (List.mem_cons_of_mem _ (List.mem_cons_of_mem _ List.mem_cons_self)) (.inl rfl) hKD (fun k hk => ?_) (fun y => or_non ?_) (fun er y => or_er ?_)
          · simp only [List.mem_cons, List.not_mem_nil, or_false] at hk
            rcases hk with rfl | rfl <;> constructor
          · walk_at "l"
            have nz : ¬ op2 o ∈ (["less", "same"] : List Str) := fun z2 => by
              rcases b1.mp z with y | y <;> rw [y] at z2 <;> revert z2 <;> decide +kernel
            have eo := b3 (b1.mp z)
            replace q1 := q1 (by rw [← needs_rep (show [a1, a2].length ≤ 2 from Nat.le_refl 2)]; exact y)
            rw [show decide (op2 o ∈ (["less", "same"] : List Str)) = false from decide_eq_false nz]
            walk_at "l"
            rw [eo]
            exact ⟨_, .cons (.tail .head) (.cons (.tail .head) .nil), q1⟩
          · exact ⟨_, .cons (.tail .head) (.cons (.tail .head) .nil), q2 er (by rw [← needs_rep (show [a1, a2].length ≤ 2 from Nat.le_refl 2)]; exact y)⟩
        · rw [if_neg (fun y => z (b1.mpr y))] at q
          obtain ⟨q1, q2⟩ := rz_then q
          rw [show decide (op2 o ∈ (["and", "or", "not"] : List Str)) = false from decide_eq_false z]
          walk_at "l"
          walk_at "or"
          walk_at "l"
          refine c_wants (ks := [.num, .num]) (List.mem_cons_of_mem _ (List.mem_cons_of_mem _ List.mem_cons_self)) (.inl rfl) hKD (fun k hk => ?_) (fun y => or_non ?_) (fun er y => or_er ?_)
          · simp only [List.mem_cons, List.not_mem_nil, or_false] at hk
            rcases hk with rfl | rfl <;> constructor
          · walk_at "l"
            replace q1 := q1 (by rw [← needs_rep (show [a1, a2].length ≤ 2 from Nat.le_refl 2)]; exact y)
            by_cases z2 : op2 o ∈ (["less", "same"] : List Str)
            · rw [if_pos (b2.mp z2)] at q1
              rw [show decide (op2 o ∈ (["less", "same"] : List Str)) = true from decide_eq_true z2]
              walk_at "l"
              exact ⟨_, .cons (.tail .head) (.cons (.tail .head) .nil), q1⟩
            · rw [if_neg (fun y => z2 (b2.mpr y))] at q1
              rw [show decide (op2 o ∈ (["less", "same"] : List Str)) = false from decide_eq_false z2]
              walk_at "l"
              exact ⟨_, .cons (.tail .head) (.cons (.tail .head) .nil), q1⟩
          · exact ⟨_, .cons (.tail .head) (.cons (.tail .head) .nil), q2 er (by rw [← needs_rep (show [a1, a2].length ≤ 2 from Nat.le_refl 2)]; exact y)⟩
    )) only [↓gate_rule]
end
/-! S4: what the law tells of a node. -/
open PySem.PyData (strOk)
theorem td_step {TD : List (Key × D)} {as0 as1 rest : List As} {x : As} (h : TdOk TD as0) (e : as0 = as1 ++ x :: rest) : getA TD (.inl (x.at_ : Nat)) = some x.told := h x (by rw [e]; exact List.mem_append_right _ List.mem_cons_self)
section
variable {P : Program} {w : World} {K : PySem.W.Frag} {mg : Str → Option Value} {base : Heap} {f : Addr} {fd : FuncData} {k : Nat}
theorem okToldL (B : Lib mg) (g1 : FnA P w K mg base k "_law_value_kind" spVKL) (Fn : Fun K "_law_asked_told" "_law_asked_told" tTold f fd) : FnOk P w K mg base (L2.CX P w) (k + 1) f fd ["_law_event", "_law_found", "_law_heads_here", "_law_told_here"] (lift K spToldL) := by
  refine gate ?_
  simp (disch := with_unfolding_all (
      refine fnGx (Ns := ["_law_event", "_law_found", "_law_heads_here", "_law_told_here", "_law_node", "_law_kind", "_law_parts", "_law_part"]) Fn rfl rfl ⟨rfl, rfl, rfl, by decide +kernel, rfl, by decide +kernel, by decide +kernel⟩ (fun ds O QA EA h => ?_) (by decide) (fun cdv A outer s H E hr ds O QA EA F h G => ?_)
      · obtain ⟨h, p, w, pds, as, r, TD, tr, x, _⟩ := h
        rw [x]; rfl
      obtain ⟨h, p, w, pds, as, r, TD, tr, x, eO, hwo, hl, hop, hk, hTD, q⟩ := h
      have key : ∀ (nd : D) (hnd : nd = w.enc pds), nd = w.enc pds := fun _ h => h
      generalize hnd : w.enc pds = nd at x
      subst x eO
      walk_at "r"
      walk_at "ks"
      refine c_vkl hk ?_
      walk_at "ks"
      refine ae_lc true [("_law_part", 7)] (G.comp true) G.calm G.nd (blkOk_by (by kernel_rfl)) (by walk_at "b") (ai_lst ?_)
      walk_at "ks"
      refine CompA.inv (fun ds acc O => ∃ rest as1, ds = atD rest ∧ acc = as1.map As.told ∧ as = as1 ++ rest ∧ O = [(tr, .dic TD)]) (fun acc O hi => ?_) (fun d ds acc O hi => ?_) ⟨as, [], rfl, rfl, rfl, rfl⟩
      · obtain ⟨rest, as1, e5, rfl, e6, rfl⟩ := hi
        obtain rfl := List.map_eq_nil_iff.mp e5.symm
        rw [List.append_nil] at e6
        subst e6
        cases hwp : w.op with
        | false =>
          cases w with
          | num z =>
            unfold EW.enc at hnd
            subst hnd
            walk_at "ks"
            exact ⟨_, .cons .head .nil, q⟩
          | truth z =>
            unfold EW.enc at hnd
            subst hnd
            walk_at "ks"
            exact ⟨_, .cons .head .nil, q⟩
          | name z =>
            unfold EW.enc at hnd
            subst hnd
            walk_at "ks"
            exact ⟨_, .cons .head .nil, q⟩
          | _ => cases hwp
        | true =>
          obtain ⟨f1, f2, f3⟩ := wd_facts (wd_ops hwp)
          rw [EW.enc_wd] at hnd
          subst hnd
          walk_at "ks"
          refine ⟨_, eqP_str f1 (show strOk "name" = true by decide +kernel), ite_se (fun z => absurd z f3) (fun _ => ?_)⟩
          walk_at "ks"
          refine ⟨_, eqP_str f1 (show strOk "call" = true by decide +kernel), ite_se (fun z => ?_) (fun z => ?_)⟩
          · obtain ⟨ff, rfl⟩ := wd_call z
            walk_at "ks"
            exact ⟨_, .cons .head .nil, q⟩
          · have q2 : QA (D.tup [.str "op", .str r.op, if r.op = "make" then vk r.kd else r.extra, .tup (as.map As.told), vk r.kd]) [(tr, .dic TD)] := by
              rw [← finD_op z]
              cases w <;> first | (cases hwp; done) | exact q
            walk_at "l"
            refine ⟨_, eqP_str hop (show strOk "make" = true by decide +kernel), ?_⟩
            by_cases y : r.op = "make"
            · rw [if_pos y] at q2
              rw [show (r.op == "make") = true by simpa using y]
              walk_at "l"
              exact ⟨_, .cons .head .nil, q2⟩
            · rw [if_neg y] at q2
              rw [show (r.op == "make") = false by simpa using y]
              walk_at "l"
              exact ⟨_, .cons .head .nil, q2⟩
      · obtain ⟨rest, as1, e5, rfl, e6, rfl⟩ := hi
        cases rest with
        | nil => cases e5
        | cons x rest =>
          unfold atD at e5
          rw [List.map_cons] at e5
          cases e5
          have hg := td_step hTD e6
          have hl3 := ok_len hwo
          refine ⟨by rw [List.length_map]; have := congrArg List.length e6; rw [List.length_append] at this; omega, fun Xb N' bk => ?_⟩
          obtain ⟨⟨s0, H0, C0, cl0, fp0, xe0, eb⟩, hex, hps2⟩ := bk
          subst eb
          have hps2 := hps2 rfl
          walk_at "k"
          walk_at "sb"
          walk_at "ks"
          refine IxX.refI List.mem_cons_self hg ?_
          exact ⟨rest, as1 ++ [x], rfl, by rw [List.map_append]; rfl, by rw [List.append_assoc]; exact e6, rfl⟩
    )) only [↓gate_rule]
end
/-! S5: the law on a row. -/
open PySem.PyData (strOk)
theorem needs1 {a : As} {k : Kd} {p : Nat} : needs [a] [k] p = dueK [a] k p := by simp only [needs, dueK]
theorem needs2 {a b : As} {k : Kd} {p : Nat} : needs [a, b] [k, k] p = dueK [a, b] k p := by simp only [needs, dueK]
abbrev tSet : Stmt := top 39
abbrev tRow : Stmt := top 40
def setW : RW → Bool
  | .set _ => true
  | .setat _ => true
  | .setf _ _ => true
  | _ => false
def spSetL : ASp := fun ds O Q _ => ∃ (h : Hd) (gk : Kd) (p : Nat) (w : RW) (pds : List D) (as : List As) (ns : Nm) (KD TD : List (Key × D)) (nr kr tr : Addr), ds = [.tup [.int (p : Nat), w.enc pds [], .lst (atD as), .lst []], .ref nr, lhD h, .ref kr, .ref tr] ∧ O = [(nr, .dic (encNm ns)), (kr, .dic KD), (tr, .dic TD)] ∧ setW w = true ∧ w.ok as.length 0 ∧ NmOk ns ∧ KdOk KD as ∧ TdOk TD as ∧
  Rz (rowOwn gk p w as [] ns) (fun x => Q (.lst [x.1]) O) (fun er => Q er.tup O)
section
variable {P : Program} {w : World} {K : PySem.W.Frag} {mg : Str → Option Value} {base : Heap} {f : Addr} {fd : FuncData} {k : Nat}
theorem okSetL (B : Lib mg) (g1 : FnA P w K mg base k "_law_value_kind" spVKL) (g2 : FnA P w K mg base k "_law_wants" spWantsL) (g3 : FnA P w K mg base k "_law_field" spFieldL) (Fn : Fun K "_law_set" "_law_set" tSet f fd) : FnOk P w K mg base (L2.CX P w) (k + 1) f fd ["_law_event", "_law_names", "_law_heads_here", "_law_kinds", "_law_told_here"] (lift K spSetL) := by
  refine gate ?_
  simp (disch := with_unfolding_all (
      refine fnG (Ns := ["_law_event", "_law_names", "_law_heads_here", "_law_kinds", "_law_told_here", "_law_place", "_law_row_here", "_law_parts", "_law_bodies", "_law_whole", "_law_first", "_law_kind", "_law_local", "_law_inner_here", "_law_found"]) Fn rfl rfl ⟨rfl, rfl, rfl, by decide +kernel, rfl, by decide +kernel, by decide +kernel⟩ (fun ds O QA EA h => ?_) (by decide) (fun cdv A outer s H E hr T ds O QA EA F h G => ?_)
      · obtain ⟨h, gk, p, w, pds, as, ns, KD, TD, nr, kr, tr, x, _⟩ := h
        rw [x]; rfl
      obtain ⟨h, gk, p, w, pds, as, ns, KD, TD, nr, kr, tr, x, eO, hsw, hwo, ok, hKD, hTD, q⟩ := h
      cases w with
      | set y =>
        obtain ⟨a, rfl⟩ := List.length_eq_one_iff.mp hwo.1
        obtain ⟨ha, hga⟩ := hKD a List.mem_cons_self
        have hta := hTD a List.mem_cons_self
        unfold RW.enc at x
        subst x eO
        simp only [rowOwn] at q
        walk_at "r"
        walk_at "ks"
        walk_at "dni"
        walk_at "ks"
        refine dgo_strR List.mem_cons_self getA_nm ?_
        cases hl : lookN ns y with
        | none =>
          rw [hl] at q
          refine ite_nf ?_
          walk_at "ks"
          exact q
        | some kk =>
          rw [hl] at q
          dsimp only at q
          have hkk := lookN_ok ok hl
          obtain ⟨q1, q2⟩ := rz_then q
          refine ite_nt ?_
          walk_at "ks"
          refine IxX.refS List.mem_cons_self (getA_nm.trans (congrArg _ hl)) ?_
          walk_at "ks"
          refine c_vkl hkk ?_
          walk_at "ks"
          walk_at "or"
          walk_at "l"
          refine c_wants (ks := [kk.1]) (List.mem_cons_of_mem _ List.mem_cons_self) (.inl rfl) hKD (fun k hk => by rw [List.mem_singleton.mp hk]; exact hkk) (fun z => or_non ?_) (fun er z => or_er ?_)
          · walk_at "l"
            refine IxX.refI (List.mem_cons_of_mem _ (List.mem_cons_of_mem _ List.mem_cons_self)) hta ?_
            walk_at "l"
            exact q1 (by rw [← needs1]; exact z)
          · exact q2 er (by rw [← needs1]; exact z)
      | setat y =>
        obtain ⟨a, a2, rfl⟩ := len2 hwo.1
        have hta := hTD a List.mem_cons_self
        have hta2 := hTD a2 (List.mem_cons_of_mem _ List.mem_cons_self)
        unfold RW.enc at x
        subst x eO
        simp only [rowOwn] at q
        walk_at "r"
        walk_at "ks"
        walk_at "dni"
        walk_at "ks"
        refine dgo_strR List.mem_cons_self getA_nm ?_
        cases hl : lookN ns y with
        | none =>
          rw [hl] at q
          refine ite_nf ?_
          walk_at "ks"
          exact q
        | some kk =>
          rw [hl] at q
          dsimp only at q
          have hkk := lookN_ok ok hl
          refine ite_nt ?_
          walk_at "ks"
          refine IxX.refS List.mem_cons_self (getA_nm.trans (congrArg _ hl)) ?_
          walk_at "ks"
          refine c_vkl hkk ?_
          rw [Kd.enc_wd kk.1]
          walk_at "l"
          refine ⟨_, eqP_str kk.1.wd_ok (show strOk "row" = true by decide +kernel), ?_⟩
          by_cases z : kk.1.wd = "row"
          · rw [if_pos (by rw [wd_row, decide_eq_true z])] at q
            obtain ⟨q1, q2⟩ := rz_then q
            have e9 : (!(kk.1.wd == "row")) = false := by rw [z]; rfl
            rw [e9]
            refine ite_f ?_
            walk_at "ks"
            refine IxX.refI (List.mem_cons_of_mem _ (List.mem_cons_of_mem _ List.mem_cons_self)) hta ?_
            walk_at "ks"
            refine IxX.refI (List.mem_cons_of_mem _ (List.mem_cons_of_mem _ List.mem_cons_self)) hta2 ?_
            walk_at "ks"
            walk_at "or"
            walk_at "l"
            refine ⟨_, _, rfl, rfl, ⟨by decide, by decide⟩, ?_⟩
            walk_at "ks"
            refine c_wants (ks := [.num, .num]) (List.mem_cons_of_mem _ List.mem_cons_self) (.inl rfl) hKD (fun k hk => by
              simp only [List.mem_cons, List.not_mem_nil, or_false] at hk
              rcases hk with rfl | rfl <;> constructor) (fun z => or_non ?_) (fun er z => or_er ?_)
            · walk_at "l"
              exact q1 (by rw [← needs2]; exact z)
            · exact q2 er (by rw [← needs2]; exact z)
          · rw [if_neg (by rw [wd_row, decide_eq_false z]; exact Bool.noConfusion)] at q
            have e9 : (!(kk.1.wd == "row")) = true := by
              have : (kk.1.wd == "row") = false := by simpa using z
              rw [this]; rfl
            rw [e9]
            refine ite_t ?_
            walk_at "ks"
            exact q
      | setf y ff =>
        obtain ⟨a, rfl⟩ := List.length_eq_one_iff.mp hwo.1
        have hta := hTD a List.mem_cons_self
        unfold RW.enc at x
        subst x eO
        simp only [rowOwn] at q
        walk_at "r"
        walk_at "ks"
        walk_at "dni"
        walk_at "ks"
        refine dgo_strR List.mem_cons_self getA_nm ?_
        cases hl : lookN ns y with
        | none =>
          rw [hl] at q
          refine ite_nf ?_
          walk_at "ks"
          exact q
        | some kk =>
          rw [hl] at q
          dsimp only at q
          have hkk := lookN_ok ok hl
          refine ite_nt ?_
          walk_at "ks"
          refine IxX.refS List.mem_cons_self (getA_nm.trans (congrArg _ hl)) ?_
          walk_at "ks"
          refine c_vkl hkk ?_
          rw [Kd.enc_wd kk.1]
          walk_at "l"
          refine ⟨_, eqP_str kk.1.wd_ok (show strOk "named" = true by decide +kernel), ?_⟩
          by_cases z : kk.1.wd = "named"
          · rw [if_pos (by rw [wd_named, decide_eq_true z])] at q
            obtain ⟨b, eb, hb⟩ := named_of hkk z
            have e9 : (!(kk.1.wd == "named")) = false := by rw [z]; rfl
            rw [e9, ← Kd.enc_wd, eb]
            refine ite_f ?_
            walk_at "ks"
            refine c_fieldL hb (fun xx hx => ?_) (fun er hx => ?_)
            · rw [hx] at q
              obtain ⟨q1, q2⟩ := rz_then q
              walk_at "ks"
              refine at_isT B.isi B.tup ?_
              walk_at "ks"
              refine ⟨false, .inl rfl, ?_⟩
              refine ite_f ?_
              walk_at "ks"
              refine IxX.refI (List.mem_cons_of_mem _ (List.mem_cons_of_mem _ List.mem_cons_self)) hta ?_
              walk_at "ks"
              walk_at "or"
              walk_at "l"
              refine c_wants (ks := [xx.2]) (List.mem_cons_of_mem _ List.mem_cons_self) (.inl rfl) hKD (fun k hk => by rw [List.mem_singleton.mp hk]; exact (fieldK_kd hx).1) (fun z => or_non ?_) (fun er z => or_er ?_)
              · walk_at "l"
                rw [eb] at q1
                exact q1 (by rw [← needs1]; exact z)
              · exact q2 er (by rw [← needs1]; exact z)
            · rw [hx] at q
              obtain ⟨x1, xs1, e1⟩ := er_tup er
              walk_at "ks"
              refine at_isT B.isi B.tup ?_
              walk_at "ks"
              refine ⟨true, .inl (by rw [e1]; rfl), ?_⟩
              refine ite_t ?_
              walk_at "ks"
              exact q
          · rw [if_neg (by rw [wd_named, decide_eq_false z]; exact Bool.noConfusion)] at q
            have e9 : (!(kk.1.wd == "named")) = true := by
              have : (kk.1.wd == "named") = false := by simpa using z
              rw [this]; rfl
            rw [e9]
            refine ite_t ?_
            walk_at "ks"
            exact q
      | let_ _ => cases hsw
      | if_ => cases hsw
      | while_ => cases hsw
      | log => cases hsw
      | do_ => cases hsw
      | ret => cases hsw
      | raise _ => cases hsw
      | try_ _ => cases hsw
    )) only [↓gate_rule]
end
/-! A29: what rows want. -/
def duesL (g : D) : List (Key × D) := [(.inr "if", .tup [.str "truth"]), (.inr "while", .tup [.str "truth"]), (.inr "return", g)]
theorem dues_merge {g : D} : mergeA [] (duesL g) = duesL g := rfl
theorem dues_i {t : Addr} {O : Os} {g : D} {P : Os → Prop} (h : P ((t, .dic (duesL g)) :: O)) : ∃ (kvs kvs' : List (Key × D)) (O2 : Os), [(D.str "if", D.tup [.str "truth"]), (D.str "while", D.tup [.str "truth"]), (D.str "return", g)] = kvs.map (fun kv => (keyD kv.1, kv.2)) ∧ kvs.length ≤ 15 ∧ mergeA [] kvs = kvs' ∧ U ((t, .dic []) :: O) t (.dic []) (.dic kvs') O2 ∧ P O2 :=
  ⟨duesL g, duesL g, _, rfl, Nat.le_of_ble_eq_true rfl, dues_merge, .head, h⟩
theorem dues_g {t : Addr} {O : Os} {g : D} {s : Str} {r : Option D} {P : Option D → Prop} (e : getA (duesL g) (.inr s) = r) (h : P r) : ∃ r, dgD ((t, .dic (duesL g)) :: O) (.ref t) (.str s) r ∧ P r :=
  ⟨_, ⟨duesL g, .inr s, .inr ⟨t, rfl, List.mem_cons_self⟩, rfl, e.symm⟩, h⟩
/-! M8: going along the events gives what the looking gives. -/
open PySem.PyData (strOk)
/-- groups of rows: places and what is told -/
abbrev Grp := List (Nat × D)
def Grp.pl (g : Grp) : D := .lst (g.map fun x => .int (x.1 : Nat))
def Grp.td (g : Grp) : List D := g.map fun x => x.2
abbrev Kv := List (Key × D)
def kAt (j : Nat) : Key := .inl (j : Nat)
def GrOk (TD : Kv) (gs : List Grp) : Prop := ∀ g ∈ gs, g.length ≤ 20000 ∧ ∀ x ∈ g, getA TD (.inl (x.1 : Nat)) = some x.2
/-- grown by places from p on -/
def Gw (V V' : Kv) (p m : Nat) : Prop := V'.length ≤ V.length + m ∧ ∀ j : Nat, j < p → getA V' (.inl (j : Nat)) = getA V (.inl (j : Nat))
theorem Gw.refl {V : Kv} {p : Nat} : Gw V V p 0 := ⟨Nat.le_refl _, fun _ _ => rfl⟩
theorem Gw.trans {V V' V'' : Kv} {p q m n : Nat} (a : Gw V V' p m) (b : Gw V' V'' q n) (l : p ≤ q) : Gw V V'' p (m + n) := ⟨by have := a.1; have := b.1; omega, fun j hj => (b.2 j (by omega)).trans (a.2 j hj)⟩
theorem Gw.le {V V' : Kv} {p q m n : Nat} (a : Gw V V' p m) (l : q ≤ p) (l2 : m ≤ n) : Gw V V' q n := ⟨by have := a.1; omega, fun j hj => a.2 j (by omega)⟩
theorem Gw.set {V : Kv} {p : Nat} {d : D} : Gw V (setA V (.inl (p : Nat)) d) p 1 := ⟨setA_len _ _ _, fun j hj => by
  rw [getA_set, if_neg]
  intro e
  have := Sum.inl.inj e
  omega⟩
theorem set_get {V : Kv} {p : Nat} {d : D} : getA (setA V (.inl (p : Nat)) d) (.inl (p : Nat)) = some d := by rw [getA_set, if_pos rfl]
structure Steps (h : Hd) (gk : Kd) (LP : List D → Nm → List Nm → Kv → Kv → Prop) (Bad : Er → Prop) : Prop where
  ex : ∀ {n p : Nat} {w : EW} {ps : List Ex} {as : List As} {rest : List D} {ns : Nm} {stk : List Nm} {KD TD : Kv}, Wf n (.mk w ps) → n ≤ 7 → as.length = ps.length → plE ps (p + 1) = atD as → KdOk KD as → TdOk TD as → NmOk ns → KD.length ≤ 20000 → TD.length ≤ 20000 →
    (∀ r, found h ns p w as = .ok r → LP rest ns stk (setA KD (.inl (p : Nat)) r.kd.enc) (setA TD (.inl (p : Nat)) (tellD w as r))) → (∀ er, found h ns p w as = .error er → Bad er) → LP (evD p (w.enc (Ex.encs ps)) (plE ps (p + 1)) [] :: rest) ns stk KD TD
  row : ∀ {n p : Nat} {w : RW} {es : List Ex} {bs : Bds} {as : List As} {gs : List Grp} {rest : List D} {ns : Nm} {stk : List Nm} {KD TD : Kv}, WfR n (.mk w es bs) → n ≤ 7 → as.length = es.length → plE es (p + 1) = atD as → gs.length = bs.len → plB bs (p + 1 + Ex.szs es) = gs.map Grp.pl → KdOk KD as → TdOk TD as → GrOk TD gs → NmOk ns → ns.length ≤ 9000 → TD.length ≤ 20000 →
    (∀ x, rowOwn gk p w as (gs.map Grp.td) ns = .ok x → LP rest x.2 stk KD (setA TD (.inl (p : Nat)) x.1)) → (∀ er, rowOwn gk p w as (gs.map Grp.td) ns = .error er → Bad er) → LP (evD p (w.enc (Ex.encs es) (Bds.encs bs)) (plE es (p + 1)) (plB bs (p + 1 + Ex.szs es)) :: rest) ns stk KD TD
  beg : ∀ {rest : List D} {ns : Nm} {stk : List Nm} {KD TD : Kv}, LP rest ns (ns :: stk) KD TD → LP (.str "begin" :: rest) ns stk KD TD
  fin : ∀ {rest : List D} {ns ns0 : Nm} {stk : List Nm} {KD TD : Kv}, LP rest ns0 stk KD TD → LP (.str "end" :: rest) ns (ns0 :: stk) KD TD
theorem KdOk.gw {KD KD' : Kv} {as : List As} {p m : Nat} (h : KdOk KD as) (g : Gw KD KD' p m) (l : ∀ a ∈ as, a.at_ < p) : KdOk KD' as := fun a ha => ⟨(h a ha).1, (g.2 _ (l a ha)).trans (h a ha).2⟩
theorem TdOk.gw {KD KD' : Kv} {as : List As} {p m : Nat} (h : TdOk KD as) (g : Gw KD KD' p m) (l : ∀ a ∈ as, a.at_ < p) : TdOk KD' as := fun a ha => (g.2 _ (l a ha)).trans (h a ha)
theorem ex_szpos (e : Ex) : 1 ≤ e.sz := by
  cases e; simp only [Ex.sz]; omega
theorem asks_below {h : Hd} {ns : Nm} : ∀ {es : List Ex} {p : Nat} {as : List As}, Ex.asks h ns es p = .ok as → ∀ a ∈ as, a.at_ < p + Ex.szs es
  | [], _, as, e => by simp only [Ex.asks] at e; cases e; exact fun _ z => nomatch z
  | x :: es, p, as, e => by
    rw [asks_cons] at e
    obtain ⟨a, e0, e⟩ := bind_ok e
    obtain ⟨as', e1, e⟩ := bind_ok e
    cases e
    intro b hb
    rw [encs_szs]
    rcases List.mem_cons.mp hb with z | z
    · rw [z, ask_at e0]; have := ex_szpos x; omega
    · have := asks_below e1 b z; omega
section
variable {h : Hd} {gk : Kd} {LP : List D → Nm → List Nm → Kv → Kv → Prop} {Bad : Er → Prop}
mutual
theorem ev_ex (S : Steps h gk LP Bad) : ∀ {n : Nat} {e : Ex} {p : Nat} {rest : List D} {ns : Nm} {stk : List Nm} {KD TD : Kv}, Wf n e → n ≤ 7 → NmOk ns → KD.length + e.sz ≤ 20000 → TD.length + e.sz ≤ 20000 →
    (∀ x KD' TD', e.ask h ns p = .ok x → Gw KD KD' p e.sz → Gw TD TD' p e.sz → getA KD' (.inl (p : Nat)) = some x.kd.enc → getA TD' (.inl (p : Nat)) = some x.told → LP rest ns stk KD' TD') → (∀ er, e.ask h ns p = .error er → Bad er) → LP (e.evs p ++ rest) ns stk KD TD
  | n + 1, .mk w ps, p, rest, ns, stk, KD, TD, .mk ok hp, hn, hN, l1, l2, k1, k2 => by
    simp only [Ex.sz] at l1 l2 k1
    have e0 : (Ex.mk w ps).evs p ++ rest = Ex.evss ps (p + 1) ++ (evD p (w.enc (Ex.encs ps)) (plE ps (p + 1)) [] :: rest) := by
      simp only [Ex.evs, List.append_assoc, List.cons_append, List.nil_append]
    rw [e0]
    refine ev_exs S hp (by omega) hN (by omega) (by omega) (fun as KD' TD' ea gk gt hk ht hpl => ?_) (fun er ea => k2 er (by rw [ask_found ok, ea]; rfl))
    have hl := asks_len ea
    have hk1 := gk.1
    have ht1 := gt.1
    refine S.ex (.mk ok hp) hn hl hpl hk ht hN (by omega) (by omega) (fun r hr => ?_) (fun er hr => k2 er (by rw [ask_found ok, ea]; show (found h ns p w as).bind _ = _; rw [hr]; rfl))
    refine k1 ⟨tellD w as r, r.kd, p⟩ _ _ (by rw [ask_found ok, ea]; show (found h ns p w as).bind _ = _; rw [hr]; rfl) ((gk.le (Nat.le_succ p) (Nat.le_refl _)).trans Gw.set (Nat.le_refl _)) ((gt.le (Nat.le_succ p) (Nat.le_refl _)).trans Gw.set (Nat.le_refl _)) set_get set_get
theorem ev_exs (S : Steps h gk LP Bad) : ∀ {n : Nat} {es : List Ex} {p : Nat} {rest : List D} {ns : Nm} {stk : List Nm} {KD TD : Kv}, (∀ e ∈ es, Wf n e) → n ≤ 7 → NmOk ns → KD.length + Ex.szs es ≤ 20000 → TD.length + Ex.szs es ≤ 20000 →
    (∀ as KD' TD', Ex.asks h ns es p = .ok as → Gw KD KD' p (Ex.szs es) → Gw TD TD' p (Ex.szs es) → KdOk KD' as → TdOk TD' as → plE es p = atD as → LP rest ns stk KD' TD') → (∀ er, Ex.asks h ns es p = .error er → Bad er) → LP (Ex.evss es p ++ rest) ns stk KD TD
  | n, [], p, rest, ns, stk, KD, TD, hw, hn, hN, l1, l2, k1, k2 => by
    simp only [Ex.evss, List.nil_append]
    exact k1 [] KD TD asks_nil (by simp only [Ex.szs]; exact Gw.refl) (by simp only [Ex.szs]; exact Gw.refl) (fun _ z => nomatch z) (fun _ z => nomatch z) rfl
  | n, e :: es, p, rest, ns, stk, KD, TD, hw, hn, hN, l1, l2, k1, k2 => by
    rw [encs_szs] at l1 l2 k1
    simp only [Ex.evss, List.append_assoc]
    refine ev_ex S (hw e List.mem_cons_self) hn hN (by omega) (by omega) (fun x KD1 TD1 ex g1 t1 hk ht => ?_) (fun er ex => k2 er (by rw [asks_cons, ex]; rfl))
    have a1 := g1.1
    have a2 := t1.1
    refine ev_exs S (fun y hy => hw y (List.mem_cons_of_mem _ hy)) hn hN (by omega) (by omega) (fun as KD2 TD2 ea g2 t2 hk2 ht2 hpl => ?_) (fun er ea => k2 er (by rw [asks_cons, ex]; show (Ex.asks h ns es (p + e.sz)).bind _ = _; rw [ea]; rfl))
    have hp := ex_szpos e
    have hx := ask_at ex
    refine k1 (x :: as) KD2 TD2 (by rw [asks_cons, ex]; show (Ex.asks h ns es (p + e.sz)).bind _ = _; rw [ea]; rfl) (g1.trans g2 (by omega)) (t1.trans t2 (by omega)) (fun a ha => ?_) (fun a ha => ?_) (by simp only [plE, atD, List.map_cons, hx]; rw [hpl]; rfl)
    · rcases List.mem_cons.mp ha with z | z
      · rw [z, hx]; exact ⟨ask_kd hN (hw e List.mem_cons_self) ex, (g2.2 p (by omega)).trans hk⟩
      · exact hk2 a z
    · rcases List.mem_cons.mp ha with z | z
      · rw [z, hx]; exact (t2.2 p (by omega)).trans ht
      · exact ht2 a z
end
theorem rws_szpos (r : Rw) : 1 ≤ r.sz := rw_sz r
mutual
theorem ev_rw (S : Steps h gk LP Bad) : ∀ {n : Nat} {r : Rw} {p : Nat} {rest : List D} {ns : Nm} {stk : List Nm} {KD TD : Kv}, WfR n r → n ≤ 7 → NmOk ns → ns.length + r.sz ≤ 9000 → KD.length + r.sz ≤ 20000 → TD.length + r.sz ≤ 20000 →
    (∀ x KD' TD', r.look h gk p ns = .ok x → Gw KD KD' p r.sz → Gw TD TD' p r.sz → getA TD' (.inl (p : Nat)) = some x.1 → LP rest x.2 stk KD' TD') → (∀ er, r.look h gk p ns = .error er → Bad er) → LP (r.evs p ++ rest) ns stk KD TD
  | n + 1, .mk w es bs, p, rest, ns, stk, KD, TD, .mk ok he hb, hn, hN, l0, l1, l2, k1, k2 => by
    have el : (Rw.mk w es bs).look h gk p ns = (Ex.asks h ns es (p + 1)).bind fun as => (Bds.look h gk bs (p + 1 + Ex.szs es) ns).bind fun ds => rowOwn gk p w as ds ns := by simp only [Rw.look]
    simp only [Rw.sz] at l0 l1 l2 k1
    have e0 : (Rw.mk w es bs).evs p ++ rest = Ex.evss es (p + 1) ++ (Bds.evs bs (p + 1 + Ex.szs es) ++ (evD p (w.enc (Ex.encs es) (Bds.encs bs)) (plE es (p + 1)) (plB bs (p + 1 + Ex.szs es)) :: rest)) := by
      simp only [Rw.evs, List.append_assoc, List.cons_append, List.nil_append]
    rw [e0]
    refine ev_exs S he (by omega) hN (by omega) (by omega) (fun as KD1 TD1 ea g1 t1 hk ht hpl => ?_) (fun er ea => k2 er (by rw [el, ea]; rfl))
    have a1 := g1.1
    have a2 := t1.1
    have hbl := asks_below ea
    refine ev_bds S hb (by omega) hN (by omega) (by omega) (by omega) (fun ds KD2 TD2 gs eb g2 t2 hgl hgp hgd hgo => ?_) (fun er eb => k2 er (by rw [el, ea]; show (Bds.look h gk bs _ ns).bind _ = _; rw [eb]; rfl))
    have b1 := g2.1
    have b2 := t2.1
    refine S.row (.mk ok he hb) hn (asks_len ea) hpl hgl hgp (hk.gw g2 hbl) (ht.gw t2 hbl) hgo hN (by omega) (by omega) (fun x hx => ?_) (fun er hx => k2 er (by rw [el, ea]; show (Bds.look h gk bs _ ns).bind _ = _; rw [eb]; rw [hgd] at hx; exact hx))
    rw [hgd] at hx
    refine k1 x _ _ (by rw [el, ea]; show (Bds.look h gk bs _ ns).bind _ = _; rw [eb]; exact hx) (((g1.trans g2 (by omega)).le (Nat.le_succ p) (Nat.le_refl _)).le (Nat.le_refl _) (by omega)) (((t1.trans t2 (by omega)).le (Nat.le_succ p) (Nat.le_refl _)).trans Gw.set (Nat.le_refl _)) set_get
theorem ev_rws (S : Steps h gk LP Bad) : ∀ {n : Nat} {rs : Rws} {p : Nat} {rest : List D} {ns : Nm} {stk : List Nm} {KD TD : Kv}, WfS n rs → n ≤ 7 → NmOk ns → ns.length + rs.sz ≤ 9000 → KD.length + rs.sz ≤ 20000 → TD.length + rs.sz ≤ 20000 →
    (∀ y KD' TD' (g : Grp), rs.look h gk p ns = .ok y → Gw KD KD' p rs.sz → Gw TD TD' p rs.sz → g.length = rs.len → (g.map fun x => D.int (x.1 : Nat)) = plR rs p → g.td = y.1 → (∀ x ∈ g, getA TD' (.inl (x.1 : Nat)) = some x.2 ∧ x.1 < p + rs.sz) → LP rest y.2 stk KD' TD') → (∀ er, rs.look h gk p ns = .error er → Bad er) → LP (rs.evs p ++ rest) ns stk KD TD
  | n, .nil, p, rest, ns, stk, KD, TD, hw, hn, hN, l0, l1, l2, k1, k2 => by
    simp only [Rws.evs, List.nil_append]
    exact k1 ([], ns) KD TD [] look_nil (by simp only [Rws.sz]; exact Gw.refl) (by simp only [Rws.sz]; exact Gw.refl) rfl (by simp only [plR, List.map_nil]) rfl (fun _ z => nomatch z)
  | n, .cons r rs, p, rest, ns, stk, KD, TD, .cons h1 h2, hn, hN, l0, l1, l2, k1, k2 => by
    rw [rwsz_cons] at l0 l1 l2 k1
    simp only [Rws.evs, List.append_assoc]
    refine ev_rw S h1 hn hN (by omega) (by omega) (by omega) (fun x KD1 TD1 ex g1 t1 hx => ?_) (fun er ex => k2 er (by rw [look_cons, ex]; rfl))
    have a1 := g1.1
    have a2 := t1.1
    obtain ⟨hN2, hl2⟩ := rw_nm h1 hN ex
    have hp := rw_sz r
    refine ev_rws S h2 hn hN2 (by omega) (by omega) (by omega) (fun y KD2 TD2 g ey g2 t2 hgl hgp hgd hgo => ?_) (fun er ey => k2 er (by rw [look_cons, ex]; show (Rws.look h gk rs _ _).bind _ = _; rw [ey]; rfl))
    refine k1 (x.1 :: y.1, y.2) KD2 TD2 ((p, x.1) :: g) (by rw [look_cons, ex]; show (Rws.look h gk rs _ _).bind _ = _; rw [ey]; rfl) (g1.trans g2 (by omega)) (t1.trans t2 (by omega)) (by simp only [List.length_cons, Rws.len, hgl]) (by simp only [List.map_cons, plR, hgp]) (by show x.1 :: g.td = _; rw [hgd]) (fun z hz => ?_)
    rcases List.mem_cons.mp hz with e | hz
    · rw [e]; exact ⟨(t2.2 p (by omega)).trans hx, by show p < _; omega⟩
    · exact ⟨(hgo z hz).1, by have := (hgo z hz).2; omega⟩
theorem ev_bds (S : Steps h gk LP Bad) : ∀ {n : Nat} {bs : Bds} {p : Nat} {rest : List D} {ns : Nm} {stk : List Nm} {KD TD : Kv}, WfB n bs → n ≤ 7 → NmOk ns → ns.length + bs.sz ≤ 9000 → KD.length + bs.sz ≤ 20000 → TD.length + bs.sz ≤ 20000 →
    (∀ ds KD' TD' gs, bs.look h gk p ns = .ok ds → Gw KD KD' p bs.sz → Gw TD TD' p bs.sz → gs.length = bs.len → plB bs p = gs.map Grp.pl → gs.map Grp.td = ds → GrOk TD' gs → LP rest ns stk KD' TD') → (∀ er, bs.look h gk p ns = .error er → Bad er) → LP (bs.evs p ++ rest) ns stk KD TD
  | n, .nil, p, rest, ns, stk, KD, TD, hw, hn, hN, l0, l1, l2, k1, k2 => by
    simp only [Bds.evs, List.nil_append]
    exact k1 [] KD TD [] (by simp only [Bds.look]) (by simp only [Bds.sz]; exact Gw.refl) (by simp only [Bds.sz]; exact Gw.refl) rfl (by simp only [plB, List.map_nil]) rfl (fun _ z => nomatch z)
  | n, .cons b bs, p, rest, ns, stk, KD, TD, .cons h1 h2, hn, hN, l0, l1, l2, k1, k2 => by
    have el : Bds.look h gk (.cons b bs) p ns = (b.look h gk p ns).bind fun x => (Bds.look h gk bs (p + b.sz) ns).bind fun y => .ok (x.1 :: y) := by simp only [Bds.look]
    simp only [Bds.sz] at l0 l1 l2 k1
    simp only [Bds.evs, List.cons_append, List.append_assoc]
    refine S.beg ?_
    refine ev_rws S h1 hn hN (by omega) (by omega) (by omega) (fun y KD1 TD1 g ey g1 t1 hgl hgp hgd hgo => ?_) (fun er ey => k2 er (by rw [el, ey]; rfl))
    have a1 := g1.1
    have a2 := t1.1
    refine S.fin ?_
    refine ev_bds S h2 hn hN (by omega) (by omega) (by omega) (fun ds KD2 TD2 gs eb g2 t2 hl2 hp2 hd2 ho2 => ?_) (fun er eb => k2 er (by rw [el, ey]; show (Bds.look h gk bs _ _).bind _ = _; rw [eb]; rfl))
    refine k1 (y.1 :: ds) KD2 TD2 (g :: gs) (by rw [el, ey]; show (Bds.look h gk bs _ _).bind _ = _; rw [eb]; rfl) (g1.trans g2 (by omega)) (t1.trans t2 (by omega)) (by simp only [List.length_cons, Bds.len, hl2]) (by simp only [plB, List.map_cons, Grp.pl, hgp, hp2]) (by rw [List.map_cons, hgd, hd2]) (fun z hz => ?_)
    rcases List.mem_cons.mp hz with e | hz
    · rw [e]
      refine ⟨by have := len_sz b; omega, fun x hx => (t2.2 x.1 (hgo x hx).2).trans (hgo x hx).1⟩
    · exact ho2 z hz
end
end
/-! S6: the law on a row of any sort. -/
open PySem.PyData (strOk)
def spRowL : ASp := fun ds O Q _ => ∃ (h : Hd) (gk : Kd) (p : Nat) (w : RW) (pds bds : List D) (as : List As) (gs : List Grp) (ns : Nm) (KD TD : List (Key × D)) (nr kr tr : Addr), ds = [.tup [.int (p : Nat), w.enc pds bds, .lst (atD as), .lst (gs.map Grp.pl)], .ref nr, lhD h, .ref kr, .ref tr, gk.enc] ∧ O = [(nr, .dic (encNm ns)), (kr, .dic KD), (tr, .dic TD)] ∧ w.ok as.length gs.length ∧ pds.length = as.length ∧ bds.length = gs.length ∧ NmOk ns ∧ ns.length ≤ 9000 ∧ K6 gk ∧ KdOk KD as ∧ TdOk TD as ∧ GrOk TD gs ∧
  Rz (rowOwn gk p w as (gs.map Grp.td) ns) (fun x => Q (.lst [x.1]) [(nr, .dic (encNm x.2)), (kr, .dic KD), (tr, .dic TD)]) (fun er => Q er.tup [(nr, .dic (encNm ns)), (kr, .dic KD), (tr, .dic TD)])
theorem len0 {α : Type} {l : List α} (h : l.length = 0) : l = [] := List.length_eq_zero_iff.mp h
theorem len1 {α : Type} {l : List α} (h : l.length = 1) : ∃ a, l = [a] := List.length_eq_one_iff.mp h
theorem len3 {α : Type} : ∀ {l : List α}, l.length = 3 → ∃ a b c, l = [a, b, c]
  | [a, b, c], _ => ⟨a, b, c, rfl⟩
section
variable {N : Ent} {Q : D → Os → Prop} {nr kr tr : Addr} {KD TD : List (Key × D)} {ns : Nm}
theorem c_setl {h : Hd} {gk : Kd} {p : Nat} {w : RW} {pds : List D} {as : List As} (hsw : setW w = true) (hwo : w.ok as.length 0) (ok : NmOk ns) (hKD : KdOk KD as) (hTD : TdOk TD as)
    (k1 : ∀ x, rowOwn gk p w as [] ns = .ok x → Q (.lst [x.1]) [(nr, .dic (encNm ns)), (kr, .dic KD), (tr, .dic TD)]) (k2 : ∀ er, rowOwn gk p w as [] ns = .error er → Q er.tup [(nr, .dic (encNm ns)), (kr, .dic KD), (tr, .dic TD)]) :
    CallS N spSetL [.tup [.int (p : Nat), w.enc pds [], .lst (atD as), .lst []], .ref nr, lhD h, .ref kr, .ref tr] [(nr, .dic (encNm ns)), (kr, .dic KD), (tr, .dic TD)] Q :=
  ⟨_, .cons .head (.cons .head (.cons .head .nil)), h, gk, p, w, pds, as, ns, KD, TD, nr, kr, tr, rfl, rfl, hsw, hwo, ok, hKD, hTD, rz_mk (fun _ z => ⟨_, .step .head (.step (.tail .head) (.step (.tail (.tail .head)) .new)), k1 _ z⟩) (fun _ z => ⟨_, .step .head (.step (.tail .head) (.step (.tail (.tail .head)) .new)), k2 _ z⟩)⟩
end
theorem setw_same {gk : Kd} {p : Nat} {w : RW} {as : List As} {ns : Nm} {x : D × Nm} (h : setW w = true) (e : rowOwn gk p w as [] ns = .ok x) : x.2 = ns := by
  cases w with
  | set y =>
    simp only [rowOwn] at e
    split at e
    · cases e
    · rw [← then_ok e]
  | setat y =>
    simp only [rowOwn] at e
    split at e
    · cases e
    · split at e
      · rw [← then_ok e]
      · cases e
  | setf y ff =>
    simp only [rowOwn] at e
    split at e
    · cases e
    · split at e
      · obtain ⟨i, _, e⟩ := bind_ok e
        rw [← then_ok e]
      · cases e
  | _ => cases h
section
variable {P : Program} {w : World} {K : PySem.W.Frag} {mg : Str → Option Value} {base : Heap} {f : Addr} {fd : FuncData} {k : Nat}
theorem okRowL (B : Lib mg) (g1 : FnA P w K mg base k "_law_wants" spWantsL) (g2 : FnA P w K mg base k "_law_set" spSetL) (Fn : Fun K "_law_row" "_law_row" tRow f fd) : FnOk P w K mg base (L2.CX P w) (k + 1) f fd ["_law_event", "_law_names", "_law_heads_here", "_law_kinds", "_law_told_here", "_law_gives"] (lift K spRowL) := by
  refine gate ?_
  simp (disch := with_unfolding_all (
      refine fnGx (Ns := ["_law_event", "_law_names", "_law_heads_here", "_law_kinds", "_law_told_here", "_law_gives", "_law_place", "_law_row_here", "_law_parts", "_law_bodies", "_law_groups_here", "_law_dues", "_law_due_here", "_law_inner_here", "_law_at", "_law_one", "_law_rows"]) Fn rfl rfl ⟨rfl, rfl, rfl, by decide +kernel, rfl, by decide +kernel, by decide +kernel⟩ (fun ds O QA EA h => ?_) (by decide) (fun cdv A outer s H E hr ds O QA EA F h G => ?_)
      · obtain ⟨h, gk, p, w, pds, bds, as, gs, ns, KD, TD, nr, kr, tr, x, _⟩ := h
        rw [x]; rfl
      obtain ⟨h, gk, p, w, pds, bds, as, gs, ns, KD, TD, nr, kr, tr, x, eO, hwo, hpl, hbl, ok, hnl, hgk, hKD, hTD, hGR, q⟩ := h
      have hb3 := ok_bds hwo
      generalize hnd : w.enc pds bds = nd at x
      subst x eO
      walk_at "r"
      walk_at "ks"
      refine ae_lc true [("_law_inner_here", 13)] (G.comp true) G.calm G.nd (blkOk_by (by kernel_rfl)) (by walk_at "b") (ai_lst ?_)
      walk_at "ks"
      refine CompA.inv (fun ds acc O => ∃ rest g1, ds = rest.map Grp.pl ∧ acc = g1.map (fun g => D.tup (Grp.td g)) ∧ gs = g1 ++ rest ∧ O = [(nr, .dic (encNm ns)), (kr, .dic KD), (tr, .dic TD)]) (fun acc O hi => ?_) (fun d ds acc O hi => ?_) ⟨gs, [], rfl, rfl, rfl, rfl⟩
      rotate_left
      · obtain ⟨rest, g1, e5, rfl, e6, rfl⟩ := hi
        cases rest with
        | nil => cases e5
        | cons g rest =>
          rw [List.map_cons] at e5
          cases e5
          obtain ⟨hg1, hg2⟩ := hGR g (by rw [e6]; exact List.mem_append_right _ List.mem_cons_self)
          refine ⟨by rw [List.length_map]; have := congrArg List.length e6; rw [List.length_append] at this; omega, fun Xb N' bk => ?_⟩
          obtain ⟨⟨s0, H0, C0, cl0, fp0, xe0, eb⟩, hex, hps2⟩ := bk
          subst eb
          have hps2 := hps2 rfl
          walk_at "k"
          walk_at "sb"
          walk_at "ks"
          refine ae_lc false [("_law_at", 14)] (fun h => nomatch h) G.calm G.nd (blkOk_by (by kernel_rfl)) (by walk_at "b") (ai_lst ?_)
          unfold Grp.pl
          walk_at "ks"
          refine CompA.inv (fun ds acc O => ∃ (r2 g2 : Grp), ds = r2.map (fun x => .int (x.1 : Nat)) ∧ acc = g2.map (fun x => x.2) ∧ g = g2 ++ r2 ∧ O = [(nr, .dic (encNm ns)), (kr, .dic KD), (tr, .dic TD)]) (fun acc O hi => ?_) (fun d ds acc O hi => ?_) ⟨g, [], rfl, rfl, rfl, rfl⟩
          · obtain ⟨r2, g2, e7, rfl, e8, rfl⟩ := hi
            obtain rfl := List.map_eq_nil_iff.mp e7.symm
            rw [List.append_nil] at e8
            subst e8
            walk_at "ks"
            exact ⟨rest, g1 ++ [g], rfl, by rw [List.map_append]; rfl, by rw [List.append_assoc]; exact e6, rfl⟩
          · obtain ⟨r2, g2, e7, rfl, e8, rfl⟩ := hi
            cases r2 with
            | nil => cases e7
            | cons x r2 =>
              rw [List.map_cons] at e7
              cases e7
              have hx := hg2 x (by rw [e8]; exact List.mem_append_right _ List.mem_cons_self)
              refine ⟨by rw [List.length_map]; have := congrArg List.length e8; rw [List.length_append] at this; omega, fun Xb2 N2 bk2 => ?_⟩
              obtain ⟨⟨s1, H1, C1, cl1, fp1, xe1, eb⟩, hex1, hps3⟩ := bk2
              subst eb
              walk_at "k"
              walk_at "sb"
              walk_at "ks"
              refine IxX.refI (List.mem_cons_of_mem _ (List.mem_cons_of_mem _ List.mem_cons_self)) hx ?_
              exact ⟨r2, g2 ++ [x], rfl, by rw [List.map_append]; rfl, by rw [List.append_assoc]; exact e8, rfl⟩
      obtain ⟨rest, g1, e5, rfl, e6, rfl⟩ := hi
      obtain rfl := List.map_eq_nil_iff.mp e5.symm
      rw [List.append_nil] at e6
      subst e6
      cases w with
      | raise y =>
        obtain rfl := len0 hwo.2.1
        unfold RW.enc at hnd
        subst hnd
        walk_at "l"
        exact ⟨_, .cons .head (.cons .head (.cons .head .nil)), q⟩
      | let_ y =>
        obtain rfl := len0 hwo.2.1
        obtain ⟨a, rfl⟩ := len1 hwo.1
        obtain ⟨ha, hga⟩ := hKD a List.mem_cons_self
        have hta := hTD a List.mem_cons_self
        unfold RW.enc at hnd
        subst hnd
        replace q : Rz (rowOwn gk p (.let_ y) [a] [] ns) _ _ := q
        simp only [rowOwn] at q
        walk_at "ks"
        walk_at "din"
        walk_at "ks"
        refine dgo_strR List.mem_cons_self getA_nm ?_
        cases hl : lookN ns y with
        | some kk =>
          rw [hl] at q
          refine ite_t ?_
          walk_at "ks"
          exact ⟨_, .cons .head (.cons .head (.cons .head .nil)), q⟩
        | none =>
          rw [hl] at q
          refine ite_f ?_
          walk_at "ks"
          refine IxX.refI (List.mem_cons_of_mem _ List.mem_cons_self) hga ?_
          walk_at "ks"
          refine dputN .head hl hnl ?_
          walk_at "l"
          refine IxX.refI (List.mem_cons_of_mem _ (List.mem_cons_of_mem _ List.mem_cons_self)) hta ?_
          walk_at "l"
          exact ⟨_, .cons .head (.cons .head (.cons .head .nil)), q⟩
      | set y =>
        obtain rfl := len0 hwo.2.1
        obtain rfl := len0 hbl
        unfold RW.enc at hnd
        subst hnd
        walk_at "ks"
        refine c_setl (w := .set y) (gk := gk) (pds := pds) rfl hwo ok hKD hTD (fun x hx => ?_) (fun er hx => ?_)
        · have z := rz_ok q hx
          rw [setw_same rfl hx] at z
          exact ⟨_, .cons .head (.cons .head (.cons .head .nil)), z⟩
        · have z := rz_bad q hx
          exact ⟨_, .cons .head (.cons .head (.cons .head .nil)), z⟩
      | setat y =>
        obtain rfl := len0 hwo.2.1
        obtain rfl := len0 hbl
        unfold RW.enc at hnd
        subst hnd
        walk_at "ks"
        refine c_setl (w := .setat y) (gk := gk) (pds := pds) rfl hwo ok hKD hTD (fun x hx => ?_) (fun er hx => ?_)
        · have z := rz_ok q hx
          rw [setw_same rfl hx] at z
          exact ⟨_, .cons .head (.cons .head (.cons .head .nil)), z⟩
        · have z := rz_bad q hx
          exact ⟨_, .cons .head (.cons .head (.cons .head .nil)), z⟩
      | setf y ff =>
        obtain rfl := len0 hwo.2.1
        obtain rfl := len0 hbl
        unfold RW.enc at hnd
        subst hnd
        walk_at "ks"
        refine c_setl (w := .setf y ff) (gk := gk) (pds := pds) rfl hwo ok hKD hTD (fun x hx => ?_) (fun er hx => ?_)
        · have z := rz_ok q hx
          rw [setw_same rfl hx] at z
          exact ⟨_, .cons .head (.cons .head (.cons .head .nil)), z⟩
        · have z := rz_bad q hx
          exact ⟨_, .cons .head (.cons .head (.cons .head .nil)), z⟩
      | if_ =>
        obtain ⟨a, rfl⟩ := len1 hwo.1
        obtain ⟨d1, rfl⟩ := len1 hpl
        obtain ⟨g1, g2, rfl⟩ := len2 hwo.2
        obtain ⟨b1, b2, rfl⟩ := len2 (hbl.trans hwo.2)
        obtain ⟨ha, hga⟩ := hKD a List.mem_cons_self
        have hta := hTD a List.mem_cons_self
        unfold RW.enc at hnd
        subst hnd
        replace q : Rz (rowOwn gk p .if_ [a] [g1.td, g2.td] ns) _ _ := q
        simp only [rowOwn] at q
        walk_at "ks"
        walk_at "disp"
        intro t
        walk_at "ks"
        refine dues_i ?_
        walk_at "ks"
        walk_at "get"
        walk_at "ks"
        refine ⟨⟨_, .inr ⟨t, rfl, List.mem_cons_self⟩⟩, ?_⟩
        walk_at "ks"
        refine IxX.refI (List.mem_cons_of_mem _ (List.mem_cons_of_mem _ List.mem_cons_self)) hga ?_
        refine dues_g (s := "if") (r := some (Kd.enc .truth)) rfl ?_
        dsimp only [Option.getD_some]
        walk_at "ks"
        obtain ⟨q1, q2⟩ := rz_then q
        walk_at "or"
        walk_at "l"
        refine c_wants (ks := [.truth]) (List.mem_cons_of_mem _ (List.mem_cons_of_mem _ List.mem_cons_self)) (.inl rfl) hKD (fun k hk => by rw [List.mem_singleton.mp hk]; exact .truth) (fun z => or_non ?_) (fun er z => or_er ?_)
        · walk_at "l"
          refine IxX.refI (List.mem_cons_of_mem _ (List.mem_cons_of_mem _ (List.mem_cons_of_mem _ List.mem_cons_self))) hta ?_
          walk_at "l"
          exact ⟨_, .cons (.tail .head) (.cons (.tail .head) (.cons (.tail .head) .nil)), q1 (by rw [← needs1]; exact z)⟩
        · exact ⟨_, .cons (.tail .head) (.cons (.tail .head) (.cons (.tail .head) .nil)), q2 er (by rw [← needs1]; exact z)⟩
      | while_ =>
        obtain ⟨a, rfl⟩ := len1 hwo.1
        obtain ⟨d1, rfl⟩ := len1 hpl
        obtain ⟨g1, rfl⟩ := len1 hwo.2
        obtain ⟨b1, rfl⟩ := len1 (hbl.trans hwo.2)
        obtain ⟨ha, hga⟩ := hKD a List.mem_cons_self
        have hta := hTD a List.mem_cons_self
        unfold RW.enc at hnd
        subst hnd
        replace q : Rz (rowOwn gk p .while_ [a] [g1.td] ns) _ _ := q
        simp only [rowOwn] at q
        walk_at "ks"
        walk_at "disp"
        intro t
        walk_at "ks"
        refine dues_i ?_
        walk_at "ks"
        walk_at "get"
        walk_at "ks"
        refine ⟨⟨_, .inr ⟨t, rfl, List.mem_cons_self⟩⟩, ?_⟩
        walk_at "ks"
        refine IxX.refI (List.mem_cons_of_mem _ (List.mem_cons_of_mem _ List.mem_cons_self)) hga ?_
        refine dues_g (s := "while") (r := some (Kd.enc .truth)) rfl ?_
        dsimp only [Option.getD_some]
        walk_at "ks"
        obtain ⟨q1, q2⟩ := rz_then q
        walk_at "or"
        walk_at "l"
        refine c_wants (ks := [.truth]) (List.mem_cons_of_mem _ (List.mem_cons_of_mem _ List.mem_cons_self)) (.inl rfl) hKD (fun k hk => by rw [List.mem_singleton.mp hk]; exact .truth) (fun z => or_non ?_) (fun er z => or_er ?_)
        · walk_at "l"
          refine IxX.refI (List.mem_cons_of_mem _ (List.mem_cons_of_mem _ (List.mem_cons_of_mem _ List.mem_cons_self))) hta ?_
          walk_at "l"
          exact ⟨_, .cons (.tail .head) (.cons (.tail .head) (.cons (.tail .head) .nil)), q1 (by rw [← needs1]; exact z)⟩
        · exact ⟨_, .cons (.tail .head) (.cons (.tail .head) (.cons (.tail .head) .nil)), q2 er (by rw [← needs1]; exact z)⟩
      | ret =>
        obtain ⟨a, rfl⟩ := len1 hwo.1
        obtain ⟨d1, rfl⟩ := len1 hpl
        obtain rfl := len0 hwo.2
        obtain rfl := len0 hbl
        obtain ⟨ha, hga⟩ := hKD a List.mem_cons_self
        have hta := hTD a List.mem_cons_self
        unfold RW.enc at hnd
        subst hnd
        replace q : Rz (rowOwn gk p .ret [a] [] ns) _ _ := q
        simp only [rowOwn] at q
        walk_at "ks"
        walk_at "disp"
        intro t
        walk_at "ks"
        refine dues_i ?_
        walk_at "ks"
        walk_at "get"
        walk_at "ks"
        refine ⟨⟨_, .inr ⟨t, rfl, List.mem_cons_self⟩⟩, ?_⟩
        walk_at "ks"
        refine IxX.refI (List.mem_cons_of_mem _ (List.mem_cons_of_mem _ List.mem_cons_self)) hga ?_
        refine dues_g (s := "return") (r := some (gk.enc)) rfl ?_
        dsimp only [Option.getD_some]
        walk_at "ks"
        obtain ⟨q1, q2⟩ := rz_then q
        walk_at "or"
        walk_at "l"
        refine c_wants (ks := [gk]) (List.mem_cons_of_mem _ (List.mem_cons_of_mem _ List.mem_cons_self)) (.inl rfl) hKD (fun k hk => by rw [List.mem_singleton.mp hk]; exact hgk) (fun z => or_non ?_) (fun er z => or_er ?_)
        · walk_at "l"
          refine IxX.refI (List.mem_cons_of_mem _ (List.mem_cons_of_mem _ (List.mem_cons_of_mem _ List.mem_cons_self))) hta ?_
          walk_at "l"
          exact ⟨_, .cons (.tail .head) (.cons (.tail .head) (.cons (.tail .head) .nil)), q1 (by rw [← needs1]; exact z)⟩
        · exact ⟨_, .cons (.tail .head) (.cons (.tail .head) (.cons (.tail .head) .nil)), q2 er (by rw [← needs1]; exact z)⟩
      | do_ =>
        obtain ⟨a, rfl⟩ := len1 hwo.1
        obtain ⟨d1, rfl⟩ := len1 hpl
        obtain rfl := len0 hwo.2
        obtain rfl := len0 hbl
        obtain ⟨ha, hga⟩ := hKD a List.mem_cons_self
        have hta := hTD a List.mem_cons_self
        unfold RW.enc at hnd
        subst hnd
        replace q : Rz (rowOwn gk p .do_ [a] [] ns) _ _ := q
        simp only [rowOwn] at q
        walk_at "ks"
        walk_at "disp"
        intro t
        walk_at "ks"
        refine dues_i ?_
        walk_at "ks"
        walk_at "get"
        walk_at "ks"
        refine ⟨⟨_, .inr ⟨t, rfl, List.mem_cons_self⟩⟩, ?_⟩
        walk_at "ks"
        refine IxX.refI (List.mem_cons_of_mem _ (List.mem_cons_of_mem _ List.mem_cons_self)) hga ?_
        refine dues_g (s := "do") (r := none) rfl ?_
        dsimp only [Option.getD_none]
        walk_at "ks"
        walk_at "or"
        walk_at "l"
        refine c_wants (ks := [a.kd]) (List.mem_cons_of_mem _ (List.mem_cons_of_mem _ List.mem_cons_self)) (.inl rfl) hKD (fun k hk => by rw [List.mem_singleton.mp hk]; exact ha) (fun z => or_non ?_) (fun er z => or_er ?_)
        · walk_at "l"
          refine IxX.refI (List.mem_cons_of_mem _ (List.mem_cons_of_mem _ (List.mem_cons_of_mem _ List.mem_cons_self))) hta ?_
          walk_at "l"
          exact ⟨_, .cons (.tail .head) (.cons (.tail .head) (.cons (.tail .head) .nil)), q⟩
        · simp only [needs, if_true] at z
          cases z
      | log =>
        obtain ⟨a, rfl⟩ := len1 hwo.1
        obtain ⟨d1, rfl⟩ := len1 hpl
        obtain rfl := len0 hwo.2
        obtain rfl := len0 hbl
        obtain ⟨ha, hga⟩ := hKD a List.mem_cons_self
        have hta := hTD a List.mem_cons_self
        unfold RW.enc at hnd
        subst hnd
        replace q : Rz (rowOwn gk p .log [a] [] ns) _ _ := q
        simp only [rowOwn] at q
        walk_at "ks"
        walk_at "disp"
        intro t
        walk_at "ks"
        refine dues_i ?_
        walk_at "ks"
        walk_at "get"
        walk_at "ks"
        refine ⟨⟨_, .inr ⟨t, rfl, List.mem_cons_self⟩⟩, ?_⟩
        walk_at "ks"
        refine IxX.refI (List.mem_cons_of_mem _ (List.mem_cons_of_mem _ List.mem_cons_self)) hga ?_
        refine dues_g (s := "log") (r := none) rfl ?_
        dsimp only [Option.getD_none]
        walk_at "ks"
        refine ⟨_, kd_eq ha .truth, ?_⟩
        by_cases z1 : a.kd = .truth
        · rw [if_pos (.inr z1)] at q
          refine ite_ndf z1 ?_
          walk_at "ks"
          walk_at "or"
          walk_at "l"
          refine c_wants (ks := [a.kd]) (List.mem_cons_of_mem _ (List.mem_cons_of_mem _ List.mem_cons_self)) (.inl rfl) hKD (fun k hk => by rw [List.mem_singleton.mp hk]; exact ha) (fun z => or_non ?_) (fun er z => or_er ?_)
          · walk_at "l"
            refine IxX.refI (List.mem_cons_of_mem _ (List.mem_cons_of_mem _ (List.mem_cons_of_mem _ List.mem_cons_self))) hta ?_
            walk_at "l"
            exact ⟨_, .cons (.tail .head) (.cons (.tail .head) (.cons (.tail .head) .nil)), q⟩
          · simp only [needs, if_true] at z
            cases z
        · refine ite_ndt z1 ?_
          walk_at "ks"
          walk_at "or"
          walk_at "l"
          refine c_wants (ks := [.num]) (List.mem_cons_of_mem _ (List.mem_cons_of_mem _ List.mem_cons_self)) (.inl rfl) hKD (fun k hk => by rw [List.mem_singleton.mp hk]; exact .num) (fun z => or_non ?_) (fun er z => or_er ?_)
          · have z2 : a.kd = .num := by
              by_cases y : a.kd = .num
              · exact y
              · simp only [needs, if_neg y] at z
                cases z
            rw [if_pos (.inl z2)] at q
            walk_at "l"
            refine IxX.refI (List.mem_cons_of_mem _ (List.mem_cons_of_mem _ (List.mem_cons_of_mem _ List.mem_cons_self))) hta ?_
            walk_at "l"
            exact ⟨_, .cons (.tail .head) (.cons (.tail .head) (.cons (.tail .head) .nil)), q⟩
          · have z2 : ¬ a.kd = .num := fun y => by
              simp only [needs, if_pos y] at z
              cases z
            simp only [needs, if_neg z2] at z
            cases z
            rw [if_neg (fun y => y.elim z2 z1)] at q
            exact ⟨_, .cons (.tail .head) (.cons (.tail .head) (.cons (.tail .head) .nil)), q⟩
      | try_ fs =>
        obtain rfl := len0 hwo.1
        rcases hwo.2.2.1 with z | z
        · obtain ⟨f1, rfl⟩ := len1 z
          obtain ⟨g1, g2, rfl⟩ := len2 hwo.2.1
          obtain ⟨b1, b2, rfl⟩ := len2 (hbl.trans hwo.2.1)
          simp only [RW.enc, tryD, zips, List.map_cons, List.map_nil] at hnd
          subst hnd
          walk_at "ks"
          refine ae_lst ?_
          walk_at "ks"
          refine ae_lc true [("_law_one", 15), ("_law_rows", 16)] (G.comp true) G.calm G.nd (blkOk_by (by kernel_rfl)) (by walk_at "b") ?_
          refine ai_zip rfl B.zip ?_ rfl
          walk_at "ks"
          refine ⟨_, _, .inr rfl, .inr rfl, ?_⟩
          refine comp_cons' (.tup [.tup [.str f1, b2], .tup (Grp.td g2)]) [] rfl (by exact Nat.zero_le _) (fun Xb N' bk => ?_)
          obtain ⟨⟨s0, H0, C0, cl0, fp0, xe0, eb⟩, hex, hps2⟩ := bk
          subst eb
          have hps2 := hps2 rfl
          walk_at "a"
          walk_at "sb"
          walk_at "ks"
          refine comp_nil' rfl ?_
          walk_at "l"
          exact ⟨_, .cons .head (.cons .head (.cons .head .nil)), q⟩
        · obtain ⟨f1, f2, rfl⟩ := len2 z
          obtain ⟨g1, g2, g3, rfl⟩ := len3 hwo.2.1
          obtain ⟨b1, b2, b3, rfl⟩ := len3 (hbl.trans hwo.2.1)
          simp only [RW.enc, tryD, zips, List.map_cons, List.map_nil] at hnd
          subst hnd
          walk_at "ks"
          refine ae_lst ?_
          walk_at "ks"
          refine ae_lc true [("_law_one", 15), ("_law_rows", 16)] (G.comp true) G.calm G.nd (blkOk_by (by kernel_rfl)) (by walk_at "b") ?_
          refine ai_zip rfl B.zip ?_ rfl
          walk_at "ks"
          refine ⟨_, _, .inr rfl, .inr rfl, ?_⟩
          refine comp_cons' (.tup [.tup [.str f1, b2], .tup (Grp.td g2)]) [.tup [.tup [.str f2, b3], .tup (Grp.td g3)]] rfl (by exact Nat.zero_le _) (fun Xb N' bk => ?_)
          obtain ⟨⟨s0, H0, C0, cl0, fp0, xe0, eb⟩, hex, hps2⟩ := bk
          subst eb
          have hps2 := hps2 rfl
          walk_at "a"
          walk_at "sb"
          walk_at "ks"
          refine comp_cons' (.tup [.tup [.str f2, b3], .tup (Grp.td g3)]) [] rfl (by show 1 ≤ 100000; decide) (fun Xb N' bk => ?_)
          obtain ⟨⟨s1, H1, C1, cl1, fp1, xe1, eb⟩, hex, hps2⟩ := bk
          subst eb
          have hps2 := hps2 rfl
          walk_at "a"
          walk_at "sb"
          walk_at "ks"
          refine comp_nil' rfl ?_
          walk_at "l"
          exact ⟨_, .cons .head (.cons .head (.cons .head .nil)), q⟩
    )) only [↓gate_rule]
end
/-! S7: the law on a function's body. -/
open PySem.PyData (strOk)
abbrev tBody : Stmt := top 41
abbrev Tk := List (Str × Kd)
def takesD (ts : Tk) : List D := ts.map fun t => .tup [.str t.1, t.2.enc]
def nsT (ts : Tk) (p : Nat) : Nm := ts.map fun t => (t.1, t.2, p)
def ownT (ts : Tk) : D := .tup (ts.map fun t => .tup [.str t.1, vk t.2])
def fnD (nm : Str) (ts : Tk) (gk : Kd) (b : Rws) : D := .tup [.str "fun", .str nm, .tup (takesD ts), gk.enc, .tup (Rws.encs b)]
def spBody : ASp := fun ds O Q _ => ∃ (h : Hd) (nm : Str) (ts : Tk) (gk : Kd) (b : Rws) (p : Nat), ds = [fnD nm ts gk b, .int (p : Nat), lhD h] ∧ O = [] ∧ GdP b ∧ K6 gk ∧ (∀ t ∈ ts, K6 t.2) ∧ (ts.map (·.1)).Nodup ∧ ts.length ≤ 10 ∧
  Rz (b.look h gk (p + 1) (nsT ts p)) (fun x => Q (.lst [.int ((p + 1 + b.sz : Nat) : Int), .tup [ownT ts, vk gk, .tup x.1]]) []) (fun er => Q er.tup [])
abbrev sobs (sa : List (Addr × Nm)) : Os := sa.map fun f => (f.1, MO.dic (encNm f.2))
def srefs (sa : List (Addr × Nm)) : List D := (sa.map fun f => D.ref f.1).reverse
abbrev stO (pl kr tr d : Addr) (ns : Nm) (sa : List (Addr × Nm)) (KD TD : Kv) : Os := (d, .dic (encNm ns)) :: (tr, .dic TD) :: (kr, .dic KD) :: (pl, .lst (srefs sa ++ [.ref d])) :: sobs sa
def LPof (X : Cx) (N : Ent) (tg : Expr) (body : List Stmt) (E : AEnds) (Rf : Option D → Option D → Rho) (pl kr tr : Addr) : List D → Nm → List Nm → Kv → Kv → Prop := fun rest ns stk KD TD =>
  ∀ (d : Addr) (sa : List (Addr × Nm)) (o1 o2 : Option D), sa.map (·.2) = stk → sa.length + rest.length ≤ 60000 → LoopA X N tg body E rest (Rf o1 o2) (stO pl kr tr d ns sa KD TD)
theorem sel_refl : ∀ {O : Os}, Sel O O
  | [] => .nil
  | _ :: _ => .cons .head sel_refl
theorem sel_skip {O O2 : Os} {p : Addr × MO} : Sel O O2 → Sel (p :: O) O2 := fun s => by
  induction s generalizing p with
  | nil => exact .nil
  | cons t _ ih => exact .cons (.tail t) ih
theorem RepS.sel {X : Cx} {N : Ent} {R : Rho} {O O2 : Os} {σ : L2.St} {H F : Hp} (r : RepS X N R O σ H F) (s : Sel O O2) : RepS X N R O2 σ H F := { r with o := r.o.sel s }
theorem ASs.sel {X : Cx} {N : Ent} {R : Rho} {O O2 : Os} {E : AEnds} {es : List Stmt} (s : Sel O O2) (h : ASs X N es R O2 E) : ASs X N es R O E := fun σ H F r => h σ H F (r.sel s)
section
variable {N : Ent} {Q : D → Os → Prop} {d kr tr : Addr} {KD TD : Kv} {ns : Nm} {O : Os} {h : Hd} {p : Nat}
theorem c_asked {w : EW} {pds : List D} {as : List As} {nd : D} (hnd : nd = w.enc pds) (hwo : w.ok as.length) (hl : pds.length = as.length) (hK : KdOk KD as)
    (k1 : ∀ r, found h ns p w as = .ok r → Q (.lst [r.kd.enc, .str r.op, r.extra]) ((d, .dic (encNm ns)) :: (tr, .dic TD) :: (kr, .dic KD) :: O)) (k2 : ∀ er, found h ns p w as = .error er → Q er.tup ((d, .dic (encNm ns)) :: (tr, .dic TD) :: (kr, .dic KD) :: O)) :
    CallS N spAskedL [.tup [.int (p : Nat), nd, .lst (atD as), .lst []], .ref d, lhD h, .ref kr] ((d, .dic (encNm ns)) :: (tr, .dic TD) :: (kr, .dic KD) :: O) Q :=
  ⟨_, .cons .head (.cons (.tail .head) .nil), h, ns, p, w, pds, as, KD, d, kr, by rw [hnd], rfl, hwo, hl, hK, rz_mk (fun _ z => ⟨_, .step .head (.step (.tail (.tail .head)) .new), k1 _ z⟩) (fun _ z => ⟨_, .step .head (.step (.tail (.tail .head)) .new), k2 _ z⟩)⟩
theorem c_told {w : EW} {pds : List D} {as : List As} {r : Rk} {nd : D} {x : Addr × MO} (hnd : nd = w.enc pds) (hwo : w.ok as.length) (hl : pds.length = as.length) (ho : strOk r.op = true) (hk : K6 r.kd) (hT : TdOk TD as) (k : Q (tellD w as r) (x :: (tr, .dic TD) :: O)) :
    CallS N spToldL [.tup [.int (p : Nat), nd, .lst (atD as), .lst []], .lst [r.kd.enc, .str r.op, r.extra], lhD h, .ref tr] (x :: (tr, .dic TD) :: O) Q :=
  ⟨_, .cons (.tail .head) .nil, h, p, w, pds, as, r, TD, tr, by rw [hnd], rfl, hwo, hl, ho, hk, hT, _, .step (.tail .head) .new, k⟩
theorem c_rowl {gk : Kd} {w : RW} {pds bds : List D} {as : List As} {gs : List Grp} {nd gp : D} (hnd : nd = w.enc pds bds) (hgp : gp = .lst (gs.map Grp.pl)) (hwo : w.ok as.length gs.length) (hl : pds.length = as.length) (hb : bds.length = gs.length) (hN : NmOk ns) (hnl : ns.length ≤ 9000) (hg : K6 gk) (hK : KdOk KD as) (hT : TdOk TD as) (hG : GrOk TD gs)
    (k1 : ∀ x, rowOwn gk p w as (gs.map Grp.td) ns = .ok x → Q (.lst [x.1]) ((d, .dic (encNm x.2)) :: (tr, .dic TD) :: (kr, .dic KD) :: O)) (k2 : ∀ er, rowOwn gk p w as (gs.map Grp.td) ns = .error er → Q er.tup ((d, .dic (encNm ns)) :: (tr, .dic TD) :: (kr, .dic KD) :: O)) :
    CallS N spRowL [.tup [.int (p : Nat), nd, .lst (atD as), gp], .ref d, lhD h, .ref kr, .ref tr, gk.enc] ((d, .dic (encNm ns)) :: (tr, .dic TD) :: (kr, .dic KD) :: O) Q :=
  ⟨_, .cons .head (.cons (.tail .head) (.cons .head .nil)), h, gk, p, w, pds, bds, as, gs, ns, KD, TD, d, kr, tr, by rw [hnd, hgp], rfl, hwo, hl, hb, hN, hnl, hg, hK, hT, hG, rz_mk (fun _ z => ⟨_, .step .head (.step (.tail (.tail .head)) (.step (.tail .head) .new)), k1 _ z⟩) (fun _ z => ⟨_, .step .head (.step (.tail (.tail .head)) (.step (.tail .head) .new)), k2 _ z⟩)⟩
end
theorem lookT_none {ts : Tk} {p : Nat} {x : Str} (h : x ∉ ts.map (·.1)) : lookN (nsT ts p) x = none := by
  induction ts with
  | nil => rfl
  | cons t ts ih =>
    rw [List.map_cons, List.mem_cons, not_or] at h
    show (if t.1 = x then some (t.2, p) else lookN (nsT ts p) x) = none
    rw [if_neg (Ne.symm h.1)]
    exact ih h.2
theorem body_loop {X : Cx} {N : Ent} {tg : Expr} {body : List Stmt} {E : AEnds} {Rf : Option D → Option D → Rho} {pl kr tr d0 : Addr} {h : Hd} {gk : Kd} {Bad : Er → Prop} {b : Rws} {p : Nat} {ns : Nm} (S : Steps h gk (LPof X N tg body E Rf pl kr tr) Bad) (hw : GdP b) (hN : NmOk ns) (hl : ns.length ≤ 10)
    (k1 : ∀ (y : List D × Nm) (TD' : Kv) (g : Grp), b.look h gk p ns = .ok y → g.length = b.len → (g.map fun x => D.int (x.1 : Nat)) = plR b p → g.td = y.1 → (∀ x ∈ g, getA TD' (.inl (x.1 : Nat)) = some x.2) → ∀ KD' d o1 o2, E.nx (Rf o1 o2) (stO pl kr tr d y.2 [] KD' TD')) (k2 : ∀ er, b.look h gk p ns = .error er → Bad er) : LoopA X N tg body E (b.evs p) (Rf none none) (stO pl kr tr d0 ns [] [] []) := by
  have z := hw.2
  have := ev_rws (rest := []) (stk := []) (KD := []) (TD := []) S hw.1 (Nat.le_refl 7) hN (p := p) (by omega) (by simp only [List.length_nil]; omega) (by simp only [List.length_nil]; omega) (fun y KD' TD' g ey _ _ e1 e2 e3 e4 => fun d sa o1 o2 hs _ => by
    obtain rfl := List.map_eq_nil_iff.mp hs
    exact k1 y TD' g ey e1 e2 e3 (fun x hx => (e4 x hx).1) KD' d o1 o2) k2
  rw [List.append_nil] at this
  have zl := rws_evl p hw.1
  exact this d0 [] none none rfl (by simp only [List.length_nil]; omega)
theorem body_loop' {X : Cx} {N : Ent} {tg : Expr} {body : List Stmt} {E : AEnds} (Rf : Option D → Option D → Rho) (pl kr tr d0 : Addr) (h : Hd) (gk : Kd) (Bad : Er → Prop) (b : Rws) (p : Nat) (ns : Nm) {R : Rho} {O : Os} {ds : List D} (eR : R = Rf none none) (eO : O = stO pl kr tr d0 ns [] [] []) (ed : ds = b.evs p) (S : Steps h gk (LPof X N tg body E Rf pl kr tr) Bad) (hw : GdP b) (hN : NmOk ns) (hl : ns.length ≤ 10)
    (k1 : ∀ (y : List D × Nm) (TD' : Kv) (g : Grp), b.look h gk p ns = .ok y → g.length = b.len → (g.map fun x => D.int (x.1 : Nat)) = plR b p → g.td = y.1 → (∀ x ∈ g, getA TD' (.inl (x.1 : Nat)) = some x.2) → ∀ KD' d o1 o2, E.nx (Rf o1 o2) (stO pl kr tr d y.2 [] KD' TD')) (k2 : ∀ er, b.look h gk p ns = .error er → Bad er) : LoopA X N tg body E ds R O := by
  rw [eR, eO, ed]; exact body_loop S hw hN hl k1 k2
theorem LoopA.sel {X : Cx} {N : Ent} {tg : Expr} {body : List Stmt} {E : AEnds} {R : Rho} {O O2 : Os} {ds : List D} (hE : ∀ R O O2, Sel O O2 → E.nx R O2 → E.nx R O) (s : Sel O O2) (h : LoopA X N tg body E ds R O2) : LoopA X N tg body E ds R O := by
  cases ds with
  | nil => exact hE _ _ _ s h
  | cons d ds => exact AG.imp h fun R1 z => ASs.sel s z
theorem srefs_cons {f : Addr × Nm} {sa : List (Addr × Nm)} : srefs (f :: sa) = srefs sa ++ [.ref f.1] := by
  unfold srefs; rw [List.map_cons, List.reverse_cons]
theorem sobs_cons {f : Addr × Nm} {sa : List (Addr × Nm)} : sobs (f :: sa) = (f.1, MO.dic (encNm f.2)) :: sobs sa := rfl
theorem ix_head {O : Os} {nd : D} {wd : Str} {r : List D} {P : D → Prop} (h : .tup (.str wd :: r) = nd) (q : P (.str wd)) : IxX O nd (.int 0) P := by subst h; exact .tup0 q
theorem last_cat {xs : List D} {d : D} : (xs ++ [d])[(xs ++ [d]).length - 1]? = some d := by simp
def rowsL : List Str := ["let", "set", "setat", "setfield", "if", "while", "log", "do", "return", "raise", "try"]
theorem ew_rows (w : EW) : ¬ w.wd ∈ rowsL := by
  cases w with
  | num _ => exact (by decide +kernel : ¬ ("num" : Str) ∈ rowsL)
  | truth _ => exact (by decide +kernel : ¬ ("truth" : Str) ∈ rowsL)
  | name _ => exact (by decide +kernel : ¬ ("name" : Str) ∈ rowsL)
  | two _ => exact (by decide +kernel : ¬ ("two" : Str) ∈ rowsL)
  | one _ => exact (by decide +kernel : ¬ ("one" : Str) ∈ rowsL)
  | call _ => exact (by decide +kernel : ¬ ("call" : Str) ∈ rowsL)
  | new _ => exact (by decide +kernel : ¬ ("new" : Str) ∈ rowsL)
  | row => exact (by decide +kernel : ¬ ("row" : Str) ∈ rowsL)
  | field _ => exact (by decide +kernel : ¬ ("field" : Str) ∈ rowsL)
  | index => exact (by decide +kernel : ¬ ("index" : Str) ∈ rowsL)
theorem rw_rows {w : RW} {n m : Nat} (h : w.ok n m) (es bs : List D) (hb : bs.length = m) : ∃ (wd : Str) (r : List D), w.enc es bs = .tup (.str wd :: r) ∧ wd ∈ rowsL := by
  cases w with
  | try_ fs =>
    cases bs with
    | nil => have := h.2.1; rw [← hb] at this; simp only [List.length_nil] at this; omega
    | cons b bs => exact ⟨_, _, rfl, by decide +kernel⟩
  | _ => exact ⟨_, _, rfl, by decide +kernel⟩
theorem int_ok {n : Nat} {as : List As} : ∀ d ∈ atD as, Ok n d := fun d hd => by
  obtain ⟨a, _, e⟩ := List.mem_map.mp hd
  rw [← e]; exact .int _
theorem found_opS {h : Hd} {ns : Nm} {w : EW} {as : List As} {p : Nat} {r : Rk} (hw : w.ok as.length) (e : found h ns p w as = .ok r) : strOk r.op = true := by
  cases w with
  | num n => cases e; exact (by decide +kernel : strOk "" = true)
  | truth n => cases e; exact (by decide +kernel : strOk "" = true)
  | name s =>
    simp only [found] at e
    split at e
    · cases e
    · cases e; exact (by decide +kernel : strOk "" = true)
  | two o => exact reckon_opS (h := h) hw e
  | one o => exact reckon_opS (h := h) hw e
  | call o => exact reckon_opS (h := h) hw e
  | new o => exact reckon_opS (h := h) hw e
  | row => exact reckon_opS (h := h) hw e
  | field o => exact reckon_opS (h := h) hw e
  | index => exact reckon_opS (h := h) hw e
theorem grp_ok {n : Nat} {g : Grp} : Ok (n + 1) g.pl := .lst fun d hd => by
  obtain ⟨a, _, e⟩ := List.mem_map.mp hd
  rw [← e]; exact .int _
section
variable {P : Program} {w : World} {K : PySem.W.Frag} {mg : Str → Option Value} {base : Heap} {f : Addr} {fd : FuncData} {k : Nat}
theorem okBody (B : Lib mg) (g1 : FnA P w K mg base k "_law_spread" (spSpread 7)) (g2 : FnA P w K mg base k "_law_row" spRowL) (g3 : FnA P w K mg base k "_law_asked" spAskedL) (g4 : FnA P w K mg base k "_law_asked_told" spToldL) (g5 : FnA P w K mg base k "_law_value_kind" spVKL) (Fn : Fun K "_law_body" "_law_body" tBody f fd) : FnOk P w K mg base (L2.CX P w) (k + 1) f fd ["_law_function", "_law_place", "_law_heads_here"] (lift K spBody) := by
  refine gate ?_
  simp (disch := with_unfolding_all (
      refine fnGx (Ns := ["_law_function", "_law_place", "_law_heads_here", "_law_events", "_law_at", "_law_tops", "_law_row_here", "_law_pile", "_law_name", "_law_kind", "_law_kinds", "_law_told_here", "_law_rows", "_law_event", "_law_found", "_law_takes", "_law_top"]) Fn rfl rfl ⟨rfl, rfl, rfl, by decide +kernel, rfl, by decide +kernel, by decide +kernel⟩ (fun ds O QA EA h => ?_) (by decide) (fun cdv A outer s H E hr ds O QA EA F h G => ?_)
      · obtain ⟨h, nm, ts, gk, b, p, x, _⟩ := h
        rw [x]; rfl
      obtain ⟨h, nm, ts, gk, b, p, x, eO, hgd, hgk, hts, hnd, htl, q⟩ := h
      unfold fnD at x
      subst x eO
      have hsz := hgd.2
      have hevl := rws_evl (p + 1) hgd.1
      walk_at "r"
      walk_at "ks"
      refine ae_lstm ?_
      walk_at "ks"
      intro ev
      walk_at "ks"
      refine ae_lstm ?_
      walk_at "ks"
      intro tp
      walk_at "ks"
      refine ai_tup ?_
      walk_at "ks"
      refine LoopA.inv (fun ds R O' => ∃ (rest : Rws) (done : List D) (qc : Nat) (xc : List D) (o1 : Option D), ds = Rws.encs rest ∧ WfS 7 rest ∧ done ++ plR rest qc = plR b (p + 1) ∧ xc ++ Rws.evs rest qc = Rws.evs b (p + 1) ∧ qc + rest.sz = p + 1 + b.sz ∧ done.length + rest.len ≤ 3000 ∧ rest.sz ≤ 3000 ∧ O' = [(tp, .lst done), (ev, .lst xc)] ∧ R = ([("_law_function", some (.tup [.str "fun", .str nm, .tup (takesD ts), gk.enc, .tup (Rws.encs b)])), ("_law_place", some (.int (p : Nat))), ("_law_heads_here", some (lhD h)), ("_law_events", some (.ref ev)), ("_law_at", some (.int (qc : Nat))), ("_law_tops", some (.ref tp)), ("_law_row_here", o1), ("_law_pile", none), ("_law_name", none), ("_law_kind", none), ("_law_kinds", none), ("_law_told_here", none), ("_law_rows", none), ("_law_event", none), ("_law_found", none), ("_law_takes", none), ("_law_top", none)] : Rho)) (fun R O' h' => ?_) (fun dd ds R O' h' => ?_) ⟨b, [], p + 1, [], none, rfl, hgd.1, rfl, rfl, rfl, by have := len_sz b; simp only [List.length_nil]; omega, hsz, rfl, rfl⟩
      rotate_left
      · obtain ⟨rest, done, qc, xc, o1, e1, e0, e2, e3, e4, e5, e6, rfl, rfl⟩ := h'
        obtain ⟨r, rest', rfl, rfl, rfl⟩ := rws_inv2 e1
        have hw1 : WfR 7 r := by cases e0 with | cons h1 h2 => exact h1
        have hw2 : WfS 7 rest' := by cases e0 with | cons h1 h2 => exact h2
        rw [rwsz_cons] at e4 e6
        simp only [Rws.len] at e5
        rw [rwevs_cons] at e3
        have e7 := congrArg List.length e3
        simp only [List.length_append] at e7
        walk_at "ks"
        refine c_spR hw1 (by omega) (.tail .head) (by omega) ⟨_, .tail .head, ?_⟩
        walk_at "ks"
        refine ⟨rest', done ++ [.int (qc : Nat)], qc + r.sz, xc ++ r.evs qc, _, rfl, hw2, ?_, ?_, by omega, by simp only [List.length_append, List.length_cons, List.length_nil]; omega, by omega, rfl, rfl⟩
        · rw [List.append_assoc]; exact e2
        · rw [List.append_assoc]; exact e3
      obtain ⟨rest, done, qc, xc, oR, e1, _, e2, e3, e4, _, _, rfl, rfl⟩ := h'
      obtain rfl := rws_inv e1.symm
      simp only [plR, List.append_nil] at e2
      simp only [Rws.evs, List.append_nil] at e3
      simp only [Rws.sz, Nat.add_zero] at e4
      subst e2 e3 e4
      refine' ab_still Take.head (.cons .same .nil) ?rr ?_
      (case rr => walk_at "zr")
      refine' ab_still Take.head .nil ?rr ?_
      (case rr => walk_at "zr")
      dsimp only [MO.d]
      walk_at "ks"
      refine ae_lstm ?_
      walk_at "ks"
      walk_at "dnew"
      intro d0
      walk_at "ks"
      intro pl
      walk_at "ks"
      refine ai_tup ?_
      walk_at "ks"
      refine LoopA.inv (fun ds R O' => ∃ (rest done : Tk) (o1 o2 : Option D), ds = takesD rest ∧ ts = done ++ rest ∧ O' = [(pl, .lst [.ref d0]), (d0, .dic (encNm (nsT done p)))] ∧ R = ([("_law_function", some (.tup [.str "fun", .str nm, .tup (takesD ts), gk.enc, .tup (Rws.encs b)])), ("_law_place", some (.int (p : Nat))), ("_law_heads_here", some (lhD h)), ("_law_events", some (.lst (b.evs (p + 1)))), ("_law_at", some (.int ((p + 1 + b.sz : Nat) : Int))), ("_law_tops", some (.lst (plR b (p + 1)))), ("_law_row_here", none), ("_law_pile", some (.ref pl)), ("_law_name", o1), ("_law_kind", o2), ("_law_kinds", none), ("_law_told_here", none), ("_law_rows", none), ("_law_event", none), ("_law_found", none), ("_law_takes", none), ("_law_top", none)] : Rho)) (fun R O' h' => ?_) (fun dd ds R O' h' => ?_) ⟨ts, [], none, none, rfl, rfl, rfl, ?_⟩
      · obtain ⟨rest, done, oN, oK, e1, e2, rfl, rfl⟩ := h'
        obtain rfl := List.map_eq_nil_iff.mp e1.symm
        rw [List.append_nil] at e2
        subst e2
        walk_at "ks"
        walk_at "dnew"
        intro kr
        walk_at "ks"
        walk_at "dnew"
        intro tr
        walk_at "k"
        walk_at "k"
        walk_at "k"
        walk_at "k"
        walk_at "k"
        walk_at "k"
        walk_at "k"
        walk_at "k"
        with_reducible refine ASs.sel (.cons (.tail (.tail (.tail .head))) (.cons .head (.cons .head (.cons .head .nil)))) ?_
        walk_at "ks"
        refine ai_lst ?_
        walk_at "ks"
        have hNt : NmOk (nsT ts p) := fun x hx => by
          obtain ⟨t, ht, e⟩ := List.mem_map.mp hx
          rw [← e]; exact hts t ht
        with_reducible refine' body_loop' (fun o1 o2 => [("_law_function", some (.tup [.str "fun", .str nm, .tup (takesD ts), gk.enc, .tup (Rws.encs b)])), ("_law_place", some (.int (p : Nat))), ("_law_heads_here", some (lhD h)), ("_law_events", some (.lst (b.evs (p + 1)))), ("_law_at", some (.int ((p + 1 + b.sz : Nat) : Int))), ("_law_tops", some (.lst (plR b (p + 1)))), ("_law_row_here", none), ("_law_pile", some (.ref pl)), ("_law_name", oN), ("_law_kind", oK), ("_law_kinds", some (.ref kr)), ("_law_told_here", some (.ref tr)), ("_law_rows", some (.tup [.str "let", .str "set", .str "setat", .str "setfield", .str "if", .str "while", .str "log", .str "do", .str "return", .str "raise", .str "try"])), ("_law_event", o1), ("_law_found", o2), ("_law_takes", none), ("_law_top", none)]) pl kr tr d0 h gk (fun er => QA er.tup []) b (p + 1) (nsT ts p) ?eR ?eO ?ed ⟨?ex, ?row, ?beg, ?fin⟩ hgd hNt ?hl ?k1 ?k2
        case eR => rfl
        case eO => rfl
        case ed => rfl
        case hl => unfold nsT; rw [List.length_map]; exact htl
        case k2 => exact fun er he => rz_bad q he
        case beg =>
          intro rest ns stk KD TD hyp d sa o1 o2 hs hsl
          have hsr : (srefs sa).length = sa.length := by unfold srefs; rw [List.length_reverse, List.length_map]
          simp only [List.length_cons] at hsl
          refine loop_cons ?_
          walk_at "ks"
          refine ae_dicOf B.dct ?_
          walk_at "ks"
          refine IxX.lref (List.mem_cons_of_mem _ (List.mem_cons_of_mem _ (List.mem_cons_of_mem _ List.mem_cons_self))) (atI_last _ _) ?_
          refine ⟨_, .inr ⟨d, rfl, List.mem_cons_self⟩, .inl fun d1 => ?_⟩
          walk_at "ks"
          refine LoopA.sel (fun _ _ _ s h => ASs.sel s h) (.cons .head (.cons (.tail .head) (.cons (.tail .head) (.cons (.tail .head) sel_refl)))) ?_
          have z := hyp d1 ((d, ns) :: sa) (some (.str "begin")) o2 (by rw [List.map_cons, hs]) (by simp only [List.length_cons]; omega)
          dsimp only [stO] at z
          rw [srefs_cons, sobs_cons] at z
          with_reducible exact z
        case fin =>
          intro rest ns ns0 stk KD TD hyp d sa o1 o2 hs hsl
          simp only [List.length_cons] at hsl
          cases sa with
          | nil => cases hs
          | cons f0 sa =>
          rw [List.map_cons] at hs
          cases hs
          obtain ⟨da, na⟩ := f0
          refine loop_cons ?_
          walk_at "ks"
          refine pop_i (.tail (.tail (.tail .head))) last_cat ?_
          rw [List.dropLast_concat]
          walk_at "ks"
          refine LoopA.sel (fun _ _ _ s h => ASs.sel s h) (.cons (.tail (.tail (.tail (.tail .head)))) (.cons (.tail .head) (.cons (.tail .head) (.cons (.tail .head) (sel_skip sel_refl))))) ?_
          have z := hyp da sa (some (.str "end")) o2 rfl (by simp only [List.length_cons] at hsl; omega)
          dsimp only [stO] at z
          rw [srefs_cons]
          with_reducible exact z
        case ex =>
          intro n q w ps as rest ns stk KD TD hw hn hal hpl hKD hTD hN hl1 hl2 k1 k2 d sa o1 o2 hs hsl
          simp only [List.length_cons] at hsl
          have hokn : Ok 62 (w.enc (Ex.encs ps)) := by
            have z := ex_ok hw
            rw [enc_mk] at z
            exact z.le (by omega)
          cases hw with
          | @mk m _ _ hwo hwp =>
          have hwo2 : w.ok as.length := by rw [hal]; exact hwo
          have hel : (Ex.encs ps).length = as.length := by rw [encs_map, List.length_map, hal]
          have hrw := ew_rows w
          rw [hpl]
          generalize hnd : w.enc (Ex.encs ps) = nd at hokn ⊢
          have hnd2 := hnd
          rw [EW.enc_wd] at hnd2
          have hev : eqP (evD q nd (atD as) []) (.str "begin") = some false := eqP_tupStr (n := 63) (.tup (ok_cons (.int _) (ok_cons hokn (ok_cons (.lst (n := 61) int_ok) (ok_cons (.lst (n := 61) ok_nil) ok_nil))))) (by decide) (by decide +kernel)
          have hev2 : eqP (evD q nd (atD as) []) (.str "end") = some false := eqP_tupStr (n := 63) (.tup (ok_cons (.int _) (ok_cons hokn (ok_cons (.lst (n := 61) int_ok) (ok_cons (.lst (n := 61) ok_nil) ok_nil))))) (by decide) (by decide +kernel)
          refine loop_cons ?_
          walk_at "ks"
          refine ⟨false, hev, ?_⟩
          walk_at "ks"
          refine ⟨false, hev2, ?_⟩
          walk_at "ks"
          refine at_in ?_ rfl
          walk_at "ks"
          with_reducible refine ix_head hnd2 ?_
          walk_at "ks"
          refine ite_df hrw ?_
          walk_at "ks"
          refine IxX.lref (List.mem_cons_of_mem _ (List.mem_cons_of_mem _ (List.mem_cons_of_mem _ List.mem_cons_self))) (atI_last _ _) ?_
          walk_at "ks"
          with_reducible refine c_asked (h := h) hnd.symm hwo2 hel hKD (fun r hr2 => ?_) (fun er he => ?_)
          · have hkr := found_kd hN hwo2 hr2
            have hop := found_opS hwo2 hr2
            walk_at "ks"
            refine at_isT B.isi B.tup ?_
            walk_at "ks"
            refine ⟨false, .inl rfl, ?_⟩
            refine ite_f ?_
            walk_at "ks"
            refine ⟨kr, KD, .inl (q : Nat), _, rfl, rfl, .tail (.tail .head), by omega, ?_⟩
            walk_at "ks"
            with_reducible refine c_told (h := h) hnd.symm hwo2 hel hop hkr hTD ?_
            walk_at "ks"
            refine ⟨tr, TD, .inl (q : Nat), _, rfl, rfl, .tail .head, by omega, ?_⟩
            have z := k1 r hr2 d sa (some (evD q nd (atD as) [])) (some (.lst [r.kd.enc, .str r.op, r.extra])) hs (by omega)
            dsimp only [stO] at z
            walk_at "ks"
            with_reducible exact z
          · obtain ⟨x1, xs1, e5⟩ := er_tup er
            walk_at "ks"
            refine at_isT B.isi B.tup ?_
            walk_at "ks"
            refine ⟨true, .inl (by rw [e5]; rfl), ?_⟩
            refine ite_t ?_
            walk_at "ks"
            exact ⟨[], .nil, k2 er he⟩
        case row =>
          intro n q w es bs as gs rest ns stk KD TD hw hn hal hpl hgl hgp hKD hTD hGR hN hnl hl2 k1 k2 d sa o1 o2 hs hsl
          simp only [List.length_cons] at hsl
          have hokn : Ok 62 (w.enc (Ex.encs es) (Bds.encs bs)) := by
            have z := rw_ok hw
            simp only [Rw.enc] at z
            exact z.le (by omega)
          cases hw with
          | @mk m _ _ _ hwo hwe hwb =>
          have hwo2 : w.ok as.length gs.length := by rw [hal, hgl]; exact hwo
          have hel : (Ex.encs es).length = as.length := by rw [encs_map, List.length_map, hal]
          have hbl : (Bds.encs bs).length = gs.length := by rw [bds_len, hgl]
          obtain ⟨wd, rr, hnd2, hrw⟩ := rw_rows hwo (Ex.encs es) (Bds.encs bs) bds_len
          rw [hpl, hgp]
          generalize hnd : w.enc (Ex.encs es) (Bds.encs bs) = nd at hokn hnd2 ⊢
          have hgo : ∀ d ∈ gs.map Grp.pl, Ok 61 d := fun d hd => by
            obtain ⟨g, _, e⟩ := List.mem_map.mp hd
            rw [← e]; exact grp_ok (n := 60)
          have hev : eqP (evD q nd (atD as) (gs.map Grp.pl)) (.str "begin") = some false := eqP_tupStr (n := 63) (.tup (ok_cons (.int _) (ok_cons hokn (ok_cons (.lst (n := 61) int_ok) (ok_cons (.lst (n := 61) hgo) ok_nil))))) (by decide) (by decide +kernel)
          have hev2 : eqP (evD q nd (atD as) (gs.map Grp.pl)) (.str "end") = some false := eqP_tupStr (n := 63) (.tup (ok_cons (.int _) (ok_cons hokn (ok_cons (.lst (n := 61) int_ok) (ok_cons (.lst (n := 61) hgo) ok_nil))))) (by decide) (by decide +kernel)
          refine loop_cons ?_
          walk_at "ks"
          refine ⟨false, hev, ?_⟩
          walk_at "ks"
          refine ⟨false, hev2, ?_⟩
          walk_at "ks"
          refine at_in ?_ rfl
          walk_at "ks"
          with_reducible refine ix_head hnd2.symm ?_
          walk_at "ks"
          refine ite_dt hrw ?_
          walk_at "ks"
          refine IxX.lref (List.mem_cons_of_mem _ (List.mem_cons_of_mem _ (List.mem_cons_of_mem _ List.mem_cons_self))) (atI_last _ _) ?_
          walk_at "ks"
          with_reducible refine c_rowl (h := h) hnd.symm rfl hwo2 hel hbl hN hnl hgk hKD hTD hGR (fun x hx => ?_) (fun er he => ?_)
          · walk_at "ks"
            refine at_isT B.isi B.tup ?_
            walk_at "ks"
            refine ⟨false, .inl rfl, ?_⟩
            refine ite_f ?_
            walk_at "ks"
            refine ⟨tr, TD, .inl (q : Nat), _, rfl, rfl, .tail .head, by omega, ?_⟩
            have z := k1 x hx d sa (some (evD q nd (atD as) (gs.map Grp.pl))) (some (.lst [x.1])) hs (by omega)
            dsimp only [stO] at z
            walk_at "ks"
            with_reducible exact z
          · obtain ⟨x1, xs1, e5⟩ := er_tup er
            walk_at "ks"
            refine at_isT B.isi B.tup ?_
            walk_at "ks"
            refine ⟨true, .inl (by rw [e5]; rfl), ?_⟩
            refine ite_t ?_
            walk_at "ks"
            exact ⟨[], .nil, k2 er he⟩
        case k1 =>
          intro y TD' g ey f1 f2 f3 f4 KD' d o1 o2
          have q1 := rz_ok q ey
          have hgl : g.length ≤ 3000 := by rw [f1]; have := len_sz b; omega
          walk_at "ks"
          refine ae_lc true [("_law_name", 8), ("_law_kind", 9)] (G.comp true) G.calm G.nd (blkOk_by (by kernel_rfl)) (by walk_at "b") (ai_tup ?_)
          walk_at "ks"
          refine CompA.inv (fun ds acc O => ∃ (rest done : Tk), ds = takesD rest ∧ acc = done.map (fun t => D.tup [.str t.1, vk t.2]) ∧ ts = done ++ rest ∧ O = stO pl kr tr d y.2 [] KD' TD') (fun acc O hi => ?_) (fun dd ds acc O hi => ?_) ⟨ts, [], rfl, rfl, rfl, rfl⟩
          rotate_left
          · obtain ⟨rest, done, e5, rfl, e6, rfl⟩ := hi
            cases rest with
            | nil => cases e5
            | cons t rest =>
            unfold takesD at e5
            rw [List.map_cons] at e5
            cases e5
            have hkt := hts t (by rw [e6]; exact List.mem_append_right _ List.mem_cons_self)
            refine ⟨by rw [List.length_map]; have := congrArg List.length e6; rw [List.length_append] at this; omega, fun Xb N' bk => ?_⟩
            obtain ⟨⟨s0, H0, C0, cl0, fp0, xe0, eb⟩, hex, hps2⟩ := bk
            subst eb
            have hps2 := hps2 rfl
            walk_at "a"
            walk_at "sb"
            walk_at "ks"
            refine c_vkl hkt ?_
            walk_at "ks"
            exact ⟨rest, done ++ [t], rfl, by rw [List.map_append]; rfl, by rw [List.append_assoc]; exact e6, rfl⟩
          · obtain ⟨rest, done, e5, rfl, e6, rfl⟩ := hi
            obtain rfl := List.map_eq_nil_iff.mp e5.symm
            rw [List.append_nil] at e6
            subst e6
            walk_at "l"
            refine c_vkl hgk ?_
            walk_at "l"
            refine ae_lc true [("_law_top", 16)] (G.comp true) G.calm G.nd (blkOk_by (by kernel_rfl)) (by walk_at "b") (ai_lst ?_)
            walk_at "ks"
            rw [← f2]
            refine CompA.inv (fun ds acc O => ∃ (r2 g2 : Grp), ds = r2.map (fun x => .int (x.1 : Nat)) ∧ acc = g2.map (fun x => x.2) ∧ g = g2 ++ r2 ∧ O = stO pl kr tr d y.2 [] KD' TD') (fun acc O hi => ?_) (fun dd ds acc O hi => ?_) ⟨g, [], rfl, rfl, rfl, rfl⟩
            · obtain ⟨r2, g2, e7, rfl, e8, rfl⟩ := hi
              obtain rfl := List.map_eq_nil_iff.mp e7.symm
              rw [List.append_nil] at e8
              subst e8
              walk_at "l"
              rw [show g.map (fun x => x.2) = y.1 from f3]
              exact ⟨[], .nil, q1⟩
            · obtain ⟨r2, g2, e7, rfl, e8, rfl⟩ := hi
              cases r2 with
              | nil => cases e7
              | cons x r2 =>
              rw [List.map_cons] at e7
              cases e7
              have hx := f4 x (by rw [e8]; exact List.mem_append_right _ List.mem_cons_self)
              refine ⟨by rw [List.length_map]; have := congrArg List.length e8; rw [List.length_append] at this; omega, fun Xb N' bk => ?_⟩
              obtain ⟨⟨s0, H0, C0, cl0, fp0, xe0, eb⟩, hex, hps2⟩ := bk
              subst eb
              have hps2 := hps2 rfl
              walk_at "k"
              walk_at "sb"
              walk_at "ks"
              refine IxX.refI (List.mem_cons_of_mem _ List.mem_cons_self) hx ?_
              exact ⟨r2, g2 ++ [x], rfl, by rw [List.map_append]; rfl, by rw [List.append_assoc]; exact e8, rfl⟩
      · obtain ⟨rest, done, oN, oK, e1, e2, rfl, rfl⟩ := h'
        cases rest with
        | nil => cases e1
        | cons t rest =>
        unfold takesD at e1
        rw [List.map_cons] at e1
        cases e1
        have hnd2 : t.1 ∉ done.map (·.1) := fun z => by
          rw [e2, List.map_append, List.map_cons, List.nodup_append] at hnd
          exact hnd.2.2 _ z _ List.mem_cons_self rfl
        walk_at "ks"
        refine IxX.lref List.mem_cons_self rfl ?_
        walk_at "ks"
        refine dputN (ns := nsT done p) (.tail .head) (lookT_none hnd2) (by unfold nsT; rw [List.length_map]; have := congrArg List.length e2; rw [List.length_append] at this; omega) ?_
        walk_at "ks"
        exact ⟨rest, done ++ [t], _, _, rfl, by rw [List.append_assoc]; exact e2, by unfold nsT; rw [List.map_append]; rfl, rfl⟩
      · rfl
    )) only [↓gate_rule]
end
/-! S8: the law's heads. -/
open PySem.PyData (strOk)
abbrev tHeads : Stmt := top 42
def newL : Kv := [(.inr "pair", lhNew "pair" 0), (.inr "twin", lhNew "twin" 1)]
def fieldsL : Kv := [(.inr "pair", namesL), (.inr "twin", namesL)]
def callL (h : Hd) : Kv := [(.inr "main", lhCall ([.num, .truth, .row 2, .named "pair"], .num, h.pm)), (.inr "g", lhCall ([.named "pair", .num], .row 2, h.pg))]
abbrev refsL (a b c : Addr) : Kv := [(.inr "new", .ref a), (.inr "fields", .ref b), (.inr "call", .ref c)]
def spHeads : ASp := fun ds O Q _ => ∃ (b1 b2 : Rws), ds = [progD b1 b2] ∧ O = [] ∧ GdP b1 ∧ GdP b2 ∧ ∀ y a b c, Q (.ref y) [(c, .dic (callL (hd0 b1))), (b, .dic fieldsL), (a, .dic newL), (y, .dic (refsL a b c))]
theorem refs_merge {a b c : Addr} : mergeA [] (refsL a b c) = refsL a b c := rfl
theorem refs_i {t a b c : Addr} {O : Os} {x1 x2 x3 : MO} {P : Os → Prop} (h : P ((c, x1) :: (b, x2) :: (a, x3) :: (t, .dic (refsL a b c)) :: O)) : ∃ (kvs kvs' : List (Key × D)) (O2 : Os), [(D.str "new", D.ref a), (D.str "fields", D.ref b), (D.str "call", D.ref c)] = kvs.map (fun kv => (keyD kv.1, kv.2)) ∧ kvs.length ≤ 15 ∧ mergeA [] kvs = kvs' ∧ U ((c, x1) :: (b, x2) :: (a, x3) :: (t, .dic []) :: O) t (.dic []) (.dic kvs') O2 ∧ P O2 :=
  ⟨refsL a b c, refsL a b c, _, rfl, Nat.le_of_ble_eq_true rfl, refs_merge, .tail (.tail (.tail .head)), h⟩
section
variable {N : Ent} {Q : D → Os → Prop} {fr : Addr} {O : Os} {p : Nat}
theorem c_try {b : Rws} (hb : GdP b) (q : ∀ ev, Q (.int ((p + (b.sz + 1) : Nat) : Int)) ((fr, .lst ev) :: O)) : CallS N (spSpread 8) [.tup [.str "try", .tup (Rws.encs b), .tup []], .int (p : Nat), .ref fr] ((fr, .lst []) :: O) Q := by
  have hs := hb.2
  have hl := bds_evl (p + 1 + Ex.szs []) (show WfB 7 (.cons b .nil) from .cons hb.1 .nil)
  rw [bdsz1] at hl
  refine ⟨_, .cons .head .nil, _, [], .cons b .nil, p, fr, [], rfl, rfl, by rw [encs_nil]; exact .try0, (fun _ z => nomatch z), ⟨7, by decide, .cons hb.1 .nil⟩, Nat.zero_le _, (by show 1 ≤ 3; decide), ?_, (by rw [bdsz1]; omega), _, .step .head .new, ?_⟩
  · unfold evsOf
    simp only [Ex.evss, List.length_append, List.length_cons, List.length_nil, Bds.len] at hl ⊢
    omega
  · have e : Ex.szs [] + (Bds.cons b .nil).sz + 1 = b.sz + 1 := by rw [bdsz1]; simp only [Ex.szs]; omega
    rw [e]
    exact q _
end
section
variable {P : Program} {w : World} {K : PySem.W.Frag} {mg : Str → Option Value} {base : Heap} {f : Addr} {fd : FuncData} {k : Nat}
theorem okHeads (B : Lib mg) (g1 : FnA P w K mg base k "_law_spread" (spSpread 8)) (Fn : Fun K "_law_heads" "_law_heads" tHeads f fd) : FnOk P w K mg base (L2.CX P w) (k + 1) f fd ["_law_program_here"] (lift K spHeads) := by
  refine gate ?_
  simp (disch := with_unfolding_all (
      refine fnGx (Ns := ["_law_program_here", "_law_heads_here", "_law_place", "_law_name", "_law_fields", "_law_kind", "_law_names", "_law_again", "_law_word", "_law_takes", "_law_gives", "_law_rows", "_law_known", "_law_take_here", "_law_field_here", "_law_k"]) Fn rfl rfl ⟨rfl, rfl, rfl, by decide +kernel, rfl, by decide +kernel, by decide +kernel⟩ (fun ds O QA EA h => ?_) (by decide) (fun cdv A outer s H E hr ds O QA EA F h G => ?_)
      · obtain ⟨b1, b2, x, _⟩ := h
        rw [x]; rfl
      obtain ⟨b1, b2, x, eO, hb1, hb2, q⟩ := h
      unfold progD recsD fldsD fnMD fnGD takesM takesG Kd.enc at x
      subst x eO
      walk_at "r"
      walk_at "ks"
      walk_at "disp"
      intro y
      walk_at "ks"
      walk_at "dnew"
      intro a
      walk_at "ks"
      walk_at "dnew"
      intro b
      walk_at "ks"
      walk_at "dnew"
      intro c
      walk_at "ks"
      refine refs_i ?_
      walk_at "ks"
      refine ai_enum rfl B.enu ?_ rfl
      walk_at "ks"
      refine ae_lc true [("_law_field_here", 14), ("_law_kind", 5)] (G.comp true) G.calm G.nd (blkOk_by (by kernel_rfl)) (by walk_at "b") (ai_tup ?_)
      walk_at "ks"
      walk_at "cb"
      walk_at "ks"
      walk_at "sb"
      walk_at "ks"
      walk_at "cb"
      walk_at "ks"
      walk_at "sb"
      walk_at "ks"
      refine comp_nil ?_
      walk_at "ks"
      refine as_setLc true [("_law_k", 15), ("_law_field_here", 14)] (G.comp true) G.calm G.nd (blkOk_by (by kernel_rfl)) (by walk_at "s") rfl (by walk_at "m") (by walk_at "b") (ai_enum rfl B.enu ?_ rfl) (by with_unfolding_all rfl)
      walk_at "ks"
      refine comp_cons' (.tup [.int ((0 : Nat) : Int), .str "x"]) [.tup [.int ((1 : Nat) : Int), .str "y"]] rfl (Nat.zero_le _) (fun Xb N' bk => ?_)
      obtain ⟨⟨s0, H0, C0, cl0, fp0, xe0, eb⟩, hex, hps⟩ := bk
      subst eb
      have hps := hps rfl
      walk_at "a"
      with_reducible refine and_sub (by walk_at "sub") (ifs_one ?_)
      refine at_in ?_ rfl
      walk_at "ks"
      refine inD_lst (l := []) rfl ?_
      refine ite_df (by decide +kernel) ?_
      refine comp_cons' (.tup [.int ((1 : Nat) : Int), .str "y"]) [] rfl (Nat.zero_le _) (fun Xb N' bk => ?_)
      obtain ⟨⟨s0, H0, C0, cl0, fp0, xe0, eb⟩, hex, hps⟩ := bk
      subst eb
      have hps := hps rfl
      walk_at "a"
      with_reducible refine and_sub (by walk_at "sub") (ifs_one ?_)
      refine at_in ?_ rfl
      walk_at "ks"
      refine inD_lst (l := ["x"]) rfl ?_
      refine ite_df (by decide +kernel) ?_
      refine comp_nil ?_
      walk_at "ks"
      walk_at "din"
      walk_at "ks"
      refine IxX.refS (by walk_at "m") rfl ?_
      refine dgo_strR (o := none) (by walk_at "m") rfl ?_
      refine ite_f ?_
      walk_at "l"
      refine ae_lc true [("_law_field_here", 14), ("_law_kind", 5)] (G.comp true) G.calm G.nd (blkOk_by (by kernel_rfl)) (by walk_at "b") (ai_tup ?_)
      walk_at "ks"
      walk_at "cb"
      walk_at "ks"
      walk_at "sb"
      walk_at "ks"
      walk_at "cb"
      walk_at "ks"
      walk_at "sb"
      walk_at "ks"
      refine comp_nil ?_
      walk_at "ks"
      refine IxX.refS (by walk_at "m") rfl ?_
      walk_at "ks"
      refine ⟨a, _, .inr "pair", _, rfl, rfl, by walk_at "u", Nat.le_of_ble_eq_true rfl, ?_⟩
      walk_at "ks"
      refine IxX.refS (by walk_at "m") rfl ?_
      walk_at "ks"
      refine ⟨b, _, .inr "pair", _, rfl, rfl, by walk_at "u", Nat.le_of_ble_eq_true rfl, ?_⟩
      walk_at "ks"
      refine ae_lc true [("_law_field_here", 14), ("_law_kind", 5)] (G.comp true) G.calm G.nd (blkOk_by (by kernel_rfl)) (by walk_at "b") (ai_tup ?_)
      walk_at "ks"
      walk_at "cb"
      walk_at "ks"
      walk_at "sb"
      walk_at "ks"
      walk_at "cb"
      walk_at "ks"
      walk_at "sb"
      walk_at "ks"
      refine comp_nil ?_
      walk_at "ks"
      refine as_setLc true [("_law_k", 15), ("_law_field_here", 14)] (G.comp true) G.calm G.nd (blkOk_by (by kernel_rfl)) (by walk_at "s") rfl (by walk_at "m") (by walk_at "b") (ai_enum rfl B.enu ?_ rfl) (by with_unfolding_all rfl)
      walk_at "ks"
      refine comp_cons' (.tup [.int ((0 : Nat) : Int), .str "x"]) [.tup [.int ((1 : Nat) : Int), .str "y"]] rfl (Nat.zero_le _) (fun Xb N' bk => ?_)
      obtain ⟨⟨s0, H0, C0, cl0, fp0, xe0, eb⟩, hex, hps⟩ := bk
      subst eb
      have hps := hps rfl
      walk_at "a"
      with_reducible refine and_sub (by walk_at "sub") (ifs_one ?_)
      refine at_in ?_ rfl
      walk_at "ks"
      refine inD_lst (l := []) rfl ?_
      refine ite_df (by decide +kernel) ?_
      refine comp_cons' (.tup [.int ((1 : Nat) : Int), .str "y"]) [] rfl (Nat.zero_le _) (fun Xb N' bk => ?_)
      obtain ⟨⟨s0, H0, C0, cl0, fp0, xe0, eb⟩, hex, hps⟩ := bk
      subst eb
      have hps := hps rfl
      walk_at "a"
      with_reducible refine and_sub (by walk_at "sub") (ifs_one ?_)
      refine at_in ?_ rfl
      walk_at "ks"
      refine inD_lst (l := ["x"]) rfl ?_
      refine ite_df (by decide +kernel) ?_
      refine comp_nil ?_
      walk_at "ks"
      walk_at "din"
      walk_at "ks"
      refine IxX.refS (by walk_at "m") rfl ?_
      refine dgo_strR (o := none) (by walk_at "m") rfl ?_
      refine ite_f ?_
      walk_at "l"
      refine ae_lc true [("_law_field_here", 14), ("_law_kind", 5)] (G.comp true) G.calm G.nd (blkOk_by (by kernel_rfl)) (by walk_at "b") (ai_tup ?_)
      walk_at "ks"
      walk_at "cb"
      walk_at "ks"
      walk_at "sb"
      walk_at "ks"
      walk_at "cb"
      walk_at "ks"
      walk_at "sb"
      walk_at "ks"
      refine comp_nil ?_
      walk_at "ks"
      refine IxX.refS (by walk_at "m") rfl ?_
      walk_at "ks"
      refine ⟨a, _, .inr "twin", _, rfl, rfl, by walk_at "u", Nat.le_of_ble_eq_true rfl, ?_⟩
      walk_at "ks"
      refine IxX.refS (by walk_at "m") rfl ?_
      walk_at "ks"
      refine ⟨b, _, .inr "twin", _, rfl, rfl, by walk_at "u", Nat.le_of_ble_eq_true rfl, ?_⟩
      walk_at "ks"
      refine ai_tup ?_
      walk_at "ks"
      refine ae_lstm ?_
      walk_at "ks"
      intro kn1
      walk_at "ks"
      walk_at "din"
      walk_at "ks"
      refine IxX.refS (by walk_at "m") rfl ?_
      refine dgo_strR (o := none) (by walk_at "m") rfl ?_
      refine ite_f ?_
      walk_at "ks"
      refine ai_tup ?_
      walk_at "ks"
      walk_at "inr"
      walk_at "ks"
      refine ⟨_, kn1, _, [], rfl, rfl, by walk_at "m", rfl, ?_⟩
      walk_at "ks"
      walk_at "inr"
      walk_at "ks"
      refine ⟨_, kn1, _, ["a"], rfl, rfl, by walk_at "m", rfl, ?_⟩
      walk_at "ks"
      walk_at "inr"
      walk_at "ks"
      refine ⟨_, kn1, _, ["a", "b"], rfl, rfl, by walk_at "m", rfl, ?_⟩
      walk_at "ks"
      walk_at "dni"
      walk_at "ks"
      refine IxX.refS (by walk_at "m") rfl ?_
      refine dgo_strR (o := some _) (by walk_at "m") rfl ?_
      refine ite_nt ?_
      walk_at "ks"
      walk_at "inr"
      walk_at "ks"
      refine ⟨_, kn1, _, ["a", "b", "r"], rfl, rfl, by walk_at "m", rfl, ?_⟩
      walk_at "ks"
      walk_at "inr"
      walk_at "ks"
      refine ⟨_, kn1, _, ["a", "b", "r", "p"], rfl, rfl, by walk_at "m", rfl, ?_⟩
      walk_at "ks"
      refine ae_lc true [("_law_take_here", 13), ("_law_kind", 5)] (G.comp true) G.calm G.nd (blkOk_by (by kernel_rfl)) (by walk_at "b") (ai_tup ?_)
      walk_at "ks"
      walk_at "cb"
      walk_at "ks"
      walk_at "sb"
      walk_at "ks"
      walk_at "cb"
      walk_at "ks"
      walk_at "sb"
      walk_at "ks"
      walk_at "cb"
      walk_at "ks"
      walk_at "sb"
      walk_at "ks"
      walk_at "cb"
      walk_at "ks"
      walk_at "sb"
      walk_at "ks"
      refine comp_nil ?_
      walk_at "ks"
      refine IxX.refS (by walk_at "m") rfl ?_
      walk_at "ks"
      refine ⟨c, _, .inr "main", _, rfl, rfl, by walk_at "u", Nat.le_of_ble_eq_true rfl, ?_⟩
      walk_at "ks"
      refine ae_lstm ?_
      walk_at "ks"
      intro fr1
      walk_at "ks"
      refine c_try (p := 2) hb1 fun ev1 => ?_
      walk_at "ks"
      refine ae_lstm ?_
      walk_at "ks"
      intro kn2
      walk_at "ks"
      walk_at "din"
      walk_at "ks"
      refine IxX.refS (by walk_at "m") rfl ?_
      refine dgo_strR (o := none) (by walk_at "m") rfl ?_
      refine ite_f ?_
      walk_at "ks"
      refine ai_tup ?_
      walk_at "ks"
      walk_at "dni"
      walk_at "ks"
      refine IxX.refS (by walk_at "m") rfl ?_
      refine dgo_strR (o := some _) (by walk_at "m") rfl ?_
      refine ite_nt ?_
      walk_at "ks"
      walk_at "inr"
      walk_at "ks"
      refine ⟨_, kn2, _, [], rfl, rfl, by walk_at "m", rfl, ?_⟩
      walk_at "ks"
      walk_at "inr"
      walk_at "ks"
      refine ⟨_, kn2, _, ["p"], rfl, rfl, by walk_at "m", rfl, ?_⟩
      walk_at "ks"
      walk_at "inr"
      walk_at "ks"
      refine ⟨_, kn2, _, ["p", "a"], rfl, rfl, by walk_at "m", rfl, ?_⟩
      walk_at "ks"
      refine ae_lc true [("_law_take_here", 13), ("_law_kind", 5)] (G.comp true) G.calm G.nd (blkOk_by (by kernel_rfl)) (by walk_at "b") (ai_tup ?_)
      walk_at "ks"
      walk_at "cb"
      walk_at "ks"
      walk_at "sb"
      walk_at "ks"
      walk_at "cb"
      walk_at "ks"
      walk_at "sb"
      walk_at "ks"
      refine comp_nil ?_
      walk_at "ks"
      refine IxX.refS (by walk_at "m") rfl ?_
      walk_at "ks"
      refine ⟨c, _, .inr "g", _, rfl, rfl, by walk_at "u", Nat.le_of_ble_eq_true rfl, ?_⟩
      walk_at "ks"
      refine ae_lstm ?_
      walk_at "ks"
      intro fr2
      walk_at "ks"
      refine c_try (p := 2 + (b1.sz + 1)) hb2 fun ev2 => ?_
      walk_at "ks"
      walk_at "dni"
      walk_at "ks"
      refine IxX.refS (by walk_at "m") rfl ?_
      refine dgo_strR (o := some _) (by walk_at "m") rfl ?_
      refine ite_nt ?_
      walk_at "ks"
      exact ⟨[(c, .dic (callL (hd0 b1))), (b, .dic fieldsL), (a, .dic newL), (y, .dic (refsL a b c))], .cons (.tail (.tail (.tail (.tail .head)))) (.cons (.tail (.tail (.tail (.tail .head)))) (.cons (.tail (.tail (.tail (.tail .head)))) (.cons (.tail (.tail (.tail (.tail .head)))) .nil))), q y a b c⟩
    )) only [↓gate_rule]
end
/-! S9: what is due. -/
open PySem.PyData (strOk)
abbrev tDue : Stmt := top 43
def tsM : Tk := [("a", .num), ("b", .truth), ("r", .row 2), ("p", .named "pair")]
def tsG : Tk := [("p", .named "pair"), ("a", .num)]
def spDue : ASp := fun ds O Q _ => ∃ (b1 b2 : Rws), ds = [progD b1 b2] ∧ O = [] ∧ GdP b1 ∧ GdP b2 ∧ Rz (typedR b1 b2) (fun fs => ∀ t, Q (.ref t) [(t, .dic fs)]) (fun er => Q er.tup [])
theorem tsM_ok : ∀ t ∈ tsM, K6 t.2 := fun t ht => by
  simp only [tsM, List.mem_cons, List.not_mem_nil, or_false] at ht
  rcases ht with rfl | rfl | rfl | rfl <;> constructor
theorem tsG_ok : ∀ t ∈ tsG, K6 t.2 := fun t ht => by
  simp only [tsG, List.mem_cons, List.not_mem_nil, or_false] at ht
  rcases ht with rfl | rfl <;> constructor
section
variable {P : Program} {w : World} {K : PySem.W.Frag} {mg : Str → Option Value} {base : Heap} {f : Addr} {fd : FuncData} {k : Nat}
theorem okDue (B : Lib mg) (g1 : FnA P w K mg base k "_law_heads" spHeads) (g2 : FnA P w K mg base k "_law_body" spBody) (Fn : Fun K "_law_due" "_law_due" tDue f fd) : FnOk P w K mg base (L2.CX P w) (k + 1) f fd ["_law_program_here"] (lift K spDue) := by
  refine gate ?_
  simp (disch := with_unfolding_all (
      refine fnGx (Ns := ["_law_program_here", "_law_heads_here", "_law_functions", "_law_function", "_law_found"]) Fn rfl rfl ⟨rfl, rfl, rfl, by decide +kernel, rfl, by decide +kernel, by decide +kernel⟩ (fun ds O QA EA h => ?_) (by decide) (fun cdv A outer s H E hr ds O QA EA F h G => ?_)
      · obtain ⟨b1, b2, x, _⟩ := h
        rw [x]; rfl
      obtain ⟨b1, b2, x, eO, hb1, hb2, q⟩ := h
      unfold progD fnMD fnGD at x
      subst x eO
      walk_at "r"
      walk_at "ks"
      refine calls_0 ⟨b1, b2, rfl, rfl, hb1, hb2, fun y a b c => ⟨[(c, .dic (callL (hd0 b1))), (b, .dic fieldsL), (a, .dic newL), (y, .dic (refsL a b c))], .new, ?_⟩⟩
      walk_at "k"
      refine' ab_still Take.head (.cons .same (.cons .same (.cons (.dic (.cons .same (.cons .same (.cons .here .nil)))) .nil))) ?rr ?_
      (case rr => walk_at "zr")
      refine' ab_still Take.head (.cons .same (.cons (.dic (.cons .same (.cons .here (.cons .same .nil)))) .nil)) ?rr ?_
      (case rr => walk_at "zr")
      refine' ab_still Take.head (.cons (.dic (.cons .here (.cons .same (.cons .same .nil)))) .nil) ?rr ?_
      (case rr => walk_at "zr")
      refine' ab_still Take.head .nil ?rr ?_
      (case rr => walk_at "zr")
      dsimp only [MO.d]
      walk_at "ks"
      refine at_isT B.isi B.tup ?_
      walk_at "ks"
      refine ⟨false, .inl rfl, ?_⟩
      refine ite_f ?_
      walk_at "ks"
      walk_at "dnew"
      intro t
      walk_at "ks"
      refine ai_tup ?_
      walk_at "ks"
      refine calls_0 ⟨hd0 b1, "main", tsM, .num, b1, 2, rfl, rfl, hb1, .num, tsM_ok, by decide +kernel, by decide, rz_mk (fun x1 hx1 => ⟨_, pk_nil, ?_⟩) (fun er hx => ⟨_, pk_nil, ?_⟩)⟩
      rotate_left
      · have z : QA er.tup [] := by
          refine rz_bad q ?_
          unfold typedR
          show Except.bind (b1.look (hd0 b1) .num (2 + 1) (nsT tsM 2)) _ = _
          rw [hx]; rfl
        obtain ⟨x2, xs2, e5⟩ := er_tup er
        walk_at "ks"
        refine at_isT B.isi B.tup ?_
        walk_at "ks"
        refine ⟨true, .inl (by rw [e5]; rfl), ?_⟩
        refine ite_t ?_
        walk_at "ks"
        exact ⟨[], .nil, z⟩
      walk_at "ks"
      refine at_isT B.isi B.tup ?_
      walk_at "ks"
      refine ⟨false, .inl rfl, ?_⟩
      refine ite_f ?_
      walk_at "ks"
      refine ⟨t, _, .inr "main", _, rfl, rfl, .head, Nat.le_of_ble_eq_true rfl, ?_⟩
      walk_at "ks"
      refine calls_0 ⟨hd0 b1, "g", tsG, .row 2, b2, (hd0 b1).pg, rfl, rfl, hb2, .row2, tsG_ok, by decide +kernel, by decide, rz_mk (fun x2 hx2 => ⟨_, pk_nil, ?_⟩) (fun er hx => ⟨_, pk_nil, ?_⟩)⟩
      rotate_left
      · have z : QA er.tup [] := by
          refine rz_bad q ?_
          unfold typedR
          show Except.bind (b1.look (hd0 b1) .num (2 + 1) (nsT tsM 2)) _ = _
          rw [hx1]
          show Except.bind (b2.look (hd0 b1) (.row 2) ((hd0 b1).pg + 1) (nsT tsG (hd0 b1).pg)) _ = _
          rw [hx]; rfl
        obtain ⟨x2, xs2, e5⟩ := er_tup er
        walk_at "ks"
        refine at_isT B.isi B.tup ?_
        walk_at "ks"
        refine ⟨true, .inl (by rw [e5]; rfl), ?_⟩
        refine ite_t ?_
        walk_at "ks"
        exact ⟨[], .nil, z⟩
      walk_at "ks"
      refine at_isT B.isi B.tup ?_
      walk_at "ks"
      refine ⟨false, .inl rfl, ?_⟩
      refine ite_f ?_
      walk_at "ks"
      refine ⟨t, _, .inr "g", _, rfl, rfl, .head, Nat.le_of_ble_eq_true rfl, ?_⟩
      walk_at "ks"
      have z : ∀ t, QA (.ref t) [(t, .dic [(.inr "main", .tup [ownM, vk .num, .tup x1.1]), (.inr "g", .tup [ownG, vk (.row 2), .tup x2.1])])] := by
        refine rz_ok q ?_
        unfold typedR
        show Except.bind (b1.look (hd0 b1) .num (2 + 1) (nsT tsM 2)) _ = _
        rw [hx1]
        show Except.bind (b2.look (hd0 b1) (.row 2) ((hd0 b1).pg + 1) (nsT tsG (hd0 b1).pg)) _ = _
        rw [hx2]
        rfl
      exact ⟨_, .cons .head .nil, z t⟩
    )) only [↓gate_rule]
end
/-! S10: what is told. -/
open PySem.PyData (strOk)
abbrev tTold2 : Stmt := top 44
/-- what the written part says of the errors' classes -/
structure ErC (K : PySem.W.Frag) (mg : Str → Option Value) (c : Cs) : Prop where
  xn : XfC K c.n
  xt : XfC K c.t
  xf : XfC K c.f
  en : ExcC K c.n
  et : ExcC K c.t
  n1 : PySem.W.findIn K (.ref c.n) "name" = some none
  n2 : PySem.W.findIn K (.ref c.n) "place" = some none
  t1 : PySem.W.findIn K (.ref c.t) "name" = some none
  t2 : PySem.W.findIn K (.ref c.t) "place" = some none
  f1 : PySem.W.findIn K (.ref c.f) "wants" = some none
  f2 : PySem.W.findIn K (.ref c.f) "gives" = some none
  mn : mg "NoName" = some (.ref c.n)
  mt : mg "Twice" = some (.ref c.t)
  mf : mg "NoFit" = some (.ref c.f)
  ff : PySem.W.exmOne K (.ref c.f) (.ref c.f) = some true
  nf : PySem.W.exmOne K (.ref c.n) (.ref c.f) = some false
  tf : PySem.W.exmOne K (.ref c.t) (.ref c.f) = some false
  an : PySem.W.exmAny K (.ref c.n) [.ref c.n, .ref c.t] = some true
  at_ : PySem.W.exmAny K (.ref c.t) [.ref c.n, .ref c.t] = some true
  kn : PySem.W.kitOne K (.ref c.n) (.ref c.t) = some false
  kt : PySem.W.kitOne K (.ref c.t) (.ref c.t) = some true
def spTold : ASp := fun ds O Q _ => ∃ (b1 b2 : Rws), ds = [progD b1 b2] ∧ O = [] ∧ GdP b1 ∧ GdP b2 ∧ Rz (typedR b1 b2) (fun fs => Q (.dic fs) []) (fun er => Q er.tup [])
theorem gd_tr {X : Cx} {N : Ent} {pn : List (Addr × Obj)} {xe : Value → Shared → Prop} {O : Os} {F H : Hp} {EX : Addr → List (Str × D) → Os → Prop} (G : Gd X N) (tk : TkA (X.tr pn xe) ⟨O, F, H, EX⟩) (own : PassesOwn (model X.prog X.w) X.A X.env xe) : Gd (X.tr pn xe) ⟨O, F, H, EX⟩ := ⟨G.calm, G.nd, own, tk, G.stk, G.frm, G.un⟩
theorem at2 {i : Nat} (h : (["_law_program_here", "_law_told_here", "e"] : List Str)[i]? = some "e") : i = 2 := by
  match i, h with
  | 0, h => exact absurd (Option.some.inj h) (by decide +kernel)
  | 1, h => exact absurd (Option.some.inj h) (by decide +kernel)
  | 2, _ => rfl
  | n + 3, h => simp at h
section
variable {P : Program} {w : World} {K : PySem.W.Frag} {mg : Str → Option Value} {base : Heap} {f : Addr} {fd : FuncData} {k : Nat} {c : Cs} {CT : Addr}
theorem okTold (B : Lib mg) (EC : ErC K mg c) (ct : Cls K CT) (cf : NoAttr K CT "functions") (g1 : FnA P w K mg base k "typed" (spTyped CT c)) (Fn : Fun K "_law_told" "_law_told" tTold2 f fd) : FnOk P w K mg base (L2.CX P w) (k + 1) f fd ["_law_program_here"] (lift K spTold) := by
  refine gate ?_
  simp (disch := with_unfolding_all (
      refine fnGx (Ns := ["_law_program_here", "_law_told_here", "e"]) Fn rfl rfl ⟨rfl, rfl, rfl, by decide +kernel, rfl, by decide +kernel, by decide +kernel⟩ (fun ds O QA EA h => ?_) (by decide) (fun cdv A outer s H E hr ds O QA EA F h G => ?_)
      · obtain ⟨b1, b2, x, _⟩ := h
        rw [x]; rfl
      obtain ⟨b1, b2, x, eO, hb1, hb2, q⟩ := h
      subst x eO
      walk_at "r"
      walk_at "ks"
      with_reducible refine' as_try2 (C1 := c.f) (C2 := c.n) (C3 := c.t) (i := 2) ?hs ?hf ?hN ?hi ?hln ?hv ?c1 ?c2 ?c3 ?hb ?hst2 ?hst3
      case hs => exact G.stk
      case hf => exact G.frm
      case hN => exact G.nd
      case hi => rfl
      case hln => rfl
      case hv => exact ⟨(by first | exact Or.inl rfl | exact Or.inr (Or.inl rfl) | exact Or.inr (Or.inr rfl)), by decide, by decide⟩
      case c1 => exact ⟨by with_unfolding_all rfl, EC.mf, by decide⟩
      case c2 => exact ⟨by with_unfolding_all rfl, EC.mn, by decide⟩
      case c3 => exact ⟨by with_unfolding_all rfl, EC.mt, by decide⟩
      case hst2 => rfl
      case hst3 => rfl
      case hb =>
        intro F2 H2 pn2 xe2 EX2 hEX tk own
        have G2 := gd_tr G tk own
        walk_at "ks"
        refine ae_dicOf B.dct ?_
        walk_at "ks"
        refine calls_0 ⟨b1, b2, rfl, rfl, hb1, hb2, rz_mk (fun fs hfs => fun y t => ⟨[(t, .dic fs), (y, .ins CT [("functions", .ref t)])], .new, ?_⟩) (fun er he => ⟨_, pk_nil, (hEX _ _ _).mpr ?_⟩)⟩
        · have z := rz_ok q hfs
          walk_at "ks"
          refine ⟨fs, .inr ⟨t, rfl, List.mem_cons_self⟩, .inr ?_⟩
          walk_at "ks"
          exact ⟨[], .nil, z⟩
        · have z := rz_bad q he
          cases er with
          | fit i j =>
            refine .inl ⟨EC.ff, fun a oe dd pn N2 xf hx => ⟨[("_law_program_here", none), ("_law_told_here", none), ("e", some (.ref a))], .tail (.tail .head), ?_⟩⟩
            walk_at "ks"
            refine ae_xf xf EC.xf EC.f1 ?_
            walk_at "ks"
            refine ⟨rfl, _, rfl, ?_⟩
            walk_at "ks"
            refine ae_xf xf EC.xf EC.f2 ?_
            walk_at "ks"
            refine ⟨rfl, _, rfl, ?_⟩
            walk_at "ks"
            intro i2 hi2
            obtain rfl := at2 hi2
            dsimp only [List.set]
            walk_at "ks"
            exact ⟨[], .nil, z⟩
          | name s i =>
            refine .inr ⟨EC.nf, EC.an, fun a oe dd pn N2 xf hx => ⟨[("_law_program_here", none), ("_law_told_here", none), ("e", some (.ref a))], .tail (.tail .head), ?_⟩⟩
            walk_at "l"
            refine ae_isE xf EC.en EC.kn B.isi ⟨by with_unfolding_all rfl, EC.mt, by decide⟩ ?_
            walk_at "ks"
            refine ⟨rfl, ?_⟩
            walk_at "l"
            refine ae_xf xf EC.xn EC.n1 ?_
            walk_at "ks"
            refine ⟨rfl, _, rfl, ?_⟩
            walk_at "ks"
            refine ae_xf xf EC.xn EC.n2 ?_
            walk_at "ks"
            refine ⟨rfl, _, rfl, ?_⟩
            walk_at "ks"
            intro i2 hi2
            obtain rfl := at2 hi2
            dsimp only [List.set]
            walk_at "ks"
            exact ⟨[], .nil, z⟩
          | twice s i =>
            refine .inr ⟨EC.tf, EC.at_, fun a oe dd pn N2 xf hx => ⟨[("_law_program_here", none), ("_law_told_here", none), ("e", some (.ref a))], .tail (.tail .head), ?_⟩⟩
            walk_at "l"
            refine ae_isE xf EC.et EC.kt B.isi ⟨by with_unfolding_all rfl, EC.mt, by decide⟩ ?_
            walk_at "ks"
            refine ⟨rfl, ?_⟩
            walk_at "l"
            refine ae_xf xf EC.xt EC.t1 ?_
            walk_at "ks"
            refine ⟨rfl, _, rfl, ?_⟩
            walk_at "ks"
            refine ae_xf xf EC.xt EC.t2 ?_
            walk_at "ks"
            refine ⟨rfl, _, rfl, ?_⟩
            walk_at "ks"
            intro i2 hi2
            obtain rfl := at2 hi2
            dsimp only [List.set]
            walk_at "ks"
            exact ⟨[], .nil, z⟩
    )) only [↓gate_rule]
end
/-! M9: what is told is plain data. -/
open PySem.PyData (strOk)
def ErOk : Er → Prop
  | .name s _ => strOk s = true
  | .twice s _ => strOk s = true
  | .fit _ _ => True
theorem er_ok {er : Er} (h : ErOk er) : Ok 1 er.tup := by
  cases er with
  | name s p => exact .tup (ok_cons okS (ok_cons (.str h) (ok_cons (.int _) ok_nil)))
  | twice s p => exact .tup (ok_cons okS (ok_cons (.str h) (ok_cons (.int _) ok_nil)))
  | fit a b => exact .tup (ok_cons okS (ok_cons (.int _) (ok_cons (.int _) ok_nil)))
theorem rec_ok : Ok 3 recD := .tup (ok_cons okS (ok_cons (.tup (ok_cons (kd_ok (n := 0) .num) (ok_cons (kd_ok (n := 0) .truth) ok_nil))) ok_nil))
theorem vk_ok {k : Kd} (h : K6 k) : Ok 3 (vk k) := by
  cases h with
  | pair => exact rec_ok
  | twin => exact rec_ok
  | num => exact kd_ok .num
  | truth => exact kd_ok .truth
  | row2 => exact kd_ok .row2
  | row3 => exact kd_ok .row3
theorem bind_err {α β : Type} {m : Except Er α} {g : α → Except Er β} {e : Er} (h : m.bind g = .error e) : m = .error e ∨ ∃ a, m = .ok a ∧ g a = .error e := by
  cases m with
  | ok a => exact .inr ⟨a, rfl, h⟩
  | error e' => exact .inl (by cases h; rfl)
theorem then_err {α : Type} {o : Option Er} {a : α} {e : Er} (h : thenE o a = .error e) : o = some e := by
  cases o with
  | none => cases h
  | some e' => cases h; rfl
theorem due_er {k : Kd} {p : Nat} {er : Er} : ∀ {as : List As}, dueK as k p = some er → ErOk er
  | [], h => nomatch h
  | a :: as, h => by
    simp only [dueK] at h
    split at h
    · exact due_er h
    · cases h; trivial
theorem needs_er {p : Nat} {er : Er} : ∀ {as : List As} {ks : List Kd}, needs as ks p = some er → ErOk er
  | [], _, h => by simp only [needs] at h; cases h
  | _ :: _, [], h => by simp only [needs] at h; cases h
  | a :: as, k :: ks, h => by
    simp only [needs] at h
    split at h
    · exact needs_er h
    · cases h; trivial
theorem field_er {f : Str} {p : Nat} {er : Er} (hf : strOk f = true) (h : fieldK f p = .error er) : ErOk er := by
  unfold fieldK at h
  split at h
  · cases h
  · split at h
    · cases h
    · cases h; exact hf
theorem called_er {as : List As} {w : List Kd × Kd × Nat} {p : Nat} {er : Er} (h : called as w p = .error er) : ErOk er := by
  unfold called at h
  split at h
  · exact needs_er (then_err h)
  · cases h; trivial
theorem found_er {h : Hd} {ns : Nm} {p : Nat} {er : Er} : ∀ {w : EW} {as : List As}, w.ok as.length → found h ns p w as = .error er → ErOk er
  | .num _, _, _, e => nomatch e
  | .truth _, _, _, e => nomatch e
  | .name s, as, hw, e => by
    simp only [found] at e
    split at e
    · cases e; exact hw.2
    · cases e
  | .call f, as, hw, e => by
    simp only [found, reckon] at e
    split at e
    · cases e; exact hw.2
    · exact called_er e
  | .new c, as, hw, e => by
    simp only [found, reckon] at e
    exact called_er e
  | .field f, a :: _, hw, e => by
    simp only [found, reckon] at e
    split at e
    · rcases bind_err e with e | ⟨x, _, e⟩
      · exact field_er hw.2 e
      · cases e
    · cases e; trivial
  | .field f, [], hw, e => by cases hw.1
  | .index, a :: b :: _, hw, e => by
    simp only [found, reckon] at e
    split at e
    · exact due_er (then_err e)
    · cases e; trivial
  | .index, [a], hw, e => by cases hw
  | .index, [], hw, e => by cases hw
  | .row, as, hw, e => by
    simp only [found, reckon] at e
    exact due_er (then_err e)
  | .one o, as, hw, e => by
    simp only [found, reckon] at e
    split at e
    · exact due_er (then_err e)
    · exact due_er (then_err e)
  | .two o, as, hw, e => by
    simp only [found, reckon] at e
    split at e
    · exact due_er (then_err e)
    · exact due_er (then_err e)
def ExOk : D → Prop := fun d => d = .non ∨ ∃ i, d = .int i
theorem exok {d : D} (h : ExOk d) : Ok 3 d := by
  rcases h with rfl | ⟨i, rfl⟩
  · exact .non
  · exact .int _
theorem found_ex {h : Hd} {ns : Nm} {p : Nat} {r : Rk} : ∀ {w : EW} {as : List As}, found h ns p w as = .ok r → ExOk r.extra
  | .num _, _, e => by cases e; exact .inl rfl
  | .truth _, _, e => by cases e; exact .inl rfl
  | .name s, as, e => by
    simp only [found] at e
    split at e
    · cases e
    · cases e; exact .inl rfl
  | .call f, as, e => by
    simp only [found, reckon] at e
    split at e
    · cases e
    · unfold called at e
      split at e
      · rw [← then_ok e]; exact .inl rfl
      · cases e
  | .new c, as, e => by
    simp only [found, reckon] at e
    unfold called at e
    split at e
    · rw [← then_ok e]; exact .inl rfl
    · cases e
  | .field f, a :: _, e => by
    simp only [found, reckon] at e
    split at e
    · obtain ⟨x, _, e⟩ := bind_ok e
      cases e; exact .inr ⟨_, rfl⟩
    · cases e
  | .field f, [], e => nomatch e
  | .index, a :: b :: _, e => by
    simp only [found, reckon] at e
    split at e
    · rw [← then_ok e]; exact .inl rfl
    · cases e
  | .index, [a], e => nomatch e
  | .index, [], e => nomatch e
  | .row, as, e => by
    simp only [found, reckon] at e
    rw [← then_ok e]; exact .inl rfl
  | .one o, as, e => by
    simp only [found, reckon] at e
    split at e
    · rw [← then_ok e]; exact .inl rfl
    · rw [← then_ok e]; exact .inl rfl
  | .two o, as, e => by
    simp only [found, reckon] at e
    split at e
    · rw [← then_ok e]; exact .inl rfl
    · rw [← then_ok e]; exact .inl rfl
theorem told_all {n : Nat} {as : List As} (h : ∀ a ∈ as, Ok n a.told) : ∀ d ∈ as.map As.told, Ok n d := fun d hd => by
  obtain ⟨a, ha, e⟩ := List.mem_map.mp hd
  rw [← e]; exact h a ha
theorem op_tell {w : EW} {as : List As} {r : Rk} {n : Nat} (hn : 3 ≤ n) (hw : w.ok as.length) (ho : strOk r.op = true) (hk : K6 r.kd) (hx : ExOk r.extra) (ha : ∀ a ∈ as, Ok n a.told) : Ok (n + 2) (tellD w as r) := by
  have v := (vk_ok hk).le (show 3 ≤ n + 1 by omega)
  have e : Ok (n + 1) (if r.op = "make" then vk r.kd else r.extra) := by
    split
    · exact v
    · exact (exok hx).le (by omega)
  have g : Ok (n + 2) (.tup [.str "op", .str r.op, if r.op = "make" then vk r.kd else r.extra, .tup (as.map As.told), vk r.kd]) := .tup (ok_cons okS (ok_cons (.str ho) (ok_cons e (ok_cons (.tup (told_all ha)) (ok_cons v ok_nil)))))
  cases w with
  | num z => exact (show Ok 2 _ from .tup (ok_cons okS (ok_cons (.tup (ok_cons okS (ok_cons (.int _) ok_nil))) ok_nil))).le (by omega)
  | truth z => exact (show Ok 2 _ from .tup (ok_cons okS (ok_cons (.tup (ok_cons okS (ok_cons (.bl _) ok_nil))) ok_nil))).le (by omega)
  | name s => exact .tup (ok_cons okS (ok_cons (.str hw.2) (ok_cons v ok_nil)))
  | call f => exact .tup (ok_cons okS (ok_cons (.str hw.2) (ok_cons (.tup (told_all ha)) (ok_cons v ok_nil))))
  | two o => exact g
  | one o => exact g
  | new o => exact g
  | row => exact g
  | field o => exact g
  | index => exact g
theorem ask_ok {h : Hd} {ns : Nm} (hN : NmOk ns) (opS : ∀ {w : EW} {as : List As} {p : Nat} {r : Rk}, w.ok as.length → found h ns p w as = .ok r → strOk r.op = true) : ∀ {n : Nat} {e : Ex}, Wf n e → ∀ {p : Nat}, (∀ x, e.ask h ns p = .ok x → Ok (2 * n + 3) x.told) ∧ (∀ er, e.ask h ns p = .error er → ErOk er)
  | n + 1, .mk w ps, .mk ok hp, p => by
    have ih : ∀ e ∈ ps, ∀ p, (∀ x, e.ask h ns p = .ok x → Ok (2 * n + 3) x.told) ∧ (∀ er, e.ask h ns p = .error er → ErOk er) := fun e he p => ask_ok hN opS (hp e he)
    have er : ∀ {es : List Ex} {p : Nat} {er : Er}, (∀ e ∈ es, e ∈ ps) → Ex.asks h ns es p = .error er → ErOk er := by
      intro es
      induction es with
      | nil => intro p er _ e; rw [asks_nil] at e; cases e
      | cons e0 es ihh =>
        intro p er hm e
        rw [asks_cons] at e
        rcases bind_err e with e | ⟨a, _, e⟩
        · exact (ih e0 (hm e0 List.mem_cons_self) p).2 _ e
        · rcases bind_err e with e | ⟨a, _, e⟩
          · exact ihh (fun x hx => hm x (List.mem_cons_of_mem _ hx)) e
          · cases e
    rw [ask_found ok]
    constructor
    · intro x hx
      obtain ⟨as, ea, hx⟩ := bind_ok hx
      obtain ⟨r, er2, hx⟩ := bind_ok hx
      cases hx
      have hl : w.ok as.length := by rw [asks_len ea]; exact ok
      have := op_tell (n := 2 * n + 3) (by omega) hl (opS hl er2) (found_kd hN hl er2) (found_ex er2) (asks_all (fun e he p a z => (ih e he p).1 a z) ea)
      exact this.le (by omega)
    · intro e he
      rcases bind_err he with he | ⟨as, ea, he⟩
      · exact er (fun _ z => z) he
      · rcases bind_err he with he | ⟨r, er2, he⟩
        · exact found_er (by rw [asks_len ea]; exact ok) he
        · cases he
theorem asks_er {h : Hd} {ns : Nm} (hN : NmOk ns) (opS : ∀ {w : EW} {as : List As} {p : Nat} {r : Rk}, w.ok as.length → found h ns p w as = .ok r → strOk r.op = true) {n : Nat} : ∀ {es : List Ex} {p : Nat} {er : Er}, (∀ e ∈ es, Wf n e) → Ex.asks h ns es p = .error er → ErOk er
  | [], p, er, _, e => by rw [asks_nil] at e; cases e
  | e0 :: es, p, er, hw, e => by
    rw [asks_cons] at e
    rcases bind_err e with e | ⟨a, _, e⟩
    · exact (ask_ok hN opS (hw e0 List.mem_cons_self)).2 _ e
    · rcases bind_err e with e | ⟨a, _, e⟩
      · exact asks_er hN opS (fun x hx => hw x (List.mem_cons_of_mem _ hx)) e
      · cases e
theorem asks_ok {h : Hd} {ns : Nm} (hN : NmOk ns) (opS : ∀ {w : EW} {as : List As} {p : Nat} {r : Rk}, w.ok as.length → found h ns p w as = .ok r → strOk r.op = true) {n : Nat} {es : List Ex} {p : Nat} {as : List As} (hw : ∀ e ∈ es, Wf n e) (e : Ex.asks h ns es p = .ok as) : ∀ a ∈ as, Ok (2 * n + 3) a.told :=
  asks_all (fun e he p a z => (ask_ok hN opS (hw e he)).1 a z) e
theorem own_ok {gk : Kd} {p n m : Nat} {as : List As} {bs : List (List D)} {ns : Nm} (hN : NmOk ns) (h3 : 3 ≤ m) (hnm : n ≤ m + 1) (ha : ∀ a ∈ as, Ok n a.told) (hb : ∀ b ∈ bs, ∀ d ∈ b, Ok m d) : ∀ {w : RW} {i : Nat}, w.ok i bs.length → (∀ x, rowOwn gk p w as bs ns = .ok x → Ok (m + 4) x.1) ∧ (∀ er, rowOwn gk p w as bs ns = .error er → ErOk er) := by
  have ht := told_all ha
  have ht2 : ∀ d ∈ as.map As.told, Ok (m + 3) d := fun d hd => (ht d hd).le (by omega)
  have hbt : ∀ d ∈ bs.map D.tup, Ok (m + 1) d := fun d hd => by
    obtain ⟨b, hm, e⟩ := List.mem_map.mp hd
    rw [← e]; exact .tup (hb b hm)
  have hbt2 : ∀ d ∈ bs.map D.tup, Ok (m + 3) d := fun d hd => (hbt d hd).le (by omega)
  have gen : ∀ (s : Str), strOk s = true → Ok (m + 4) (.tup (.str s :: (as.map As.told ++ bs.map D.tup))) := fun s hs => .tup (ok_cons (.str hs) (ok_app ht2 hbt2))
  have loc : ∀ (x op : Str) (k : Kd) (z : D), strOk x = true → strOk op = true → K6 k → ExOk z → Ok (m + 4) (.tup [.str "set", .str x, .tup [.str "op", .str op, z, .tup (.tup [.str "local", .str x, vk k] :: as.map As.told), vk k]]) := fun x op k z hx ho hk hz => by
    have v := vk_ok hk
    exact .tup (n := m + 3) (ok_cons okS (ok_cons (.str hx) (ok_cons (.tup (n := m + 2) (ok_cons okS (ok_cons (.str ho) (ok_cons ((exok hz).le (by omega)) (ok_cons (.tup (n := m + 1) (ok_cons (.tup (n := m) (ok_cons okS (ok_cons (.str hx) (ok_cons (v.le (by omega)) ok_nil)))) fun d hd => (ht d hd).le (by omega))) (ok_cons (v.le (by omega)) ok_nil)))))) ok_nil)))
  intro w i hw
  cases w with
  | let_ y =>
    cases as with
    | nil => exact ⟨(fun x e => nomatch e), fun er e => by cases e; trivial⟩
    | cons a as =>
      simp only [rowOwn]
      cases hl : lookN ns y with
      | none => exact ⟨fun x e => by cases e; exact .tup (ok_cons okS (ok_cons (.str hw.2.2) (ok_cons ((ha a List.mem_cons_self).le (by omega)) ok_nil))), (fun er e => nomatch e)⟩
      | some k => exact ⟨(fun x e => nomatch e), fun er e => by cases e; exact hw.2.2⟩
  | set y =>
    simp only [rowOwn]
    cases hl : lookN ns y with
    | none => exact ⟨(fun x e => nomatch e), fun er e => by cases e; exact hw.2.2⟩
    | some k => exact ⟨fun x e => by rw [← then_ok e]; exact .tup (ok_cons okS (ok_cons (.str hw.2.2) ht2)), fun er e => due_er (then_err e)⟩
  | setat y =>
    simp only [rowOwn]
    cases hl : lookN ns y with
    | none => exact ⟨(fun x e => nomatch e), fun er e => by cases e; exact hw.2.2⟩
    | some k =>
      dsimp only
      split
      · exact ⟨fun x e => by rw [← then_ok e]; exact loc y "lay" k.1 .non hw.2.2 (by decide +kernel) (lookN_ok hN hl) (.inl rfl), fun er e => due_er (then_err e)⟩
      · exact ⟨(fun x e => nomatch e), fun er e => by cases e; trivial⟩
  | setf y ff =>
    simp only [rowOwn]
    cases hl : lookN ns y with
    | none => exact ⟨(fun x e => nomatch e), fun er e => by cases e; exact hw.2.2.1⟩
    | some k =>
      dsimp only
      split
      · refine ⟨fun x e => ?_, fun er e => ?_⟩
        · obtain ⟨i, _, e⟩ := bind_ok e
          rw [← then_ok e]; exact loc y "put" k.1 _ hw.2.2.1 (by decide +kernel) (lookN_ok hN hl) (.inr ⟨_, rfl⟩)
        · rcases bind_err e with e | ⟨i, _, e⟩
          · exact field_er hw.2.2.2 e
          · exact due_er (then_err e)
      · exact ⟨(fun x e => nomatch e), fun er e => by cases e; trivial⟩
  | if_ => simp only [rowOwn]; exact ⟨fun x e => by rw [← then_ok e]; exact gen "if" (by decide +kernel), fun er e => due_er (then_err e)⟩
  | while_ => simp only [rowOwn]; exact ⟨fun x e => by rw [← then_ok e]; exact gen "while" (by decide +kernel), fun er e => due_er (then_err e)⟩
  | log =>
    cases as with
    | nil => exact ⟨(fun x e => nomatch e), fun er e => by cases e; trivial⟩
    | cons a as =>
      simp only [rowOwn]
      split
      · exact ⟨fun x e => by cases e; exact .tup (ok_cons okS (ok_cons ((ha a List.mem_cons_self).le (by omega)) ok_nil)), (fun er e => nomatch e)⟩
      · exact ⟨(fun x e => nomatch e), fun er e => by cases e; trivial⟩
  | do_ => simp only [rowOwn]; exact ⟨fun x e => by cases e; exact .tup (ok_cons okS ht2), (fun er e => nomatch e)⟩
  | ret => simp only [rowOwn]; exact ⟨fun x e => by rw [← then_ok e]; exact .tup (ok_cons okS ht2), fun er e => due_er (then_err e)⟩
  | raise s => simp only [rowOwn]; exact ⟨fun x e => by cases e; exact .tup (ok_cons okS (ok_cons (.str hw.2.2) ok_nil)), (fun er e => nomatch e)⟩
  | try_ fs =>
    simp only [rowOwn]
    refine ⟨fun x e => ?_, (fun er e => nomatch e)⟩
    cases e
    cases bs with
    | nil => have := hw.2.1; simp only [List.length_nil] at this; omega
    | cons b bs =>
      simp only [List.map_cons, tryD]
      refine .tup (n := m + 3) (ok_cons okS (ok_cons ((Ok.tup (hb b List.mem_cons_self)).le (by omega)) (ok_cons ((Ok.tup (n := m + 2) (zips_ok hw.2.2.2 fun d hd => hbt d (List.mem_cons_of_mem _ hd))).le (by omega)) ok_nil)))
section
variable {h : Hd} {gk : Kd} (opS : ∀ {ns : Nm} {w : EW} {as : List As} {p : Nat} {r : Rk}, w.ok as.length → found h ns p w as = .ok r → strOk r.op = true)
include opS
mutual
theorem rw_lok : ∀ {n : Nat} {r : Rw}, WfR n r → ∀ {p : Nat} {ns : Nm}, NmOk ns → (∀ x, r.look h gk p ns = .ok x → Ok (4 * n + 4) x.1) ∧ (∀ er, r.look h gk p ns = .error er → ErOk er)
  | n + 1, .mk w es bs, .mk ok he hb, p, ns, hN => by
    have el : (Rw.mk w es bs).look h gk p ns = (Ex.asks h ns es (p + 1)).bind fun as => (Bds.look h gk bs (p + 1 + Ex.szs es) ns).bind fun ds => rowOwn gk p w as ds ns := by simp only [Rw.look]
    rw [el]
    have ihb := bds_lok hb (p := p + 1 + Ex.szs es) hN
    have go : ∀ as ds, Ex.asks h ns es (p + 1) = .ok as → Bds.look h gk bs (p + 1 + Ex.szs es) ns = .ok ds → (∀ x, rowOwn gk p w as ds ns = .ok x → Ok (4 * n + 4 + 4) x.1) ∧ (∀ er, rowOwn gk p w as ds ns = .error er → ErOk er) := fun as ds ea ed => by
      have hl := (ihb.1 ds ed).1
      exact own_ok (n := 2 * n + 3) hN (by omega) (by omega) (asks_ok hN opS he ea) (ihb.1 ds ed).2 (w := w) (i := es.length) (by rw [hl]; exact ok)
    constructor
    · intro x hx
      obtain ⟨as, ea, hx⟩ := bind_ok hx
      obtain ⟨ds, ed, hx⟩ := bind_ok hx
      exact ((go as ds ea ed).1 x hx).le (by omega)
    · intro er hx
      rcases bind_err hx with hx | ⟨as, ea, hx⟩
      · exact asks_er hN opS he hx
      · rcases bind_err hx with hx | ⟨ds, ed, hx⟩
        · exact ihb.2 er hx
        · exact (go as ds ea ed).2 er hx
theorem rws_lok : ∀ {n : Nat} {r : Rws}, WfS n r → ∀ {p : Nat} {ns : Nm}, NmOk ns → (∀ x, r.look h gk p ns = .ok x → ∀ d ∈ x.1, Ok (4 * n + 4) d) ∧ (∀ er, r.look h gk p ns = .error er → ErOk er)
  | n, .nil, _, p, ns, hN => by
    rw [look_nil]
    exact ⟨fun x hx => by cases hx; exact ok_nil, (fun er e => nomatch e)⟩
  | n, .cons r rs, .cons h1 h2, p, ns, hN => by
    rw [look_cons]
    have i1 := rw_lok h1 (p := p) hN
    constructor
    · intro x hx
      obtain ⟨y, ey, hx⟩ := bind_ok hx
      obtain ⟨z, ez, hx⟩ := bind_ok hx
      cases hx
      exact ok_cons (i1.1 y ey) ((rws_lok h2 (rw_nm h1 hN ey).1).1 z ez)
    · intro er hx
      rcases bind_err hx with hx | ⟨y, ey, hx⟩
      · exact i1.2 er hx
      · rcases bind_err hx with hx | ⟨z, ez, hx⟩
        · exact (rws_lok h2 (rw_nm h1 hN ey).1).2 er hx
        · cases hx
theorem bds_lok : ∀ {n : Nat} {r : Bds}, WfB n r → ∀ {p : Nat} {ns : Nm}, NmOk ns → (∀ x, r.look h gk p ns = .ok x → x.length = r.len ∧ ∀ b ∈ x, ∀ d ∈ b, Ok (4 * n + 4) d) ∧ (∀ er, r.look h gk p ns = .error er → ErOk er)
  | n, .nil, _, p, ns, hN => by
    simp only [Bds.look]
    exact ⟨fun x hx => by cases hx; exact ⟨rfl, fun _ z => nomatch z⟩, (fun er e => nomatch e)⟩
  | n, .cons b bs, .cons h1 h2, p, ns, hN => by
    have el : Bds.look h gk (.cons b bs) p ns = (b.look h gk p ns).bind fun x => (Bds.look h gk bs (p + b.sz) ns).bind fun y => .ok (x.1 :: y) := by simp only [Bds.look]
    rw [el]
    have i1 := rws_lok h1 (p := p) hN
    have i2 := bds_lok h2 (p := p + b.sz) hN
    constructor
    · intro x hx
      obtain ⟨y, ey, hx⟩ := bind_ok hx
      obtain ⟨z, ez, hx⟩ := bind_ok hx
      cases hx
      refine ⟨by simp only [List.length_cons, Bds.len, (i2.1 z ez).1], fun b2 hb => ?_⟩
      rcases List.mem_cons.mp hb with e | hb
      · rw [e]; exact i1.1 y ey
      · exact (i2.1 z ez).2 b2 hb
    · intro er hx
      rcases bind_err hx with hx | ⟨y, ey, hx⟩
      · exact i1.2 er hx
      · rcases bind_err hx with hx | ⟨z, ez, hx⟩
        · exact i2.2 er hx
        · cases hx
end
end
end
/-! S11: the law itself. -/
open PySem.PyData (strOk)
abbrev tLaw : Stmt := top 45
def spLaw : ASp := fun ds O Q _ => ∃ (xs : List D), ds = [.arg xs] ∧ O = [] ∧ (∀ d ∈ xs, ∃ i, d = .int i) ∧ xs.length ≤ 63 ∧ Q (.bl true) []
theorem rz_of_ok {α : Type} {m : Except Er α} {a : α} {ok : α → Prop} {bad : Er → Prop} (e : m = .ok a) (h : ok a) : Rz m ok bad := by rw [e]; exact h
theorem rz_of_bad {α : Type} {m : Except Er α} {a : Er} {ok : α → Prop} {bad : Er → Prop} (e : m = .error a) (h : bad a) : Rz m ok bad := by rw [e]; exact h
theorem opS' {h : Hd} {ns : Nm} {w : EW} {as : List As} {p : Nat} {r : Rk} (hw : w.ok as.length) (e : found h ns p w as = .ok r) : strOk r.op = true := found_opS hw e
theorem typed_ok {b1 b2 : Rws} (h1 : GdP b1) (h2 : GdP b2) : (∀ fs, typedR b1 b2 = .ok fs → (fs.map (·.1)).Nodup ∧ ∀ kv ∈ fs, Ok 60 kv.2) ∧ (∀ er, typedR b1 b2 = .error er → ErOk er) := by
  have i1 := rws_lok (h := hd0 b1) (gk := .num) opS' h1.1 (p := 2 + 1) (ns := nsM) ok1
  have i2 := rws_lok (h := hd0 b1) (gk := .row 2) opS' h2.1 (p := (hd0 b1).pg + 1) (ns := nsG (hd0 b1).pg) ok2
  unfold typedR
  constructor
  · intro fs e
    obtain ⟨x, ex, e⟩ := bind_ok e
    obtain ⟨y, ey, e⟩ := bind_ok e
    cases e
    have tk : ∀ (s : Str) (k : Kd), strOk s = true → K6 k → Ok 10 (.tup [.str s, vk k]) := fun s k hs hk => .tup (ok_cons (.str hs) (ok_cons ((vk_ok hk).le (by decide)) ok_nil))
    have oM : Ok 11 ownM := .tup (ok_cons (tk _ _ (by decide +kernel) .num) (ok_cons (tk _ _ (by decide +kernel) .truth) (ok_cons (tk _ _ (by decide +kernel) .row2) (ok_cons (tk _ _ (by decide +kernel) .pair) ok_nil))))
    have oG : Ok 11 ownG := .tup (ok_cons (tk _ _ (by decide +kernel) .pair) (ok_cons (tk _ _ (by decide +kernel) .num) ok_nil))
    refine ⟨by show List.Nodup [(.inr "main" : Key), .inr "g"]; decide +kernel, fun kv hk => ?_⟩
    rcases List.mem_cons.mp hk with e | hk
    · rw [e]
      exact .tup (n := 59) (ok_cons (oM.le (by decide)) (ok_cons ((vk_ok .num).le (by decide)) (ok_cons (.tup (n := 58) fun d hd => (i1.1 x ex d hd).le (by decide)) ok_nil)))
    · rcases List.mem_cons.mp hk with e | hk
      · rw [e]
        exact .tup (n := 59) (ok_cons (oG.le (by decide)) (ok_cons ((vk_ok .row2).le (by decide)) (ok_cons (.tup (n := 58) fun d hd => (i2.1 y ey d hd).le (by decide)) ok_nil)))
      · cases hk
  · intro er e
    rcases bind_err e with e | ⟨x, ex, e⟩
    · exact i1.2 er e
    · rcases bind_err e with e | ⟨y, ey, e⟩
      · exact i2.2 er e
      · cases e
theorem nats_mem {n : Nat} : ∀ d ∈ nats n, ∃ m : Nat, d = .int (m : Nat) := fun d hd => by
  obtain ⟨i, _, e⟩ := List.mem_map.mp hd
  exact ⟨i, e.symm⟩
section
variable {P : Program} {w : World} {K : PySem.W.Frag} {mg : Str → Option Value} {base : Heap} {f : Addr} {fd : FuncData} {k : Nat}
theorem okLaw (B : Lib mg) (g1 : FnA P w K mg base k "_law_box" spBox) (g2 : FnA P w K mg base k "_law_take" spTake) (g3 : FnA P w K mg base k "_law_program" spProg) (g4 : FnA P w K mg base k "_law_told" spTold) (g5 : FnA P w K mg base k "_law_due" spDue) (Fn : Fun K "law" "law" tLaw f fd) : FnOk P w K mg base (L2.CX P w) (k + 1) f fd ["_law_script"] (lift K spLaw) := by
  refine gate ?_
  simp (disch := with_unfolding_all (
      refine fnGx (Ns := ["_law_script", "_law_k", "_law_box_here", "_law_program_here"]) Fn rfl rfl ⟨rfl, rfl, rfl, by decide +kernel, rfl, by decide +kernel, by decide +kernel⟩ (fun ds O QA EA h => ?_) (by decide) (fun cdv A outer s H E hr ds O QA EA F h G => ?_)
      · obtain ⟨xs, x, _⟩ := h
        rw [x]; rfl
      obtain ⟨xs, x, eO, hx, hl, q⟩ := h
      subst x eO
      walk_at "r"
      walk_at "ks"
      refine ai_rangeE rfl B.rng ?_
      refine ae_max G.calm B.max ?_
      walk_at "ks"
      refine ae_min G.calm B.min ?_
      walk_at "ks"
      refine ⟨_, _, rfl, ?_⟩
      walk_at "ks"
      refine ⟨_, _, rfl, ?_⟩
      generalize hz : (if (if (12 : Int) < (xs.length : Nat) then (12 : Int) else (xs.length : Nat)) > 2 then (if (12 : Int) < (xs.length : Nat) then (12 : Int) else (xs.length : Nat)) else 2) = z
      have z0 : 0 ≤ z := by rw [← hz]; split <;> split <;> omega
      have z1 : z < 100 := by rw [← hz]; split <;> split <;> omega
      refine ⟨z.toNat, by rw [Int.toNat_of_nonneg z0], by omega, ?_⟩
      refine LoopA.inv (fun ds R O' => (∀ d ∈ ds, ∃ m : Nat, d = .int (m : Nat)) ∧ ∃ o1 o2 o3, R = ([("_law_script", some (.arg xs)), ("_law_k", o1), ("_law_box_here", o2), ("_law_program_here", o3)] : Rho)) (fun R O' h' => ?_) (fun dd ds R O' h' => ?_) ⟨nats_mem, none, none, none, rfl⟩
      · obtain ⟨_, o1, o2, o3, rfl⟩ := h'
        walk_at "ks"
        exact ⟨[], .nil, q⟩
      · obtain ⟨hm, o1, o2, o3, rfl⟩ := h'
        obtain ⟨m, rfl⟩ := hm dd List.mem_cons_self
        walk_at "k"
        with_reducible refine ASs.sel (O2 := []) .nil ?_
        walk_at "ks"
        refine calls_0 ⟨xs, _, rfl, rfl, hx, hl, fun p mo hmo => ⟨[(p, mo)], .new, ?_⟩⟩
        walk_at "ks"
        refine c_take hmo (by decide) (by decide) fun i mo2 i0 i1 hmo2 => ?_
        obtain ⟨a, b, c, d, rfl, hd⟩ := hmo2
        walk_at "ks"
        refine calls_1 ⟨p, _, rfl, rfl, ⟨a, b, c, 8 + i, rfl, by omega⟩, fun b1 b2 mo3 h1 h2 => ⟨_, pk_1, ?_⟩⟩
        obtain ⟨t1, t2⟩ := typed_ok h1 h2
        walk_at "k"
        walk_at "k"
        walk_at "k"
        cases ht : typedR b1 b2 with
        | ok fs =>
          obtain ⟨t3, t4⟩ := t1 fs ht
          with_reducible refine at_neDic G.un ?_
          walk_at "ks"
          refine calls_0 ⟨b1, b2, rfl, rfl, h1, h2, rz_of_ok ht ⟨_, pk_nil, ?_⟩⟩
          walk_at "ks"
          refine calls_0 ⟨b1, b2, rfl, rfl, h1, h2, rz_of_ok ht fun t => ⟨[(t, .dic fs), (p, mo3)], .new, ?_⟩⟩
          refine ⟨fs, 60, .inl rfl, .inr ⟨t, rfl, List.mem_cons_self⟩, t3, t4, by decide, ?_⟩
          refine ite_f ?_
          walk_at "ks"
          exact ⟨fun d hd => hm d (List.mem_cons_of_mem _ hd), _, _, _, rfl⟩
        | error er =>
          walk_at "ks"
          refine calls_0 ⟨b1, b2, rfl, rfl, h1, h2, rz_of_bad ht ⟨_, pk_nil, ?_⟩⟩
          walk_at "ks"
          refine calls_0 ⟨b1, b2, rfl, rfl, h1, h2, rz_of_bad ht ⟨_, pk_nil, ?_⟩⟩
          refine ⟨true, eqP_self (er_ok (t2 er ht)) (by decide), ?_⟩
          refine ite_nt ?_
          walk_at "ks"
          exact ⟨fun d hd => hm d (List.mem_cons_of_mem _ hd), _, _, _, rfl⟩
    )) only [↓gate_rule]
end
end K12
/-! Z1: all defs together. -/
namespace K12
open PySem PySem.Spec PyProof.Rows L2
structure FD (K : PySem.W.Frag) (mg : Str → Option Value) (x : Str) (st : Stmt) (ps : List Str) : Prop where
  to : ∃ f fd, Fun K x x st f fd ∧ mg x = some (.ref f) ∧ PySem.W.keepIn K (.ref f) = true ∧ Binds K fd ps []
structure MD (K : PySem.W.Frag) (C : Addr) (m qual : Str) (st : Stmt) (ps : List Str) : Prop where
  to : ∃ f fd, Fun K m qual st f fd ∧ Meth K C m f ∧ Cls K C ∧ Binds K fd ps []
structure CD (K : PySem.W.Frag) (mg : Str → Option Value) (x : Str) (C : Addr) (qual : Str) (st : Stmt) (ps : List Str) : Prop where
  to : ∃ f fd, Fun K "__init__" qual st f fd ∧ Mk K C f ∧ mg x = some (.ref C) ∧ Binds K fd ps []
structure ED (K : PySem.W.Frag) (mg : Str → Option Value) (x : Str) (C : Addr) (qual : Str) (st : Stmt) (ps : List Str) : Prop where
  T : OexC K C
  to : ∃ f fd, Fun K "__init__" qual st f fd ∧ PySem.W.findIn K (.ref C) "__init__" = some (some (.ref f)) ∧ PySem.W.typeIn K (.ref f) = some (.type "function") ∧ Binds K fd ps [] ∧ mg x = some (.ref C)
section
variable {P : Program} {w : World} {K : PySem.W.Frag} {mg : Str → Option Value} {base : Heap} {k j : Nat} {x qual : Str} {st : Stmt} {ps : List Str} {S S' : ASp} {C : Addr}
theorem FD.fn (h : FD K mg x st ps) (ok : ∀ f fd, Fun K x x st f fd → FnOk P w K mg base (L2.CX P w) j f fd ps (lift K S)) (l : j ≤ k := by decide) : FnA P w K mg base k x S := by
  obtain ⟨f, fd, F, h1, h2, h3⟩ := h.to
  exact ⟨f, fd, ps, (ok f fd F).mono l, h1, h2, h3⟩
theorem MD.mt {m : Str} (h : MD K C m qual st ps) (ok : ∀ f fd, Fun K m qual st f fd → FnOk P w K mg base (L2.CX P w) j f fd ps (lift K S)) (l : j ≤ k := by decide) : MtA P w K mg base k C m S := by
  obtain ⟨f, fd, F, h1, h2, h3⟩ := h.to
  exact ⟨f, fd, ps, (ok f fd F).mono l, h1, h2, h3⟩
theorem CD.mk' (h : CD K mg x C qual st ps) (ok : ∀ f fd, Fun K "__init__" qual st f fd → FnOk P w K mg base (L2.CX P w) j f fd ps (lift K S)) (l : j ≤ k := by decide) : MkA P w K mg base k x C S := by
  obtain ⟨f, fd, F, h1, h2, h3⟩ := h.to
  exact ⟨f, fd, ps, (ok f fd F).mono l, h1, h2, h3⟩
theorem ED.rs {f1 f2 : Str} (h : ED K mg x C qual st ps) (ok : ∀ f fd, Fun K "__init__" qual st f fd → FnOk P w K mg base (L2.CX P w) j f fd ps (initSp C f1 f2)) (l : j ≤ k := by decide) : RaiseC P w K mg base k x C f1 f2 := by
  obtain ⟨f, fd, F, h1, h2, h3, h4⟩ := h.to
  exact ⟨h.T, f, fd, ps, h1, h2, (ok f fd F).mono l, h3, h4⟩
theorem fn_no {f : Addr} {fd : FuncData} (no : ∀ ds O Q E, ¬ S ds O Q E) : FnOk P w K mg base (L2.CX P w) k f fd ps (lift K S) :=
  have no' : ∀ vs H Q E, ¬ lift K S vs H Q E := fun vs H Q E ⟨F, ds, O, QA, EA, _, _, _, _, h, _⟩ => no _ _ _ _ h
  ⟨fun vs H Q E h => absurd h (no' vs H Q E), fun A outer s H args us vs Q E _ _ _ _ h => absurd h (no' vs H Q E)⟩
theorem fn_sub {f : Addr} {fd : FuncData} (h : FnOk P w K mg base (L2.CX P w) k f fd ps (lift K S)) (s : ∀ ds O Q E, S' ds O Q E → S ds O Q E) : FnOk P w K mg base (L2.CX P w) k f fd ps (lift K S') :=
  h.imp fun vs H Q E ⟨F, ds, O, QA, EA, a1, a2, a3, a4, z, a5⟩ => ⟨F, ds, O, QA, EA, a1, a2, a3, a4, s _ _ _ _ z, a5⟩
end
/-- all that the written part says -/
structure AllC (w : World) (K : PySem.W.Frag) (mg : Str → Option Value) (c : Cs) (S0 CT CH CL : Addr) : Prop where
  B : Lib mg
  bs : BaseC K S0
  se : mg "StepError" = some (.ref S0)
  EC : ErC K mg c
  en : ED K mg "NoName" c.n "NoName.__init__" sNoName ["self", "name", "place"]
  et : ED K mg "Twice" c.t "Twice.__init__" sTwice ["self", "name", "place"]
  ef : ED K mg "NoFit" c.f "NoFit.__init__" sNoFit ["self", "wants", "gives"]
  num : GlM K mg "NUM" (Kd.enc .num)
  truth : GlM K mg "TRUTH" (Kd.enc .truth)
  two : TwoC w K mg
  hd : HdC K CH
  lk : LkC K CL
  ct : Cls K CT
  cf : NoAttr K CT "functions"
  fPR : FD K mg "parts_of_row" sPartsRow ["row"]
  fPI : FD K mg "parts_in" sPartsIn ["node"]
  fCo : FD K mg "counted" sCounted ["node"]
  fNe : FD K mg "need_agree" sNeed ["kind", "due", "wants", "gives"]
  fIn : FD K mg "inner_of" sInner ["node"]
  cT : CD K mg "Typed" CT "Typed.__init__" sTI ["self", "functions"]
  cH : CD K mg "Heads" CH "Heads.__init__" sHI ["self", "program"]
  mLR : MD K CH "look_record" "Heads.look_record" sLR ["self", "name", "fields", "place"]
  mLF : MD K CH "look_function" "Heads.look_function" sLF ["self", "function", "place"]
  mNK : MD K CH "need_kind" "Heads.need_kind" sNK ["self", "kind", "place"]
  mVK : MD K CH "value_kind" "Heads.value_kind" sVK ["self", "kind"]
  mFi : MD K CH "field" "Heads.field" sFld ["self", "kind", "name", "place"]
  mWa : MD K CH "wanted" "Heads.wanted" sWanted ["self", "node", "place"]
  cL : CD K mg "Looker" CL "Looker.__init__" sLI ["self", "heads", "gives", "place"]
  mNx : MD K CL "next_place" "Looker.next_place" sNext ["self"]
  mRs : MD K CL "look_rows" "Looker.look_rows" sRws ["self", "rows", "names"]
  mR : MD K CL "look_row" "Looker.look_row" sRw ["self", "row", "names"]
  mGi : MD K CL "given" "Looker.given" sGiven ["self", "row", "place", "names"]
  mAs : MD K CL "ask" "Looker.ask" sAsk ["self", "node", "names"]
  mRk : MD K CL "reckoned_kind" "Looker.reckoned_kind" sReck ["self", "node", "place", "asked"]
  fTy : FD K mg "typed" sTyped ["program"]
  fMi : FD K mg "_law_mixed" sMixed ["_law_cell", "_law_k"]
  fBo : FD K mg "_law_box" sBox ["_law_script", "_law_k"]
  fTa : FD K mg "_law_take" sTake ["_law_box_here", "_law_many"]
  fWr : FD K mg "_law_wrong" sWrong ["_law_box_here", "_law_thing", "_law_others"]
  fLe : FD K mg "_law_leaf" sLeaf ["_law_box_here", "_law_kind"]
  fGr : FD K mg "_law_grown" sGrown ["_law_box_here", "_law_due_here", "_law_depth"]
  fOn : FD K mg "_law_one_row" sOne ["_law_box_here", "_law_depth"]
  fSo : FD K mg "_law_some_rows" sSome ["_law_box_here", "_law_depth"]
  fPr : FD K mg "_law_program" sProg ["_law_box_here"]
  tIn : FD K mg "_law_inner" tInner ["_law_node"]
  tGr : FD K mg "_law_groups" tGroups ["_law_row_here"]
  tSp : FD K mg "_law_spread" tSpread ["_law_node", "_law_place", "_law_found"]
  tVK : FD K mg "_law_value_kind" tVK ["_law_kind", "_law_heads_here"]
  tWa : FD K mg "_law_wants" tWants ["_law_event", "_law_dues", "_law_kinds"]
  tFi : FD K mg "_law_field" tField ["_law_kind", "_law_name", "_law_heads_here", "_law_place"]
  tCa : FD K mg "_law_called" tCalled ["_law_event", "_law_heads_here", "_law_kinds"]
  tAs : FD K mg "_law_asked" tAsked ["_law_event", "_law_names", "_law_heads_here", "_law_kinds"]
  tTo : FD K mg "_law_asked_told" tTold ["_law_event", "_law_found", "_law_heads_here", "_law_told_here"]
  tSe : FD K mg "_law_set" tSet ["_law_event", "_law_names", "_law_heads_here", "_law_kinds", "_law_told_here"]
  tRo : FD K mg "_law_row" tRow ["_law_event", "_law_names", "_law_heads_here", "_law_kinds", "_law_told_here", "_law_gives"]
  tBo : FD K mg "_law_body" tBody ["_law_function", "_law_place", "_law_heads_here"]
  tHe : FD K mg "_law_heads" tHeads ["_law_program_here"]
  tDu : FD K mg "_law_due" tDue ["_law_program_here"]
  tTd : FD K mg "_law_told" tTold2 ["_law_program_here"]
section
variable {P : Program} {w : World} {K : PySem.W.Frag} {mg : Str → Option Value} {base : Heap} {c : Cs} {S0 CT CH CL : Addr}
theorem all_grown (A : AllC w K mg c S0 CT CH CL) : FnA P w K mg base 14 "_law_program" spProg ∧ FnA P w K mg base 14 "_law_box" spBox ∧ FnA P w K mg base 14 "_law_take" spTake := by
  have mi : FnA P w K mg base 1 "_law_mixed" spMixed := A.fMi.fn (j := 1) fun f fd F => okMixed F
  have ta : FnA P w K mg base 2 "_law_take" spTake := A.fTa.fn (j := 2) fun f fd F => okTake F mi
  have wr : FnA P w K mg base 3 "_law_wrong" spWrong := A.fWr.fn (j := 3) fun f fd F => okWrong A.B F ta
  have ta3 := ta.mono (show 2 ≤ 3 by decide)
  have le : FnA P w K mg base 4 "_law_leaf" spLeaf := A.fLe.fn (j := 4) fun f fd F => okLeaf A.B F ta3 wr
  have ta4 := ta.mono (show 2 ≤ 4 by decide)
  have wr4 := wr.mono (show 3 ≤ 4 by decide)
  have g0 : FnA P w K mg base 5 "_law_grown" (spGrown 0) := A.fGr.fn (j := 5) fun f fd F => okGrown0 ta4 wr4 le F
  have ok1 : ∀ f fd, Fun K "_law_grown" "_law_grown" sGrown f fd → FnOk P w K mg base (L2.CX P w) 6 f fd ["_law_box_here", "_law_due_here", "_law_depth"] (lift K (spGrown 1)) := fun f fd F => okGrown (ta.mono (by decide)) (wr.mono (by decide)) (le.mono (by decide)) g0 F
  have g1 : FnA P w K mg base 6 "_law_grown" (spGrown 1) := A.fGr.fn (j := 6) ok1
  have ok2 : ∀ f fd, Fun K "_law_grown" "_law_grown" sGrown f fd → FnOk P w K mg base (L2.CX P w) 7 f fd ["_law_box_here", "_law_due_here", "_law_depth"] (lift K (spGrown 2)) := fun f fd F => okGrown (ta.mono (by decide)) (wr.mono (by decide)) (le.mono (by decide)) g1 F
  have gr : FnA P w K mg base 7 "_law_grown" spGr := A.fGr.fn (j := 7) fun f fd F => FnOkA.or ((ok1 f fd F).mono (by decide)) (ok2 f fd F)
  have r0 : FnA P w K mg base 8 "_law_one_row" (spRow 0) := A.fOn.fn (j := 8) fun f fd F => okRow0 (ta.mono (by decide)) (wr.mono (by decide)) gr F
  have s0 : FnA P w K mg base 9 "_law_some_rows" (spRows 0) := A.fSo.fn (j := 9) fun f fd F => okRows A.B (ta.mono (by decide)) r0 F
  have r1 : FnA P w K mg base 10 "_law_one_row" (spRow 1) := A.fOn.fn (j := 10) fun f fd F => okRow (ta.mono (by decide)) (wr.mono (by decide)) (gr.mono (by decide)) s0 F
  have ok3 : ∀ f fd, Fun K "_law_some_rows" "_law_some_rows" sSome f fd → FnOk P w K mg base (L2.CX P w) 11 f fd ["_law_box_here", "_law_depth"] (lift K (spRows 1)) := fun f fd F => okRows A.B (ta.mono (by decide)) r1 F
  have s1 : FnA P w K mg base 11 "_law_some_rows" (spRows 1) := A.fSo.fn (j := 11) ok3
  have r2 : FnA P w K mg base 12 "_law_one_row" (spRow 2) := A.fOn.fn (j := 12) fun f fd F => okRow (ta.mono (by decide)) (wr.mono (by decide)) (gr.mono (by decide)) s1 F
  have sm : FnA P w K mg base 13 "_law_some_rows" spSm := A.fSo.fn (j := 13) fun f fd F => FnOkA.or (okRows A.B (ta.mono (by decide)) r2 F) ((ok3 f fd F).mono (by decide))
  exact ⟨A.fPr.fn (j := 14) fun f fd F => okProg A.B sm (gr.mono (by decide)) F, A.fBo.fn (j := 1) fun f fd F => okBox F, ta.mono (by decide)⟩
theorem all_raise (A : AllC w K mg c S0 CT CH CL) : RaiseC P w K mg base 1 "NoName" c.n "name" "place" ∧ RaiseC P w K mg base 1 "Twice" c.t "name" "place" ∧ RaiseC P w K mg base 1 "NoFit" c.f "wants" "gives" :=
  ⟨A.en.rs (j := 1) fun f fd F => ok_iNoName F A.bs A.en.T A.se A.EC.n1 A.EC.n2, A.et.rs (j := 1) fun f fd F => ok_iTwice F A.bs A.et.T A.se A.EC.t1 A.EC.t2, A.ef.rs (j := 1) fun f fd F => ok_iNoFit F A.bs A.ef.T A.se A.EC.f1 A.EC.f2⟩
theorem all_ask (A : AllC w K mg c S0 CT CH CL) : ∀ n : Nat, MtA P w K mg base (4 + n) CL "ask" (spAsk n CL CH c)
  | 0 => A.mAs.mt (j := 4) fun f fd F => fn_no fun ds O Q E ⟨a, b, h, g, q, e, ns, _, _, hh, _⟩ => by cases hh
  | n + 1 => by
    obtain ⟨e1, e2, e3⟩ := all_raise (P := P) (base := base) A
    have nx : MtA P w K mg base 1 CL "next_place" (spNext CL) := A.mNx.mt (j := 1) fun f fd F => okNext A.lk F
    have inn : FnA P w K mg base 1 "inner_of" spInner := A.fIn.fn (j := 1) fun f fd F => okInner F
    have vk : MtA P w K mg base 1 CH "value_kind" (spVK CH) := A.mVK.mt (j := 1) fun f fd F => okVK A.B A.hd F
    have fi : MtA P w K mg base 3 CH "field" (spFld CH c) := A.mFi.mt (j := 3) fun f fd F => okFld A.B A.hd e1 F
    have wa : MtA P w K mg base 3 CH "wanted" (spWanted CH c) := A.mWa.mt (j := 3) fun f fd F => okWanted A.B A.hd e1 F
    have ne : FnA P w K mg base 3 "need_agree" (spNeed c) := A.fNe.fn (j := 3) fun f fd F => okNeed e3 F
    have rk : MtA P w K mg base 4 CL "reckoned_kind" (spReck CL CH c) := A.mRk.mt (j := 4) fun f fd F => okReck A.B A.lk A.hd A.num A.truth A.two ne wa fi (e3.mono (by decide)) F
    have ih := all_ask A n
    have e : 4 + n = 3 + n + 1 := by omega
    rw [e] at ih
    exact A.mAs.mt (j := 3 + n + 1 + 1) (fun f fd F => okAsk A.B A.lk A.hd (nx.mono (by omega)) (inn.mono (by omega)) ih (rk.mono (by omega)) (vk.mono (by omega)) (e1.mono (by omega)) F) (by omega)
theorem all_rows (A : AllC w K mg c S0 CT CH CL) : ∀ n : Nat, MtA P w K mg base (5 + 2 * n) CL "look_rows" (spRws n CL CH c)
  | 0 => by
    have r0 : MtA P w K mg base 4 CL "look_row" (spRw 0 CL CH c) := A.mR.mt (j := 4) fun f fd F => fn_no fun ds O Q E ⟨a, b, h, gk, q, r, ns, _, _, hh, _⟩ => by cases hh
    exact A.mRs.mt (j := 5) (fun f fd F => okLookRows A.B A.lk r0 F)
  | n + 1 => by
    obtain ⟨e1, e2, e3⟩ := all_raise (P := P) (base := base) A
    have ih := all_rows A n
    have ak := all_ask (P := P) (base := base) A n
    have nx : MtA P w K mg base 1 CL "next_place" (spNext CL) := A.mNx.mt (j := 1) fun f fd F => okNext A.lk F
    have vk : MtA P w K mg base 1 CH "value_kind" (spVK CH) := A.mVK.mt (j := 1) fun f fd F => okVK A.B A.hd F
    have fi : MtA P w K mg base 3 CH "field" (spFld CH c) := A.mFi.mt (j := 3) fun f fd F => okFld A.B A.hd e1 F
    have ne : FnA P w K mg base 3 "need_agree" (spNeed c) := A.fNe.fn (j := 3) fun f fd F => okNeed e3 F
    have e : 4 + n = 3 + n + 1 := by omega
    rw [e] at ak
    have gi : MtA P w K mg base (3 + n + 1 + 1) CL "given" (spGiven n CL CH c) := A.mGi.mt (j := 3 + n + 1 + 1) (fun f fd F => okGiven A.B A.lk A.hd A.num (ne.mono (by omega)) ak (fi.mono (by omega)) (vk.mono (by omega)) (e1.mono (by omega)) (e2.mono (by omega)) F) (Nat.le_refl _)
    have e' : 5 + 2 * n = 4 + 2 * n + 1 := by omega
    rw [e'] at ih
    have ro : MtA P w K mg base (4 + 2 * n + 1 + 1) CL "look_row" (spRw (n + 1) CL CH c) := A.mR.mt (j := 4 + 2 * n + 1 + 1) (fun f fd F => okLookRow A.B A.lk A.num A.truth (nx.mono (by omega)) (ne.mono (by omega)) (ak.mono (by omega)) (gi.mono (by omega)) ih (e3.mono (by omega)) F) (Nat.le_refl _)
    exact A.mRs.mt (j := 4 + 2 * n + 1 + 1 + 1) (fun f fd F => okLookRows A.B A.lk ro F) (by omega)
theorem all_typed (A : AllC w K mg c S0 CT CH CL) : FnA P w K mg base 21 "_law_told" spTold := by
  have pr : FnA P w K mg base 1 "parts_of_row" spPartsRow := A.fPR.fn (j := 1) fun f fd F => okPartsRow A.B F
  have pi : FnA P w K mg base 2 "parts_in" spPartsIn := A.fPI.fn (j := 2) fun f fd F => okPartsIn A.B pr F
  have co : FnA P w K mg base 3 "counted" spCounted := A.fCo.fn (j := 3) fun f fd F => okCounted pi F
  have nk : MtA P w K mg base 1 CH "need_kind" (spNK CH) := A.mNK.mt (j := 1) fun f fd F => okNK A.hd F
  have lr : MtA P w K mg base 3 CH "look_record" (spLR CH) := A.mLR.mt (j := 1) fun f fd F => okLR A.B A.hd F
  have lf : MtA P w K mg base 3 CH "look_function" (spLF CH) := A.mLF.mt (j := 2) fun f fd F => okLF A.B A.hd nk F
  have hi : MkA P w K mg base 18 "Heads" CH (spHI CH) := A.cH.mk' (j := 4) fun f fd F => okHI A.B A.hd lr lf co F
  have li : MkA P w K mg base 18 "Looker" CL (spLI CL) := A.cL.mk' (j := 1) fun f fd F => okLI A.lk F
  have ti : MkA P w K mg base 18 "Typed" CT (spTI CT) := A.cT.mk' (j := 1) fun f fd F => okTI A.B A.ct A.cf F
  have vk : MtA P w K mg base 19 CH "value_kind" (spVK CH) := A.mVK.mt (j := 1) fun f fd F => okVK A.B A.hd F
  have rs : MtA P w K mg base 19 CL "look_rows" (spRws 7 CL CH c) := all_rows A 7
  have ty : FnA P w K mg base 20 "typed" (spTyped CT c) := A.fTy.fn (j := 20) fun f fd F => okTyped rfl A.B A.lk A.hd hi li ti vk rs F
  exact A.tTd.fn (j := 21) fun f fd F => okTold A.B A.EC A.ct A.cf ty F
theorem all_spread (A : AllC w K mg c S0 CT CH CL) : ∀ n : Nat, FnA P w K mg base (n + 1) "_law_spread" (spSpread n)
  | 0 => A.tSp.fn (j := 1) fun f fd F => fn_no fun ds O Q E ⟨d, es, bs, p, fr, xs, _, _, _, _, ⟨m, hm, _⟩, _⟩ => by omega
  | n + 1 => A.tSp.fn (j := n + 1 + 1) (fun f fd F => okSpread A.B (A.tIn.fn (j := 1) (fun f fd F => okInnerL A.B F) (by omega)) (A.tGr.fn (j := 1) (fun f fd F => okGroupsL A.B F) (by omega)) (all_spread A n) F) (Nat.le_refl _)
theorem all_due (A : AllC w K mg c S0 CT CH CL) : FnA P w K mg base 12 "_law_due" spDue := by
  have vk : FnA P w K mg base 1 "_law_value_kind" spVKL := A.tVK.fn (j := 1) fun f fd F => okVKL F
  have wn : FnA P w K mg base 1 "_law_wants" spWantsL := A.tWa.fn (j := 1) fun f fd F => okWantsL A.B F
  have fi : FnA P w K mg base 2 "_law_field" spFieldL := A.tFi.fn (j := 1) fun f fd F => okFieldL F
  have ca : FnA P w K mg base 2 "_law_called" spCalledL := A.tCa.fn (j := 2) fun f fd F => okCalledL A.B wn F
  have ak : FnA P w K mg base 10 "_law_asked" spAskedL := A.tAs.fn (j := 3) fun f fd F => okAskedL A.B (wn.mono (by decide)) ca fi F
  have tl : FnA P w K mg base 10 "_law_asked_told" spToldL := A.tTo.fn (j := 2) fun f fd F => okToldL A.B vk F
  have se : FnA P w K mg base 3 "_law_set" spSetL := A.tSe.fn (j := 3) fun f fd F => okSetL A.B (vk.mono (by decide)) (wn.mono (by decide)) fi F
  have ro : FnA P w K mg base 10 "_law_row" spRowL := A.tRo.fn (j := 4) fun f fd F => okRowL A.B (wn.mono (by decide)) se F
  have s7 : FnA P w K mg base 10 "_law_spread" (spSpread 7) := (all_spread A 7).mono (by decide)
  have s8 : FnA P w K mg base 10 "_law_spread" (spSpread 8) := (all_spread A 8).mono (by decide)
  have bo : FnA P w K mg base 11 "_law_body" spBody := A.tBo.fn (j := 11) fun f fd F => okBody A.B s7 ro ak tl (vk.mono (by decide)) F
  have he : FnA P w K mg base 11 "_law_heads" spHeads := A.tHe.fn (j := 11) fun f fd F => okHeads A.B s8 F
  exact A.tDu.fn (j := 12) fun f fd F => okDue A.B he bo F
theorem all_law (A : AllC w K mg c S0 CT CH CL) {f : Addr} {fd : FuncData} (F : Fun K "law" "law" tLaw f fd) : FnOk P w K mg base (L2.CX P w) 22 f fd ["_law_script"] (lift K spLaw) := by
  obtain ⟨g1, g2, g3⟩ := all_grown (P := P) (base := base) A
  exact okLaw A.B (g2.mono (by decide)) (g3.mono (by decide)) (g1.mono (by decide)) (all_typed A) ((all_due A).mono (by decide)) F
end
end K12
/-! Z2: the program's top: what the written part is to say. -/
namespace K12
open PySem PySem.Spec PyProof.Rows L2
section
variable {w : World} {K : PySem.W.Frag} {h : Heap} {mg : Str → Option Value}
theorem d_fPR (X : K.In h) (G : h.Ns mainGlobals mg) {f : Addr} {od an : Option Addr} {sl : Array (Option Value)} {oc kV dc pm cd ct : Value} (a : PySem.W.nsIn K mainGlobals "parts_of_row" = some (some (.ref f))) (l : K.lookup f = some ⟨oc, od, .func (PySem.W.fnOf "parts_of_row" "parts_of_row" (defArgs sPartsRow) (defBody sPartsRow) (defScope sPartsRow) .none kV dc pm an cd ct), sl⟩) (c : PySem.W.codeIn K cd "parts_of_row" = true) (k : PySem.W.keepIn K (.ref f) = true) : FD K mg "parts_of_row" sPartsRow ["row"] :=
  ⟨_, _, fun_mk (st := sPartsRow) l c k, PySem.W.mg_of X G a, k, (fun_mk (st := sPartsRow) l c k).binds (ps := ["row"]) fun _ _ _ _ _ _ us hl => match us, hl with | [_], _ => rfl⟩
theorem d_fPI (X : K.In h) (G : h.Ns mainGlobals mg) {f : Addr} {od an : Option Addr} {sl : Array (Option Value)} {oc kV dc pm cd ct : Value} (a : PySem.W.nsIn K mainGlobals "parts_in" = some (some (.ref f))) (l : K.lookup f = some ⟨oc, od, .func (PySem.W.fnOf "parts_in" "parts_in" (defArgs sPartsIn) (defBody sPartsIn) (defScope sPartsIn) .none kV dc pm an cd ct), sl⟩) (c : PySem.W.codeIn K cd "parts_in" = true) (k : PySem.W.keepIn K (.ref f) = true) : FD K mg "parts_in" sPartsIn ["node"] :=
  ⟨_, _, fun_mk (st := sPartsIn) l c k, PySem.W.mg_of X G a, k, (fun_mk (st := sPartsIn) l c k).binds (ps := ["node"]) fun _ _ _ _ _ _ us hl => match us, hl with | [_], _ => rfl⟩
theorem d_fCo (X : K.In h) (G : h.Ns mainGlobals mg) {f : Addr} {od an : Option Addr} {sl : Array (Option Value)} {oc kV dc pm cd ct : Value} (a : PySem.W.nsIn K mainGlobals "counted" = some (some (.ref f))) (l : K.lookup f = some ⟨oc, od, .func (PySem.W.fnOf "counted" "counted" (defArgs sCounted) (defBody sCounted) (defScope sCounted) .none kV dc pm an cd ct), sl⟩) (c : PySem.W.codeIn K cd "counted" = true) (k : PySem.W.keepIn K (.ref f) = true) : FD K mg "counted" sCounted ["node"] :=
  ⟨_, _, fun_mk (st := sCounted) l c k, PySem.W.mg_of X G a, k, (fun_mk (st := sCounted) l c k).binds (ps := ["node"]) fun _ _ _ _ _ _ us hl => match us, hl with | [_], _ => rfl⟩
theorem d_fNe (X : K.In h) (G : h.Ns mainGlobals mg) {f : Addr} {od an : Option Addr} {sl : Array (Option Value)} {oc kV dc pm cd ct : Value} (a : PySem.W.nsIn K mainGlobals "need_agree" = some (some (.ref f))) (l : K.lookup f = some ⟨oc, od, .func (PySem.W.fnOf "need_agree" "need_agree" (defArgs sNeed) (defBody sNeed) (defScope sNeed) .none kV dc pm an cd ct), sl⟩) (c : PySem.W.codeIn K cd "need_agree" = true) (k : PySem.W.keepIn K (.ref f) = true) : FD K mg "need_agree" sNeed ["kind", "due", "wants", "gives"] :=
  ⟨_, _, fun_mk (st := sNeed) l c k, PySem.W.mg_of X G a, k, (fun_mk (st := sNeed) l c k).binds (ps := ["kind", "due", "wants", "gives"]) fun _ _ _ _ _ _ us hl => match us, hl with | [_, _, _, _], _ => rfl⟩
theorem d_fIn (X : K.In h) (G : h.Ns mainGlobals mg) {f : Addr} {od an : Option Addr} {sl : Array (Option Value)} {oc kV dc pm cd ct : Value} (a : PySem.W.nsIn K mainGlobals "inner_of" = some (some (.ref f))) (l : K.lookup f = some ⟨oc, od, .func (PySem.W.fnOf "inner_of" "inner_of" (defArgs sInner) (defBody sInner) (defScope sInner) .none kV dc pm an cd ct), sl⟩) (c : PySem.W.codeIn K cd "inner_of" = true) (k : PySem.W.keepIn K (.ref f) = true) : FD K mg "inner_of" sInner ["node"] :=
  ⟨_, _, fun_mk (st := sInner) l c k, PySem.W.mg_of X G a, k, (fun_mk (st := sInner) l c k).binds (ps := ["node"]) fun _ _ _ _ _ _ us hl => match us, hl with | [_], _ => rfl⟩
theorem d_fTy (X : K.In h) (G : h.Ns mainGlobals mg) {f : Addr} {od an : Option Addr} {sl : Array (Option Value)} {oc kV dc pm cd ct : Value} (a : PySem.W.nsIn K mainGlobals "typed" = some (some (.ref f))) (l : K.lookup f = some ⟨oc, od, .func (PySem.W.fnOf "typed" "typed" (defArgs sTyped) (defBody sTyped) (defScope sTyped) .none kV dc pm an cd ct), sl⟩) (c : PySem.W.codeIn K cd "typed" = true) (k : PySem.W.keepIn K (.ref f) = true) : FD K mg "typed" sTyped ["program"] :=
  ⟨_, _, fun_mk (st := sTyped) l c k, PySem.W.mg_of X G a, k, (fun_mk (st := sTyped) l c k).binds (ps := ["program"]) fun _ _ _ _ _ _ us hl => match us, hl with | [_], _ => rfl⟩
theorem d_fMi (X : K.In h) (G : h.Ns mainGlobals mg) {f : Addr} {od an : Option Addr} {sl : Array (Option Value)} {oc kV dc pm cd ct : Value} (a : PySem.W.nsIn K mainGlobals "_law_mixed" = some (some (.ref f))) (l : K.lookup f = some ⟨oc, od, .func (PySem.W.fnOf "_law_mixed" "_law_mixed" (defArgs sMixed) (defBody sMixed) (defScope sMixed) .none kV dc pm an cd ct), sl⟩) (c : PySem.W.codeIn K cd "_law_mixed" = true) (k : PySem.W.keepIn K (.ref f) = true) : FD K mg "_law_mixed" sMixed ["_law_cell", "_law_k"] :=
  ⟨_, _, fun_mk (st := sMixed) l c k, PySem.W.mg_of X G a, k, (fun_mk (st := sMixed) l c k).binds (ps := ["_law_cell", "_law_k"]) fun _ _ _ _ _ _ us hl => match us, hl with | [_, _], _ => rfl⟩
theorem d_fBo (X : K.In h) (G : h.Ns mainGlobals mg) {f : Addr} {od an : Option Addr} {sl : Array (Option Value)} {oc kV dc pm cd ct : Value} (a : PySem.W.nsIn K mainGlobals "_law_box" = some (some (.ref f))) (l : K.lookup f = some ⟨oc, od, .func (PySem.W.fnOf "_law_box" "_law_box" (defArgs sBox) (defBody sBox) (defScope sBox) .none kV dc pm an cd ct), sl⟩) (c : PySem.W.codeIn K cd "_law_box" = true) (k : PySem.W.keepIn K (.ref f) = true) : FD K mg "_law_box" sBox ["_law_script", "_law_k"] :=
  ⟨_, _, fun_mk (st := sBox) l c k, PySem.W.mg_of X G a, k, (fun_mk (st := sBox) l c k).binds (ps := ["_law_script", "_law_k"]) fun _ _ _ _ _ _ us hl => match us, hl with | [_, _], _ => rfl⟩
theorem d_fTa (X : K.In h) (G : h.Ns mainGlobals mg) {f : Addr} {od an : Option Addr} {sl : Array (Option Value)} {oc kV dc pm cd ct : Value} (a : PySem.W.nsIn K mainGlobals "_law_take" = some (some (.ref f))) (l : K.lookup f = some ⟨oc, od, .func (PySem.W.fnOf "_law_take" "_law_take" (defArgs sTake) (defBody sTake) (defScope sTake) .none kV dc pm an cd ct), sl⟩) (c : PySem.W.codeIn K cd "_law_take" = true) (k : PySem.W.keepIn K (.ref f) = true) : FD K mg "_law_take" sTake ["_law_box_here", "_law_many"] :=
  ⟨_, _, fun_mk (st := sTake) l c k, PySem.W.mg_of X G a, k, (fun_mk (st := sTake) l c k).binds (ps := ["_law_box_here", "_law_many"]) fun _ _ _ _ _ _ us hl => match us, hl with | [_, _], _ => rfl⟩
theorem d_fWr (X : K.In h) (G : h.Ns mainGlobals mg) {f : Addr} {od an : Option Addr} {sl : Array (Option Value)} {oc kV dc pm cd ct : Value} (a : PySem.W.nsIn K mainGlobals "_law_wrong" = some (some (.ref f))) (l : K.lookup f = some ⟨oc, od, .func (PySem.W.fnOf "_law_wrong" "_law_wrong" (defArgs sWrong) (defBody sWrong) (defScope sWrong) .none kV dc pm an cd ct), sl⟩) (c : PySem.W.codeIn K cd "_law_wrong" = true) (k : PySem.W.keepIn K (.ref f) = true) : FD K mg "_law_wrong" sWrong ["_law_box_here", "_law_thing", "_law_others"] :=
  ⟨_, _, fun_mk (st := sWrong) l c k, PySem.W.mg_of X G a, k, (fun_mk (st := sWrong) l c k).binds (ps := ["_law_box_here", "_law_thing", "_law_others"]) fun _ _ _ _ _ _ us hl => match us, hl with | [_, _, _], _ => rfl⟩
theorem d_fLe (X : K.In h) (G : h.Ns mainGlobals mg) {f : Addr} {od an : Option Addr} {sl : Array (Option Value)} {oc kV dc pm cd ct : Value} (a : PySem.W.nsIn K mainGlobals "_law_leaf" = some (some (.ref f))) (l : K.lookup f = some ⟨oc, od, .func (PySem.W.fnOf "_law_leaf" "_law_leaf" (defArgs sLeaf) (defBody sLeaf) (defScope sLeaf) .none kV dc pm an cd ct), sl⟩) (c : PySem.W.codeIn K cd "_law_leaf" = true) (k : PySem.W.keepIn K (.ref f) = true) : FD K mg "_law_leaf" sLeaf ["_law_box_here", "_law_kind"] :=
  ⟨_, _, fun_mk (st := sLeaf) l c k, PySem.W.mg_of X G a, k, (fun_mk (st := sLeaf) l c k).binds (ps := ["_law_box_here", "_law_kind"]) fun _ _ _ _ _ _ us hl => match us, hl with | [_, _], _ => rfl⟩
theorem d_fGr (X : K.In h) (G : h.Ns mainGlobals mg) {f : Addr} {od an : Option Addr} {sl : Array (Option Value)} {oc kV dc pm cd ct : Value} (a : PySem.W.nsIn K mainGlobals "_law_grown" = some (some (.ref f))) (l : K.lookup f = some ⟨oc, od, .func (PySem.W.fnOf "_law_grown" "_law_grown" (defArgs sGrown) (defBody sGrown) (defScope sGrown) .none kV dc pm an cd ct), sl⟩) (c : PySem.W.codeIn K cd "_law_grown" = true) (k : PySem.W.keepIn K (.ref f) = true) : FD K mg "_law_grown" sGrown ["_law_box_here", "_law_due_here", "_law_depth"] :=
  ⟨_, _, fun_mk (st := sGrown) l c k, PySem.W.mg_of X G a, k, (fun_mk (st := sGrown) l c k).binds (ps := ["_law_box_here", "_law_due_here", "_law_depth"]) fun _ _ _ _ _ _ us hl => match us, hl with | [_, _, _], _ => rfl⟩
theorem d_fOn (X : K.In h) (G : h.Ns mainGlobals mg) {f : Addr} {od an : Option Addr} {sl : Array (Option Value)} {oc kV dc pm cd ct : Value} (a : PySem.W.nsIn K mainGlobals "_law_one_row" = some (some (.ref f))) (l : K.lookup f = some ⟨oc, od, .func (PySem.W.fnOf "_law_one_row" "_law_one_row" (defArgs sOne) (defBody sOne) (defScope sOne) .none kV dc pm an cd ct), sl⟩) (c : PySem.W.codeIn K cd "_law_one_row" = true) (k : PySem.W.keepIn K (.ref f) = true) : FD K mg "_law_one_row" sOne ["_law_box_here", "_law_depth"] :=
  ⟨_, _, fun_mk (st := sOne) l c k, PySem.W.mg_of X G a, k, (fun_mk (st := sOne) l c k).binds (ps := ["_law_box_here", "_law_depth"]) fun _ _ _ _ _ _ us hl => match us, hl with | [_, _], _ => rfl⟩
theorem d_fSo (X : K.In h) (G : h.Ns mainGlobals mg) {f : Addr} {od an : Option Addr} {sl : Array (Option Value)} {oc kV dc pm cd ct : Value} (a : PySem.W.nsIn K mainGlobals "_law_some_rows" = some (some (.ref f))) (l : K.lookup f = some ⟨oc, od, .func (PySem.W.fnOf "_law_some_rows" "_law_some_rows" (defArgs sSome) (defBody sSome) (defScope sSome) .none kV dc pm an cd ct), sl⟩) (c : PySem.W.codeIn K cd "_law_some_rows" = true) (k : PySem.W.keepIn K (.ref f) = true) : FD K mg "_law_some_rows" sSome ["_law_box_here", "_law_depth"] :=
  ⟨_, _, fun_mk (st := sSome) l c k, PySem.W.mg_of X G a, k, (fun_mk (st := sSome) l c k).binds (ps := ["_law_box_here", "_law_depth"]) fun _ _ _ _ _ _ us hl => match us, hl with | [_, _], _ => rfl⟩
theorem d_fPr (X : K.In h) (G : h.Ns mainGlobals mg) {f : Addr} {od an : Option Addr} {sl : Array (Option Value)} {oc kV dc pm cd ct : Value} (a : PySem.W.nsIn K mainGlobals "_law_program" = some (some (.ref f))) (l : K.lookup f = some ⟨oc, od, .func (PySem.W.fnOf "_law_program" "_law_program" (defArgs sProg) (defBody sProg) (defScope sProg) .none kV dc pm an cd ct), sl⟩) (c : PySem.W.codeIn K cd "_law_program" = true) (k : PySem.W.keepIn K (.ref f) = true) : FD K mg "_law_program" sProg ["_law_box_here"] :=
  ⟨_, _, fun_mk (st := sProg) l c k, PySem.W.mg_of X G a, k, (fun_mk (st := sProg) l c k).binds (ps := ["_law_box_here"]) fun _ _ _ _ _ _ us hl => match us, hl with | [_], _ => rfl⟩
theorem d_tIn (X : K.In h) (G : h.Ns mainGlobals mg) {f : Addr} {od an : Option Addr} {sl : Array (Option Value)} {oc kV dc pm cd ct : Value} (a : PySem.W.nsIn K mainGlobals "_law_inner" = some (some (.ref f))) (l : K.lookup f = some ⟨oc, od, .func (PySem.W.fnOf "_law_inner" "_law_inner" (defArgs tInner) (defBody tInner) (defScope tInner) .none kV dc pm an cd ct), sl⟩) (c : PySem.W.codeIn K cd "_law_inner" = true) (k : PySem.W.keepIn K (.ref f) = true) : FD K mg "_law_inner" tInner ["_law_node"] :=
  ⟨_, _, fun_mk (st := tInner) l c k, PySem.W.mg_of X G a, k, (fun_mk (st := tInner) l c k).binds (ps := ["_law_node"]) fun _ _ _ _ _ _ us hl => match us, hl with | [_], _ => rfl⟩
theorem d_tGr (X : K.In h) (G : h.Ns mainGlobals mg) {f : Addr} {od an : Option Addr} {sl : Array (Option Value)} {oc kV dc pm cd ct : Value} (a : PySem.W.nsIn K mainGlobals "_law_groups" = some (some (.ref f))) (l : K.lookup f = some ⟨oc, od, .func (PySem.W.fnOf "_law_groups" "_law_groups" (defArgs tGroups) (defBody tGroups) (defScope tGroups) .none kV dc pm an cd ct), sl⟩) (c : PySem.W.codeIn K cd "_law_groups" = true) (k : PySem.W.keepIn K (.ref f) = true) : FD K mg "_law_groups" tGroups ["_law_row_here"] :=
  ⟨_, _, fun_mk (st := tGroups) l c k, PySem.W.mg_of X G a, k, (fun_mk (st := tGroups) l c k).binds (ps := ["_law_row_here"]) fun _ _ _ _ _ _ us hl => match us, hl with | [_], _ => rfl⟩
theorem d_tSp (X : K.In h) (G : h.Ns mainGlobals mg) {f : Addr} {od an : Option Addr} {sl : Array (Option Value)} {oc kV dc pm cd ct : Value} (a : PySem.W.nsIn K mainGlobals "_law_spread" = some (some (.ref f))) (l : K.lookup f = some ⟨oc, od, .func (PySem.W.fnOf "_law_spread" "_law_spread" (defArgs tSpread) (defBody tSpread) (defScope tSpread) .none kV dc pm an cd ct), sl⟩) (c : PySem.W.codeIn K cd "_law_spread" = true) (k : PySem.W.keepIn K (.ref f) = true) : FD K mg "_law_spread" tSpread ["_law_node", "_law_place", "_law_found"] :=
  ⟨_, _, fun_mk (st := tSpread) l c k, PySem.W.mg_of X G a, k, (fun_mk (st := tSpread) l c k).binds (ps := ["_law_node", "_law_place", "_law_found"]) fun _ _ _ _ _ _ us hl => match us, hl with | [_, _, _], _ => rfl⟩
theorem d_tVK (X : K.In h) (G : h.Ns mainGlobals mg) {f : Addr} {od an : Option Addr} {sl : Array (Option Value)} {oc kV dc pm cd ct : Value} (a : PySem.W.nsIn K mainGlobals "_law_value_kind" = some (some (.ref f))) (l : K.lookup f = some ⟨oc, od, .func (PySem.W.fnOf "_law_value_kind" "_law_value_kind" (defArgs tVK) (defBody tVK) (defScope tVK) .none kV dc pm an cd ct), sl⟩) (c : PySem.W.codeIn K cd "_law_value_kind" = true) (k : PySem.W.keepIn K (.ref f) = true) : FD K mg "_law_value_kind" tVK ["_law_kind", "_law_heads_here"] :=
  ⟨_, _, fun_mk (st := tVK) l c k, PySem.W.mg_of X G a, k, (fun_mk (st := tVK) l c k).binds (ps := ["_law_kind", "_law_heads_here"]) fun _ _ _ _ _ _ us hl => match us, hl with | [_, _], _ => rfl⟩
theorem d_tWa (X : K.In h) (G : h.Ns mainGlobals mg) {f : Addr} {od an : Option Addr} {sl : Array (Option Value)} {oc kV dc pm cd ct : Value} (a : PySem.W.nsIn K mainGlobals "_law_wants" = some (some (.ref f))) (l : K.lookup f = some ⟨oc, od, .func (PySem.W.fnOf "_law_wants" "_law_wants" (defArgs tWants) (defBody tWants) (defScope tWants) .none kV dc pm an cd ct), sl⟩) (c : PySem.W.codeIn K cd "_law_wants" = true) (k : PySem.W.keepIn K (.ref f) = true) : FD K mg "_law_wants" tWants ["_law_event", "_law_dues", "_law_kinds"] :=
  ⟨_, _, fun_mk (st := tWants) l c k, PySem.W.mg_of X G a, k, (fun_mk (st := tWants) l c k).binds (ps := ["_law_event", "_law_dues", "_law_kinds"]) fun _ _ _ _ _ _ us hl => match us, hl with | [_, _, _], _ => rfl⟩
theorem d_tFi (X : K.In h) (G : h.Ns mainGlobals mg) {f : Addr} {od an : Option Addr} {sl : Array (Option Value)} {oc kV dc pm cd ct : Value} (a : PySem.W.nsIn K mainGlobals "_law_field" = some (some (.ref f))) (l : K.lookup f = some ⟨oc, od, .func (PySem.W.fnOf "_law_field" "_law_field" (defArgs tField) (defBody tField) (defScope tField) .none kV dc pm an cd ct), sl⟩) (c : PySem.W.codeIn K cd "_law_field" = true) (k : PySem.W.keepIn K (.ref f) = true) : FD K mg "_law_field" tField ["_law_kind", "_law_name", "_law_heads_here", "_law_place"] :=
  ⟨_, _, fun_mk (st := tField) l c k, PySem.W.mg_of X G a, k, (fun_mk (st := tField) l c k).binds (ps := ["_law_kind", "_law_name", "_law_heads_here", "_law_place"]) fun _ _ _ _ _ _ us hl => match us, hl with | [_, _, _, _], _ => rfl⟩
theorem d_tCa (X : K.In h) (G : h.Ns mainGlobals mg) {f : Addr} {od an : Option Addr} {sl : Array (Option Value)} {oc kV dc pm cd ct : Value} (a : PySem.W.nsIn K mainGlobals "_law_called" = some (some (.ref f))) (l : K.lookup f = some ⟨oc, od, .func (PySem.W.fnOf "_law_called" "_law_called" (defArgs tCalled) (defBody tCalled) (defScope tCalled) .none kV dc pm an cd ct), sl⟩) (c : PySem.W.codeIn K cd "_law_called" = true) (k : PySem.W.keepIn K (.ref f) = true) : FD K mg "_law_called" tCalled ["_law_event", "_law_heads_here", "_law_kinds"] :=
  ⟨_, _, fun_mk (st := tCalled) l c k, PySem.W.mg_of X G a, k, (fun_mk (st := tCalled) l c k).binds (ps := ["_law_event", "_law_heads_here", "_law_kinds"]) fun _ _ _ _ _ _ us hl => match us, hl with | [_, _, _], _ => rfl⟩
theorem d_tAs (X : K.In h) (G : h.Ns mainGlobals mg) {f : Addr} {od an : Option Addr} {sl : Array (Option Value)} {oc kV dc pm cd ct : Value} (a : PySem.W.nsIn K mainGlobals "_law_asked" = some (some (.ref f))) (l : K.lookup f = some ⟨oc, od, .func (PySem.W.fnOf "_law_asked" "_law_asked" (defArgs tAsked) (defBody tAsked) (defScope tAsked) .none kV dc pm an cd ct), sl⟩) (c : PySem.W.codeIn K cd "_law_asked" = true) (k : PySem.W.keepIn K (.ref f) = true) : FD K mg "_law_asked" tAsked ["_law_event", "_law_names", "_law_heads_here", "_law_kinds"] :=
  ⟨_, _, fun_mk (st := tAsked) l c k, PySem.W.mg_of X G a, k, (fun_mk (st := tAsked) l c k).binds (ps := ["_law_event", "_law_names", "_law_heads_here", "_law_kinds"]) fun _ _ _ _ _ _ us hl => match us, hl with | [_, _, _, _], _ => rfl⟩
theorem d_tTo (X : K.In h) (G : h.Ns mainGlobals mg) {f : Addr} {od an : Option Addr} {sl : Array (Option Value)} {oc kV dc pm cd ct : Value} (a : PySem.W.nsIn K mainGlobals "_law_asked_told" = some (some (.ref f))) (l : K.lookup f = some ⟨oc, od, .func (PySem.W.fnOf "_law_asked_told" "_law_asked_told" (defArgs tTold) (defBody tTold) (defScope tTold) .none kV dc pm an cd ct), sl⟩) (c : PySem.W.codeIn K cd "_law_asked_told" = true) (k : PySem.W.keepIn K (.ref f) = true) : FD K mg "_law_asked_told" tTold ["_law_event", "_law_found", "_law_heads_here", "_law_told_here"] :=
  ⟨_, _, fun_mk (st := tTold) l c k, PySem.W.mg_of X G a, k, (fun_mk (st := tTold) l c k).binds (ps := ["_law_event", "_law_found", "_law_heads_here", "_law_told_here"]) fun _ _ _ _ _ _ us hl => match us, hl with | [_, _, _, _], _ => rfl⟩
theorem d_tSe (X : K.In h) (G : h.Ns mainGlobals mg) {f : Addr} {od an : Option Addr} {sl : Array (Option Value)} {oc kV dc pm cd ct : Value} (a : PySem.W.nsIn K mainGlobals "_law_set" = some (some (.ref f))) (l : K.lookup f = some ⟨oc, od, .func (PySem.W.fnOf "_law_set" "_law_set" (defArgs tSet) (defBody tSet) (defScope tSet) .none kV dc pm an cd ct), sl⟩) (c : PySem.W.codeIn K cd "_law_set" = true) (k : PySem.W.keepIn K (.ref f) = true) : FD K mg "_law_set" tSet ["_law_event", "_law_names", "_law_heads_here", "_law_kinds", "_law_told_here"] :=
  ⟨_, _, fun_mk (st := tSet) l c k, PySem.W.mg_of X G a, k, (fun_mk (st := tSet) l c k).binds (ps := ["_law_event", "_law_names", "_law_heads_here", "_law_kinds", "_law_told_here"]) fun _ _ _ _ _ _ us hl => match us, hl with | [_, _, _, _, _], _ => rfl⟩
theorem d_tRo (X : K.In h) (G : h.Ns mainGlobals mg) {f : Addr} {od an : Option Addr} {sl : Array (Option Value)} {oc kV dc pm cd ct : Value} (a : PySem.W.nsIn K mainGlobals "_law_row" = some (some (.ref f))) (l : K.lookup f = some ⟨oc, od, .func (PySem.W.fnOf "_law_row" "_law_row" (defArgs tRow) (defBody tRow) (defScope tRow) .none kV dc pm an cd ct), sl⟩) (c : PySem.W.codeIn K cd "_law_row" = true) (k : PySem.W.keepIn K (.ref f) = true) : FD K mg "_law_row" tRow ["_law_event", "_law_names", "_law_heads_here", "_law_kinds", "_law_told_here", "_law_gives"] :=
  ⟨_, _, fun_mk (st := tRow) l c k, PySem.W.mg_of X G a, k, (fun_mk (st := tRow) l c k).binds (ps := ["_law_event", "_law_names", "_law_heads_here", "_law_kinds", "_law_told_here", "_law_gives"]) fun _ _ _ _ _ _ us hl => match us, hl with | [_, _, _, _, _, _], _ => rfl⟩
theorem d_tBo (X : K.In h) (G : h.Ns mainGlobals mg) {f : Addr} {od an : Option Addr} {sl : Array (Option Value)} {oc kV dc pm cd ct : Value} (a : PySem.W.nsIn K mainGlobals "_law_body" = some (some (.ref f))) (l : K.lookup f = some ⟨oc, od, .func (PySem.W.fnOf "_law_body" "_law_body" (defArgs tBody) (defBody tBody) (defScope tBody) .none kV dc pm an cd ct), sl⟩) (c : PySem.W.codeIn K cd "_law_body" = true) (k : PySem.W.keepIn K (.ref f) = true) : FD K mg "_law_body" tBody ["_law_function", "_law_place", "_law_heads_here"] :=
  ⟨_, _, fun_mk (st := tBody) l c k, PySem.W.mg_of X G a, k, (fun_mk (st := tBody) l c k).binds (ps := ["_law_function", "_law_place", "_law_heads_here"]) fun _ _ _ _ _ _ us hl => match us, hl with | [_, _, _], _ => rfl⟩
theorem d_tHe (X : K.In h) (G : h.Ns mainGlobals mg) {f : Addr} {od an : Option Addr} {sl : Array (Option Value)} {oc kV dc pm cd ct : Value} (a : PySem.W.nsIn K mainGlobals "_law_heads" = some (some (.ref f))) (l : K.lookup f = some ⟨oc, od, .func (PySem.W.fnOf "_law_heads" "_law_heads" (defArgs tHeads) (defBody tHeads) (defScope tHeads) .none kV dc pm an cd ct), sl⟩) (c : PySem.W.codeIn K cd "_law_heads" = true) (k : PySem.W.keepIn K (.ref f) = true) : FD K mg "_law_heads" tHeads ["_law_program_here"] :=
  ⟨_, _, fun_mk (st := tHeads) l c k, PySem.W.mg_of X G a, k, (fun_mk (st := tHeads) l c k).binds (ps := ["_law_program_here"]) fun _ _ _ _ _ _ us hl => match us, hl with | [_], _ => rfl⟩
theorem d_tDu (X : K.In h) (G : h.Ns mainGlobals mg) {f : Addr} {od an : Option Addr} {sl : Array (Option Value)} {oc kV dc pm cd ct : Value} (a : PySem.W.nsIn K mainGlobals "_law_due" = some (some (.ref f))) (l : K.lookup f = some ⟨oc, od, .func (PySem.W.fnOf "_law_due" "_law_due" (defArgs tDue) (defBody tDue) (defScope tDue) .none kV dc pm an cd ct), sl⟩) (c : PySem.W.codeIn K cd "_law_due" = true) (k : PySem.W.keepIn K (.ref f) = true) : FD K mg "_law_due" tDue ["_law_program_here"] :=
  ⟨_, _, fun_mk (st := tDue) l c k, PySem.W.mg_of X G a, k, (fun_mk (st := tDue) l c k).binds (ps := ["_law_program_here"]) fun _ _ _ _ _ _ us hl => match us, hl with | [_], _ => rfl⟩
theorem d_tTd (X : K.In h) (G : h.Ns mainGlobals mg) {f : Addr} {od an : Option Addr} {sl : Array (Option Value)} {oc kV dc pm cd ct : Value} (a : PySem.W.nsIn K mainGlobals "_law_told" = some (some (.ref f))) (l : K.lookup f = some ⟨oc, od, .func (PySem.W.fnOf "_law_told" "_law_told" (defArgs tTold2) (defBody tTold2) (defScope tTold2) .none kV dc pm an cd ct), sl⟩) (c : PySem.W.codeIn K cd "_law_told" = true) (k : PySem.W.keepIn K (.ref f) = true) : FD K mg "_law_told" tTold2 ["_law_program_here"] :=
  ⟨_, _, fun_mk (st := tTold2) l c k, PySem.W.mg_of X G a, k, (fun_mk (st := tTold2) l c k).binds (ps := ["_law_program_here"]) fun _ _ _ _ _ _ us hl => match us, hl with | [_], _ => rfl⟩
theorem d_mLR {C : Addr} (T : Cls K C) {f : Addr} {od an : Option Addr} {sl : Array (Option Value)} {oc kV dc pm cd ct : Value} (a : PySem.W.findIn K (.ref C) "look_record" = some (some (.ref f))) (i : PySem.W.isFn K (.ref f) = true) (l : K.lookup f = some ⟨oc, od, .func (PySem.W.fnOf "look_record" "Heads.look_record" (defArgs sLR) (defBody sLR) (defScope sLR) .none kV dc pm an cd ct), sl⟩) (c : PySem.W.codeIn K cd "Heads.look_record" = true) (k : PySem.W.keepIn K (.ref f) = true) : MD K C "look_record" "Heads.look_record" sLR ["self", "name", "fields", "place"] :=
  ⟨_, _, fun_mk (st := sLR) l c k, ⟨a, i, k⟩, T, (fun_mk (st := sLR) l c k).binds (ps := ["self", "name", "fields", "place"]) fun _ _ _ _ _ _ us hl => match us, hl with | [_, _, _, _], _ => rfl⟩
theorem d_mLF {C : Addr} (T : Cls K C) {f : Addr} {od an : Option Addr} {sl : Array (Option Value)} {oc kV dc pm cd ct : Value} (a : PySem.W.findIn K (.ref C) "look_function" = some (some (.ref f))) (i : PySem.W.isFn K (.ref f) = true) (l : K.lookup f = some ⟨oc, od, .func (PySem.W.fnOf "look_function" "Heads.look_function" (defArgs sLF) (defBody sLF) (defScope sLF) .none kV dc pm an cd ct), sl⟩) (c : PySem.W.codeIn K cd "Heads.look_function" = true) (k : PySem.W.keepIn K (.ref f) = true) : MD K C "look_function" "Heads.look_function" sLF ["self", "function", "place"] :=
  ⟨_, _, fun_mk (st := sLF) l c k, ⟨a, i, k⟩, T, (fun_mk (st := sLF) l c k).binds (ps := ["self", "function", "place"]) fun _ _ _ _ _ _ us hl => match us, hl with | [_, _, _], _ => rfl⟩
theorem d_mNK {C : Addr} (T : Cls K C) {f : Addr} {od an : Option Addr} {sl : Array (Option Value)} {oc kV dc pm cd ct : Value} (a : PySem.W.findIn K (.ref C) "need_kind" = some (some (.ref f))) (i : PySem.W.isFn K (.ref f) = true) (l : K.lookup f = some ⟨oc, od, .func (PySem.W.fnOf "need_kind" "Heads.need_kind" (defArgs sNK) (defBody sNK) (defScope sNK) .none kV dc pm an cd ct), sl⟩) (c : PySem.W.codeIn K cd "Heads.need_kind" = true) (k : PySem.W.keepIn K (.ref f) = true) : MD K C "need_kind" "Heads.need_kind" sNK ["self", "kind", "place"] :=
  ⟨_, _, fun_mk (st := sNK) l c k, ⟨a, i, k⟩, T, (fun_mk (st := sNK) l c k).binds (ps := ["self", "kind", "place"]) fun _ _ _ _ _ _ us hl => match us, hl with | [_, _, _], _ => rfl⟩
theorem d_mVK {C : Addr} (T : Cls K C) {f : Addr} {od an : Option Addr} {sl : Array (Option Value)} {oc kV dc pm cd ct : Value} (a : PySem.W.findIn K (.ref C) "value_kind" = some (some (.ref f))) (i : PySem.W.isFn K (.ref f) = true) (l : K.lookup f = some ⟨oc, od, .func (PySem.W.fnOf "value_kind" "Heads.value_kind" (defArgs sVK) (defBody sVK) (defScope sVK) .none kV dc pm an cd ct), sl⟩) (c : PySem.W.codeIn K cd "Heads.value_kind" = true) (k : PySem.W.keepIn K (.ref f) = true) : MD K C "value_kind" "Heads.value_kind" sVK ["self", "kind"] :=
  ⟨_, _, fun_mk (st := sVK) l c k, ⟨a, i, k⟩, T, (fun_mk (st := sVK) l c k).binds (ps := ["self", "kind"]) fun _ _ _ _ _ _ us hl => match us, hl with | [_, _], _ => rfl⟩
theorem d_mFi {C : Addr} (T : Cls K C) {f : Addr} {od an : Option Addr} {sl : Array (Option Value)} {oc kV dc pm cd ct : Value} (a : PySem.W.findIn K (.ref C) "field" = some (some (.ref f))) (i : PySem.W.isFn K (.ref f) = true) (l : K.lookup f = some ⟨oc, od, .func (PySem.W.fnOf "field" "Heads.field" (defArgs sFld) (defBody sFld) (defScope sFld) .none kV dc pm an cd ct), sl⟩) (c : PySem.W.codeIn K cd "Heads.field" = true) (k : PySem.W.keepIn K (.ref f) = true) : MD K C "field" "Heads.field" sFld ["self", "kind", "name", "place"] :=
  ⟨_, _, fun_mk (st := sFld) l c k, ⟨a, i, k⟩, T, (fun_mk (st := sFld) l c k).binds (ps := ["self", "kind", "name", "place"]) fun _ _ _ _ _ _ us hl => match us, hl with | [_, _, _, _], _ => rfl⟩
theorem d_mWa {C : Addr} (T : Cls K C) {f : Addr} {od an : Option Addr} {sl : Array (Option Value)} {oc kV dc pm cd ct : Value} (a : PySem.W.findIn K (.ref C) "wanted" = some (some (.ref f))) (i : PySem.W.isFn K (.ref f) = true) (l : K.lookup f = some ⟨oc, od, .func (PySem.W.fnOf "wanted" "Heads.wanted" (defArgs sWanted) (defBody sWanted) (defScope sWanted) .none kV dc pm an cd ct), sl⟩) (c : PySem.W.codeIn K cd "Heads.wanted" = true) (k : PySem.W.keepIn K (.ref f) = true) : MD K C "wanted" "Heads.wanted" sWanted ["self", "node", "place"] :=
  ⟨_, _, fun_mk (st := sWanted) l c k, ⟨a, i, k⟩, T, (fun_mk (st := sWanted) l c k).binds (ps := ["self", "node", "place"]) fun _ _ _ _ _ _ us hl => match us, hl with | [_, _, _], _ => rfl⟩
theorem d_mNx {C : Addr} (T : Cls K C) {f : Addr} {od an : Option Addr} {sl : Array (Option Value)} {oc kV dc pm cd ct : Value} (a : PySem.W.findIn K (.ref C) "next_place" = some (some (.ref f))) (i : PySem.W.isFn K (.ref f) = true) (l : K.lookup f = some ⟨oc, od, .func (PySem.W.fnOf "next_place" "Looker.next_place" (defArgs sNext) (defBody sNext) (defScope sNext) .none kV dc pm an cd ct), sl⟩) (c : PySem.W.codeIn K cd "Looker.next_place" = true) (k : PySem.W.keepIn K (.ref f) = true) : MD K C "next_place" "Looker.next_place" sNext ["self"] :=
  ⟨_, _, fun_mk (st := sNext) l c k, ⟨a, i, k⟩, T, (fun_mk (st := sNext) l c k).binds (ps := ["self"]) fun _ _ _ _ _ _ us hl => match us, hl with | [_], _ => rfl⟩
theorem d_mRs {C : Addr} (T : Cls K C) {f : Addr} {od an : Option Addr} {sl : Array (Option Value)} {oc kV dc pm cd ct : Value} (a : PySem.W.findIn K (.ref C) "look_rows" = some (some (.ref f))) (i : PySem.W.isFn K (.ref f) = true) (l : K.lookup f = some ⟨oc, od, .func (PySem.W.fnOf "look_rows" "Looker.look_rows" (defArgs sRws) (defBody sRws) (defScope sRws) .none kV dc pm an cd ct), sl⟩) (c : PySem.W.codeIn K cd "Looker.look_rows" = true) (k : PySem.W.keepIn K (.ref f) = true) : MD K C "look_rows" "Looker.look_rows" sRws ["self", "rows", "names"] :=
  ⟨_, _, fun_mk (st := sRws) l c k, ⟨a, i, k⟩, T, (fun_mk (st := sRws) l c k).binds (ps := ["self", "rows", "names"]) fun _ _ _ _ _ _ us hl => match us, hl with | [_, _, _], _ => rfl⟩
theorem d_mR {C : Addr} (T : Cls K C) {f : Addr} {od an : Option Addr} {sl : Array (Option Value)} {oc kV dc pm cd ct : Value} (a : PySem.W.findIn K (.ref C) "look_row" = some (some (.ref f))) (i : PySem.W.isFn K (.ref f) = true) (l : K.lookup f = some ⟨oc, od, .func (PySem.W.fnOf "look_row" "Looker.look_row" (defArgs sRw) (defBody sRw) (defScope sRw) .none kV dc pm an cd ct), sl⟩) (c : PySem.W.codeIn K cd "Looker.look_row" = true) (k : PySem.W.keepIn K (.ref f) = true) : MD K C "look_row" "Looker.look_row" sRw ["self", "row", "names"] :=
  ⟨_, _, fun_mk (st := sRw) l c k, ⟨a, i, k⟩, T, (fun_mk (st := sRw) l c k).binds (ps := ["self", "row", "names"]) fun _ _ _ _ _ _ us hl => match us, hl with | [_, _, _], _ => rfl⟩
theorem d_mGi {C : Addr} (T : Cls K C) {f : Addr} {od an : Option Addr} {sl : Array (Option Value)} {oc kV dc pm cd ct : Value} (a : PySem.W.findIn K (.ref C) "given" = some (some (.ref f))) (i : PySem.W.isFn K (.ref f) = true) (l : K.lookup f = some ⟨oc, od, .func (PySem.W.fnOf "given" "Looker.given" (defArgs sGiven) (defBody sGiven) (defScope sGiven) .none kV dc pm an cd ct), sl⟩) (c : PySem.W.codeIn K cd "Looker.given" = true) (k : PySem.W.keepIn K (.ref f) = true) : MD K C "given" "Looker.given" sGiven ["self", "row", "place", "names"] :=
  ⟨_, _, fun_mk (st := sGiven) l c k, ⟨a, i, k⟩, T, (fun_mk (st := sGiven) l c k).binds (ps := ["self", "row", "place", "names"]) fun _ _ _ _ _ _ us hl => match us, hl with | [_, _, _, _], _ => rfl⟩
theorem d_mAs {C : Addr} (T : Cls K C) {f : Addr} {od an : Option Addr} {sl : Array (Option Value)} {oc kV dc pm cd ct : Value} (a : PySem.W.findIn K (.ref C) "ask" = some (some (.ref f))) (i : PySem.W.isFn K (.ref f) = true) (l : K.lookup f = some ⟨oc, od, .func (PySem.W.fnOf "ask" "Looker.ask" (defArgs sAsk) (defBody sAsk) (defScope sAsk) .none kV dc pm an cd ct), sl⟩) (c : PySem.W.codeIn K cd "Looker.ask" = true) (k : PySem.W.keepIn K (.ref f) = true) : MD K C "ask" "Looker.ask" sAsk ["self", "node", "names"] :=
  ⟨_, _, fun_mk (st := sAsk) l c k, ⟨a, i, k⟩, T, (fun_mk (st := sAsk) l c k).binds (ps := ["self", "node", "names"]) fun _ _ _ _ _ _ us hl => match us, hl with | [_, _, _], _ => rfl⟩
theorem d_mRk {C : Addr} (T : Cls K C) {f : Addr} {od an : Option Addr} {sl : Array (Option Value)} {oc kV dc pm cd ct : Value} (a : PySem.W.findIn K (.ref C) "reckoned_kind" = some (some (.ref f))) (i : PySem.W.isFn K (.ref f) = true) (l : K.lookup f = some ⟨oc, od, .func (PySem.W.fnOf "reckoned_kind" "Looker.reckoned_kind" (defArgs sReck) (defBody sReck) (defScope sReck) .none kV dc pm an cd ct), sl⟩) (c : PySem.W.codeIn K cd "Looker.reckoned_kind" = true) (k : PySem.W.keepIn K (.ref f) = true) : MD K C "reckoned_kind" "Looker.reckoned_kind" sReck ["self", "node", "place", "asked"] :=
  ⟨_, _, fun_mk (st := sReck) l c k, ⟨a, i, k⟩, T, (fun_mk (st := sReck) l c k).binds (ps := ["self", "node", "place", "asked"]) fun _ _ _ _ _ _ us hl => match us, hl with | [_, _, _, _], _ => rfl⟩
theorem d_cT {C : Addr} (X : K.In h) (G : h.Ns mainGlobals mg) (gC : PySem.W.nsIn K mainGlobals "Typed" = some (some (.ref C))) (mk : PySem.W.makesIn K C = true) (kc : PySem.W.keepIn K (.ref C) = true) {f : Addr} {od an : Option Addr} {sl : Array (Option Value)} {oc kV dc pm cd ct : Value} (a : PySem.W.findIn K (.ref C) "__init__" = some (some (.ref f))) (i : PySem.W.isFn K (.ref f) = true) (l : K.lookup f = some ⟨oc, od, .func (PySem.W.fnOf "__init__" "Typed.__init__" (defArgs sTI) (defBody sTI) (defScope sTI) .none kV dc pm an cd ct), sl⟩) (c : PySem.W.codeIn K cd "Typed.__init__" = true) (k : PySem.W.keepIn K (.ref f) = true) : CD K mg "Typed" C "Typed.__init__" sTI ["self", "functions"] :=
  ⟨_, _, fun_mk (st := sTI) l c k, ⟨mk, a, i, kc⟩, PySem.W.mg_of X G gC, (fun_mk (st := sTI) l c k).binds (ps := ["self", "functions"]) fun _ _ _ _ _ _ us hl => match us, hl with | [_, _], _ => rfl⟩
theorem d_cH {C : Addr} (X : K.In h) (G : h.Ns mainGlobals mg) (gC : PySem.W.nsIn K mainGlobals "Heads" = some (some (.ref C))) (mk : PySem.W.makesIn K C = true) (kc : PySem.W.keepIn K (.ref C) = true) {f : Addr} {od an : Option Addr} {sl : Array (Option Value)} {oc kV dc pm cd ct : Value} (a : PySem.W.findIn K (.ref C) "__init__" = some (some (.ref f))) (i : PySem.W.isFn K (.ref f) = true) (l : K.lookup f = some ⟨oc, od, .func (PySem.W.fnOf "__init__" "Heads.__init__" (defArgs sHI) (defBody sHI) (defScope sHI) .none kV dc pm an cd ct), sl⟩) (c : PySem.W.codeIn K cd "Heads.__init__" = true) (k : PySem.W.keepIn K (.ref f) = true) : CD K mg "Heads" C "Heads.__init__" sHI ["self", "program"] :=
  ⟨_, _, fun_mk (st := sHI) l c k, ⟨mk, a, i, kc⟩, PySem.W.mg_of X G gC, (fun_mk (st := sHI) l c k).binds (ps := ["self", "program"]) fun _ _ _ _ _ _ us hl => match us, hl with | [_, _], _ => rfl⟩
theorem d_cL {C : Addr} (X : K.In h) (G : h.Ns mainGlobals mg) (gC : PySem.W.nsIn K mainGlobals "Looker" = some (some (.ref C))) (mk : PySem.W.makesIn K C = true) (kc : PySem.W.keepIn K (.ref C) = true) {f : Addr} {od an : Option Addr} {sl : Array (Option Value)} {oc kV dc pm cd ct : Value} (a : PySem.W.findIn K (.ref C) "__init__" = some (some (.ref f))) (i : PySem.W.isFn K (.ref f) = true) (l : K.lookup f = some ⟨oc, od, .func (PySem.W.fnOf "__init__" "Looker.__init__" (defArgs sLI) (defBody sLI) (defScope sLI) .none kV dc pm an cd ct), sl⟩) (c : PySem.W.codeIn K cd "Looker.__init__" = true) (k : PySem.W.keepIn K (.ref f) = true) : CD K mg "Looker" C "Looker.__init__" sLI ["self", "heads", "gives", "place"] :=
  ⟨_, _, fun_mk (st := sLI) l c k, ⟨mk, a, i, kc⟩, PySem.W.mg_of X G gC, (fun_mk (st := sLI) l c k).binds (ps := ["self", "heads", "gives", "place"]) fun _ _ _ _ _ _ us hl => match us, hl with | [_, _, _, _], _ => rfl⟩
theorem d_en {C : Addr} (X : K.In h) (G : h.Ns mainGlobals mg) (gC : PySem.W.nsIn K mainGlobals "NoName" = some (some (.ref C))) (T : OexC K C) {f : Addr} {od an : Option Addr} {sl : Array (Option Value)} {oc kV dc pm cd ct : Value} (a : PySem.W.findIn K (.ref C) "__init__" = some (some (.ref f))) (t : PySem.W.typeIn K (.ref f) = some (.type "function")) (l : K.lookup f = some ⟨oc, od, .func (PySem.W.fnOf "__init__" "NoName.__init__" (defArgs sNoName) (defBody sNoName) (defScope sNoName) .none kV dc pm an cd ct), sl⟩) (c : PySem.W.codeIn K cd "NoName.__init__" = true) (k : PySem.W.keepIn K (.ref f) = true) : ED K mg "NoName" C "NoName.__init__" sNoName ["self", "name", "place"] :=
  ⟨T, _, _, fun_mk (st := sNoName) l c k, a, t, (fun_mk (st := sNoName) l c k).binds (ps := ["self", "name", "place"]) fun _ _ _ _ _ _ us hl => match us, hl with | [_, _, _], _ => rfl, PySem.W.mg_of X G gC⟩
theorem d_et {C : Addr} (X : K.In h) (G : h.Ns mainGlobals mg) (gC : PySem.W.nsIn K mainGlobals "Twice" = some (some (.ref C))) (T : OexC K C) {f : Addr} {od an : Option Addr} {sl : Array (Option Value)} {oc kV dc pm cd ct : Value} (a : PySem.W.findIn K (.ref C) "__init__" = some (some (.ref f))) (t : PySem.W.typeIn K (.ref f) = some (.type "function")) (l : K.lookup f = some ⟨oc, od, .func (PySem.W.fnOf "__init__" "Twice.__init__" (defArgs sTwice) (defBody sTwice) (defScope sTwice) .none kV dc pm an cd ct), sl⟩) (c : PySem.W.codeIn K cd "Twice.__init__" = true) (k : PySem.W.keepIn K (.ref f) = true) : ED K mg "Twice" C "Twice.__init__" sTwice ["self", "name", "place"] :=
  ⟨T, _, _, fun_mk (st := sTwice) l c k, a, t, (fun_mk (st := sTwice) l c k).binds (ps := ["self", "name", "place"]) fun _ _ _ _ _ _ us hl => match us, hl with | [_, _, _], _ => rfl, PySem.W.mg_of X G gC⟩
theorem d_ef {C : Addr} (X : K.In h) (G : h.Ns mainGlobals mg) (gC : PySem.W.nsIn K mainGlobals "NoFit" = some (some (.ref C))) (T : OexC K C) {f : Addr} {od an : Option Addr} {sl : Array (Option Value)} {oc kV dc pm cd ct : Value} (a : PySem.W.findIn K (.ref C) "__init__" = some (some (.ref f))) (t : PySem.W.typeIn K (.ref f) = some (.type "function")) (l : K.lookup f = some ⟨oc, od, .func (PySem.W.fnOf "__init__" "NoFit.__init__" (defArgs sNoFit) (defBody sNoFit) (defScope sNoFit) .none kV dc pm an cd ct), sl⟩) (c : PySem.W.codeIn K cd "NoFit.__init__" = true) (k : PySem.W.keepIn K (.ref f) = true) : ED K mg "NoFit" C "NoFit.__init__" sNoFit ["self", "wants", "gives"] :=
  ⟨T, _, _, fun_mk (st := sNoFit) l c k, a, t, (fun_mk (st := sNoFit) l c k).binds (ps := ["self", "wants", "gives"]) fun _ _ _ _ _ _ us hl => match us, hl with | [_, _, _], _ => rfl, PySem.W.mg_of X G gC⟩
theorem d_oex {C : Addr} {nm q : Str} {N : Addr} {bs bm : List Value} {sn : List Str} {sub : List Value} {ab : Bool} {col : Option Bool} {dd : Option Addr} {m0 m1 m2 m3 m5 : Option Value} (xL : K.lookup C = some (excClassObj nm q C N bs bm true sn sub ab col dd m0 m1 m2 m3 m5 "ValueError.__new__")) (rv : PySem.HandSPX.refsVE bm = true)
    (sa : PySem.W.findIn K (.ref C) "__setattr__" = some (some (.builtin "object.__setattr__"))) (eC : PySem.W.subIn K (.ref C) (.type "BaseException") = some true) (tC : PySem.W.typeIn K (.ref C) = some (.type "type")) (kC : PySem.W.keepIn K (.ref C) = true) : OexC K C :=
  ⟨⟨nm, q, N, bs, bm, sn, sub, ab, col, dd, m0, m1, m2, m3, m5, xL, rv⟩, sa, eC, tC, kC⟩
theorem d_num {x s : Str} {a : Addr} {dd : Option Addr} {tk : Nat} {n : Nat} {sl : Array (Option Value)} (X : K.In h) (G : h.Ns mainGlobals mg) (g : PySem.W.nsIn K mainGlobals x = some (some (.ref a))) (l : K.lookup a = some ⟨.type "tuple", dd, .seq #[.str s tk] n, sl⟩) (hd : (x == ("__debug__" : Str)) = false) : GlM K mg x (.tup [.str s]) :=
  ⟨.ref a, .ref a, PySem.W.mg_of X G g, rfl, fun F => .tup (.inr ⟨_, _, n, l, rfl, rfl, (by show 1 ≤ sizeLine; decide), .cons (show RelV (.str s) (.str s tk) from ⟨tk, rfl⟩) .nil⟩) (.cons (.str s) .nil), hd⟩
theorem d_two {t : Addr} {es : Array DictEntry} {n : Nat} (X : K.In h) (G : h.Ns mainGlobals mg) (g : PySem.W.nsIn K mainGlobals "TWO" = some (some (.ref t))) (l : K.lookup t = some ⟨.type "dict", none, .dict es n, #[]⟩) (kl : PySem.W.KeysLit w.params es.toList) {k1 k2 k3 k4 k5 k6 k7 k8 k9 : Nat}
    (e1 : PySem.W.nsIn K t "+" = some (some (.str "add" k1))) (e2 : PySem.W.nsIn K t "-" = some (some (.str "sub" k2))) (e3 : PySem.W.nsIn K t "*" = some (some (.str "mul" k3))) (e4 : PySem.W.nsIn K t "/" = some (some (.str "div" k4))) (e5 : PySem.W.nsIn K t "mod" = some (some (.str "mod" k5))) (e6 : PySem.W.nsIn K t "<" = some (some (.str "less" k6))) (e7 : PySem.W.nsIn K t "=" = some (some (.str "same" k7))) (e8 : PySem.W.nsIn K t "and" = some (some (.str "and" k8))) (e9 : PySem.W.nsIn K t "or" = some (some (.str "or" k9))) : TwoC w K mg := by
  refine ⟨t, es, n, PySem.W.mg_of X G g, l, kl, fun s hs => ?_⟩
  simp only [ops9, List.mem_cons, List.not_mem_nil, or_false] at hs
  rcases hs with rfl | rfl | rfl | rfl | rfl | rfl | rfl | rfl | rfl
  · exact ⟨_, e1⟩
  · exact ⟨_, e2⟩
  · exact ⟨_, e3⟩
  · exact ⟨_, e4⟩
  · exact ⟨_, e5⟩
  · exact ⟨_, e6⟩
  · exact ⟨_, e7⟩
  · exact ⟨_, e8⟩
  · exact ⟨_, e9⟩
end
theorem ex_mk {K : PySem.W.Frag} {T S : Addr} {b : Bool} (h1 : PySem.W.subIn K (.ref S) (.type "BaseException") = some true) (h2 : PySem.W.isClsIn K S = true) (h3 : PySem.W.typeIn K (.ref S) = some (.type "type")) (h4 : PySem.W.subIn K (.ref T) (.ref S) = some b) : PySem.W.kitCls K (.ref T) (.ref S) = some b ∧ PySem.W.exmOne K (.ref T) (.ref S) = some b := by
  have e1 : (PySem.W.subIn K (.ref S) (.type "BaseException") == some true) = true := by rw [h1] <;> rfl
  have e2 : ((PySem.W.clsIn K S).isSome && PySem.W.typeIn K (.ref S) == some (.type "type")) = true := by
    have h2' : (PySem.W.clsIn K S).isSome = true := h2
    rw [h2', h3] <;> rfl
  have e3 : PySem.W.kitCls K (.ref T) (.ref S) = some b := by
    show (if ((PySem.W.clsIn K S).isSome && PySem.W.typeIn K (.ref S) == some (.type "type")) = true then PySem.W.subIn K (.ref T) (.ref S) else none) = some b
    rw [if_pos e2]; exact h4
  refine ⟨e3, ?_⟩
  show (if (PySem.W.subIn K (.ref S) (.type "BaseException") == some true) = true then PySem.W.kitCls K (.ref T) (.ref S) else none) = some b
  rw [if_pos e1]; exact e3
theorem ex_one {K : PySem.W.Frag} {T S : Addr} {b : Bool} (h1 : PySem.W.subIn K (.ref S) (.type "BaseException") = some true) (h2 : PySem.W.isClsIn K S = true) (h3 : PySem.W.typeIn K (.ref S) = some (.type "type")) (h4 : PySem.W.subIn K (.ref T) (.ref S) = some b) : PySem.W.exmOne K (.ref T) (.ref S) = some b := (ex_mk h1 h2 h3 h4).2
theorem ex_kit {K : PySem.W.Frag} {T S : Addr} {b : Bool} (h1 : PySem.W.subIn K (.ref S) (.type "BaseException") = some true) (h2 : PySem.W.isClsIn K S = true) (h3 : PySem.W.typeIn K (.ref S) = some (.type "type")) (h4 : PySem.W.subIn K (.ref T) (.ref S) = some b) : PySem.W.kitCls K (.ref T) (.ref S) = some b := (ex_mk h1 h2 h3 h4).1
theorem any_mk {K : PySem.W.Frag} {c a b : Value} {x y : Bool} (h1 : PySem.W.exmOne K c a = some x) (h2 : PySem.W.exmOne K c b = some y) : PySem.W.exmAny K c [a, b] = some (x || (y || false)) := by
  simp only [PySem.W.exmAny, h1, h2]
theorem kit_mk {K : PySem.W.Frag} {t c : Value} {b : Bool} (e : (t == c) = true → b = true) (h : PySem.W.kitCls K t c = some b) : PySem.W.kitOne K t c = some b := by
  unfold PySem.W.kitOne
  by_cases z : (t == c) = true
  · rw [if_pos z, e z]
  · rw [if_neg z]; exact h
theorem rpl_ints {K : PySem.W.Frag} {H : Hp} : ∀ ns : List Int, RpL K H (ns.map V.int) (ns.map D.int)
  | [] => .nil
  | n :: ns => .cons (.int n) (rpl_ints ns)
theorem law_in {K : PySem.W.Frag} {H : Hp} {a : Addr} {ns : List Int} (hl : ns.length ≤ 63) (hS : SqL K H a (ns.map V.int)) : lift K spLaw [.ref a] H (fun v _ => v = .bl true) fun _ _ _ => False := by
  refine ⟨H, [.arg (ns.map D.int)], [], fun d _ => d = .bl true, fun _ _ _ => False, Same.refl _, .cons (.arg hS (rpl_ints ns)) .nil, (fun _ z => nomatch z), List.nodup_nil, ⟨_, rfl, rfl, fun d hd => ?_, by rw [List.length_map]; exact hl, rfl⟩, ?_, ?_⟩
  · obtain ⟨i, _, e⟩ := List.mem_map.mp hd
    exact ⟨i, e.symm⟩
  · rintro v H' ⟨d, O', F', _, _, rp, rfl⟩
    cases rp; rfl
  · rintro cls d H' ⟨C, dd, fs, fvs, O', F', _, _, _, _, _, h⟩
    exact h
theorem all_mk {l : PySem.W.OpenLaw} {w : World} {K : PySem.W.Frag} {h : Heap} {mg : Str → Option Value} {fa cn ct cf S0 CT CH CL f : Addr} {od an : Option Addr} {sl : Array (Option Value)} {oc kV dc pm cd cT : Value} (X : K.In h) (G : h.Ns mainGlobals mg) (hfa : mg "law" = some (.ref fa))
    (gN : PySem.W.nsIn K mainGlobals "NoName" = some (some (.ref cn))) (gT : PySem.W.nsIn K mainGlobals "Twice" = some (some (.ref ct))) (gF : PySem.W.nsIn K mainGlobals "NoFit" = some (some (.ref cf))) (gS : PySem.W.nsIn K mainGlobals "StepError" = some (some (.ref S0)))
    (gTy : PySem.W.nsIn K mainGlobals "Typed" = some (some (.ref CT))) (gH : PySem.W.nsIn K mainGlobals "Heads" = some (some (.ref CH))) (gL : PySem.W.nsIn K mainGlobals "Looker" = some (some (.ref CL)))
    (A : AllC w K mg ⟨cn, ct, cf⟩ S0 CT CH CL) (a : PySem.W.nsIn K mainGlobals "law" = some (some (.ref f))) (lk : K.lookup f = some ⟨oc, od, .func (PySem.W.fnOf "law" "law" (defArgs tLaw) (defBody tLaw) (defScope tLaw) .none kV dc pm an cd cT), sl⟩) (c : PySem.W.codeIn K cd "law" = true) (k : PySem.W.keepIn K (.ref f) = true) :
    ∃ fd : FuncData, (∀ (s : Shared) (v : Value), BindsTo s fd ⟨[v], []⟩ [("_law_script", v)]) ∧ ∀ base : Heap, K.In base → base.Ns mainGlobals mg → FnOk l.prog w K mg base (L2.CX l.prog w) 22 fa fd ["_law_script"] (lift K spLaw) := by
  have e := hfa.symm.trans (PySem.W.mg_of X G a)
  cases e
  exact ⟨PySem.W.fnOf "law" "law" (defArgs tLaw) (defBody tLaw) (defScope tLaw) .none kV dc pm an cd cT, fun s v => .of_eq rfl, fun base _ _ => all_law A (fun_mk (st := tLaw) lk c k)⟩
theorem walk {l : PySem.W.OpenLaw} {q : Program} {loose : List Str} {XP : (Str → Option Value) → Heap → Prop} {YP : World → Heap → Prop} {d : DefRec} {K : Params → PySem.W.Frag} (hn : l.most = some 63) (hdf : d.params.defaults = [])
    (hY : ∀ (w : World) (h : Heap), YP w h → (K w.params).In h)
    (F : ∀ (w : World) (mg : Str → Option Value) (fa : Addr) (h : Heap), (K w.params).In h → h.Ns mainGlobals mg → mg d.name = some (.ref fa) →
      ∃ fd : FuncData, (∀ (s : Shared) (u : Value), BindsTo s fd ⟨[u], []⟩ [("_law_script", u)]) ∧ ∀ base : Heap, (K w.params).In base → base.Ns mainGlobals mg → FnOk l.prog w (K w.params) mg base (L2.CX l.prog w) 22 fa fd ["_law_script"] (lift (K w.params) spLaw)) :
    PySem.W.WalkO q loose XP YP l.row.toRowW d [] (fun f vs => PySem.call f vs) :=
  L2.walk_of (n := 63) (k := 22) (x := "_law_script") (CX := fun w => L2.CX l.prog w) (sp := fun w => lift (K w.params) spLaw) hn (by decide) hdf ⟨rfl, by decide, by decide⟩ hY F (fun _ _ a ns hl _ hS => law_in hl hS) fun _ _ _ _ _ ⟨_, _, _, _, _, _, _, _, _, _, _, _, h⟩ => h
end K12
open PySem PySem.W PyProof.Rows
set_option maxRecDepth 100000 in
set_option maxHeartbeats 0 in
theorem PySem.Challenge.cw_eachstepsame_k12_whole_what_does_not_fit_holds : PySem.Challenge.rw_eachstepsame_k12_whole_what_does_not_fit.Holds := by
  refine k12head ?_
  k_fill
  refine K12.walk (l := PySem.Challenge.rw_eachstepsame_k12_whole_what_does_not_fit) rfl rfl (fun w h Y => PySem.W.kIn_of Y) ?F
  case F =>
    intro w mg fa h KX G hmg
    refine' K12.all_mk KX G hmg ?gN ?gT ?gF ?gS ?gTy ?gH ?gL ?A ?a ?lk ?c ?k
    (case gN => k_is); (case gT => k_is); (case gF => k_is); (case gS => k_is); (case gTy => k_is); (case gH => k_is); (case gL => k_is)
    (case a => k_is); (case lk => k_is); (case c => k_is); (case k => k_is)
    case A =>
      refine' K12.AllC.mk ?B ?bs ?se ?EC ?en ?et ?ef ?num ?truth ?two ?hd ?lk ?ct ?cf ?fPR ?fPI ?fCo ?fNe ?fIn ?cT ?cH ?mLR ?mLF ?mNK ?mVK ?mFi ?mWa ?cL ?mNx ?mRs ?mR ?mGi ?mAs ?mRk ?fTy ?fMi ?fBo ?fTa ?fWr ?fLe ?fGr ?fOn ?fSo ?fPr ?tIn ?tGr ?tSp ?tVK ?tWa ?tFi ?tCa ?tAs ?tTo ?tSe ?tRo ?tBo ?tHe ?tDu ?tTd
      case B => (refine' K12.Lib.mk ?wB_z1 ?wB_z2 ?wB_z3 ?wB_z4 ?wB_z5 ?wB_z6 ?wB_z7 ?wB_z8 ?wB_z9 ?wB_z10 ?wB_z11 <;> refine PySem.W.mg_none_of KX G ?_ <;> k_is)
      case bs => (refine' K12.BaseC.mk ?wbs_ga ?wbs_rd ?wbs_vi; (case wbs_ga => k_is); (case wbs_rd => k_is); (case wbs_vi => k_is))
      case se => (refine PySem.W.mg_of KX G ?_; k_is)
      case EC => (refine' K12.ErC.mk ?wEC_xn ?wEC_xt ?wEC_xf ?wEC_en ?wEC_et ?wEC_n1 ?wEC_n2 ?wEC_t1 ?wEC_t2 ?wEC_f1 ?wEC_f2 ?wEC_mn ?wEC_mt ?wEC_mf ?wEC_ff ?wEC_nf ?wEC_tf ?wEC_an ?wEC_at_ ?wEC_kn ?wEC_kt; (case wEC_xn => (refine' L2.XfC.mk ?wEC_v1x1 ?wEC_v1x2 ?wEC_v1x3 ?wEC_v1x4; (case wEC_v1x1 => k_is); (case wEC_v1x2 => k_is); (case wEC_v1x3 => k_is); (case wEC_v1x4 => k_is))); (case wEC_xt => (refine' L2.XfC.mk ?wEC_v2x1 ?wEC_v2x2 ?wEC_v2x3 ?wEC_v2x4; (case wEC_v2x1 => k_is); (case wEC_v2x2 => k_is); (case wEC_v2x3 => k_is); (case wEC_v2x4 => k_is))); (case wEC_xf => (refine' L2.XfC.mk ?wEC_v3x1 ?wEC_v3x2 ?wEC_v3x3 ?wEC_v3x4; (case wEC_v3x1 => k_is); (case wEC_v3x2 => k_is); (case wEC_v3x3 => k_is); (case wEC_v3x4 => k_is))); (case wEC_en => (refine' L2.ExcC.mk ?wEC_y1y1 ?wEC_y1y2 ?wEC_y1y3 ?wEC_y1y4 ?wEC_y1y5 ?wEC_y1y6 ?wEC_y1y7 ?wEC_y1y8; (case wEC_y1y1 => k_is); (case wEC_y1y2 => k_is); (case wEC_y1y3 => k_is); (case wEC_y1y4 => k_is); (case wEC_y1y5 => k_is); (case wEC_y1y6 => k_is); (case wEC_y1y7 => k_is); (case wEC_y1y8 => k_is))); (case wEC_et => (refine' L2.ExcC.mk ?wEC_y2y1 ?wEC_y2y2 ?wEC_y2y3 ?wEC_y2y4 ?wEC_y2y5 ?wEC_y2y6 ?wEC_y2y7 ?wEC_y2y8; (case wEC_y2y1 => k_is); (case wEC_y2y2 => k_is); (case wEC_y2y3 => k_is); (case wEC_y2y4 => k_is); (case wEC_y2y5 => k_is); (case wEC_y2y6 => k_is); (case wEC_y2y7 => k_is); (case wEC_y2y8 => k_is))); (case wEC_n1 => k_is); (case wEC_n2 => k_is); (case wEC_t1 => k_is); (case wEC_t2 => k_is); (case wEC_f1 => k_is); (case wEC_f2 => k_is); (case wEC_mn => (refine PySem.W.mg_of KX G ?_; k_is)); (case wEC_mt => (refine PySem.W.mg_of KX G ?_; k_is)); (case wEC_mf => (refine PySem.W.mg_of KX G ?_; k_is)); (case wEC_ff => (refine' K12.ex_one ?wEC_qffh1 ?wEC_qffh2 ?wEC_qffh3 ?wEC_qffh4; (case wEC_qffh1 => k_is); (case wEC_qffh2 => k_is); (case wEC_qffh3 => k_is); (case wEC_qffh4 => first | rfl | k_is))); (case wEC_nf => (refine' K12.ex_one ?wEC_qnfh1 ?wEC_qnfh2 ?wEC_qnfh3 ?wEC_qnfh4; (case wEC_qnfh1 => k_is); (case wEC_qnfh2 => k_is); (case wEC_qnfh3 => k_is); (case wEC_qnfh4 => first | rfl | k_is))); (case wEC_tf => (refine' K12.ex_one ?wEC_qtfh1 ?wEC_qtfh2 ?wEC_qtfh3 ?wEC_qtfh4; (case wEC_qtfh1 => k_is); (case wEC_qtfh2 => k_is); (case wEC_qtfh3 => k_is); (case wEC_qtfh4 => first | rfl | k_is))); (case wEC_an => (refine' K12.any_mk (x := true) (y := false) ?wEC_qan1 ?wEC_qan2; (case wEC_qan1 => (refine' K12.ex_one ?wEC_qanah1 ?wEC_qanah2 ?wEC_qanah3 ?wEC_qanah4; (case wEC_qanah1 => k_is); (case wEC_qanah2 => k_is); (case wEC_qanah3 => k_is); (case wEC_qanah4 => first | rfl | k_is))); (case wEC_qan2 => (refine' K12.ex_one ?wEC_qanbh1 ?wEC_qanbh2 ?wEC_qanbh3 ?wEC_qanbh4; (case wEC_qanbh1 => k_is); (case wEC_qanbh2 => k_is); (case wEC_qanbh3 => k_is); (case wEC_qanbh4 => first | rfl | k_is))))); (case wEC_at_ => (refine' K12.any_mk (x := false) (y := true) ?wEC_qat1 ?wEC_qat2; (case wEC_qat1 => (refine' K12.ex_one ?wEC_qatah1 ?wEC_qatah2 ?wEC_qatah3 ?wEC_qatah4; (case wEC_qatah1 => k_is); (case wEC_qatah2 => k_is); (case wEC_qatah3 => k_is); (case wEC_qatah4 => first | rfl | k_is))); (case wEC_qat2 => (refine' K12.ex_one ?wEC_qatbh1 ?wEC_qatbh2 ?wEC_qatbh3 ?wEC_qatbh4; (case wEC_qatbh1 => k_is); (case wEC_qatbh2 => k_is); (case wEC_qatbh3 => k_is); (case wEC_qatbh4 => first | rfl | k_is))))); (case wEC_kn => (refine' K12.kit_mk (fun z => absurd z (by decide)) ?wEC_qkn; (case wEC_qkn => (refine' K12.ex_kit ?wEC_qknah1 ?wEC_qknah2 ?wEC_qknah3 ?wEC_qknah4; (case wEC_qknah1 => k_is); (case wEC_qknah2 => k_is); (case wEC_qknah3 => k_is); (case wEC_qknah4 => first | rfl | k_is))))); (case wEC_kt => (refine' K12.kit_mk (fun _ => rfl) ?wEC_qkt; (case wEC_qkt => (refine' K12.ex_kit ?wEC_qktah1 ?wEC_qktah2 ?wEC_qktah3 ?wEC_qktah4; (case wEC_qktah1 => k_is); (case wEC_qktah2 => k_is); (case wEC_qktah3 => k_is); (case wEC_qktah4 => first | rfl | k_is))))))
      case en => (refine' K12.d_en KX G ?wen_gC ?wen_T ?wen_a ?wen_t ?wen_l ?wen_c ?wen_k; (case wen_gC => k_is); (case wen_T => (refine' K12.d_oex ?wen_o1xL ?wen_o1rv ?wen_o1sa ?wen_o1eC ?wen_o1tC ?wen_o1kC; (case wen_o1xL => k_is); (case wen_o1rv => first | rfl | decide +kernel | k_is); (case wen_o1sa => k_is); (case wen_o1eC => k_is); (case wen_o1tC => k_is); (case wen_o1kC => k_is))); (case wen_a => k_is); (case wen_t => k_is); (case wen_l => k_is); (case wen_c => k_is); (case wen_k => k_is))
      case et => (refine' K12.d_et KX G ?wet_gC ?wet_T ?wet_a ?wet_t ?wet_l ?wet_c ?wet_k; (case wet_gC => k_is); (case wet_T => (refine' K12.d_oex ?wet_o1xL ?wet_o1rv ?wet_o1sa ?wet_o1eC ?wet_o1tC ?wet_o1kC; (case wet_o1xL => k_is); (case wet_o1rv => first | rfl | decide +kernel | k_is); (case wet_o1sa => k_is); (case wet_o1eC => k_is); (case wet_o1tC => k_is); (case wet_o1kC => k_is))); (case wet_a => k_is); (case wet_t => k_is); (case wet_l => k_is); (case wet_c => k_is); (case wet_k => k_is))
      case ef => (refine' K12.d_ef KX G ?wef_gC ?wef_T ?wef_a ?wef_t ?wef_l ?wef_c ?wef_k; (case wef_gC => k_is); (case wef_T => (refine' K12.d_oex ?wef_o1xL ?wef_o1rv ?wef_o1sa ?wef_o1eC ?wef_o1tC ?wef_o1kC; (case wef_o1xL => k_is); (case wef_o1rv => first | rfl | decide +kernel | k_is); (case wef_o1sa => k_is); (case wef_o1eC => k_is); (case wef_o1tC => k_is); (case wef_o1kC => k_is))); (case wef_a => k_is); (case wef_t => k_is); (case wef_l => k_is); (case wef_c => k_is); (case wef_k => k_is))
      case num => (refine' K12.d_num KX G ?wnum_g ?wnum_l ?wnum_hd; (case wnum_g => k_is); (case wnum_l => k_is); (case wnum_hd => decide))
      case truth => (refine' K12.d_num KX G ?wtruth_g ?wtruth_l ?wtruth_hd; (case wtruth_g => k_is); (case wtruth_l => k_is); (case wtruth_hd => decide))
      case two => (refine' K12.d_two KX G ?wtwo_g ?wtwo_l ?wtwo_kl ?wtwo_e1 ?wtwo_e2 ?wtwo_e3 ?wtwo_e4 ?wtwo_e5 ?wtwo_e6 ?wtwo_e7 ?wtwo_e8 ?wtwo_e9; (case wtwo_g => k_is); (case wtwo_l => k_is); (case wtwo_e1 => k_is); (case wtwo_e2 => k_is); (case wtwo_e3 => k_is); (case wtwo_e4 => k_is); (case wtwo_e5 => k_is); (case wtwo_e6 => k_is); (case wtwo_e7 => k_is); (case wtwo_e8 => k_is); (case wtwo_e9 => k_is); (case wtwo_kl => first | k_is | (repeat' (first | exact True.intro | constructor))))
      case hd => (refine' K12.HdC.mk ?whd_cls ?whd_m ?whd_k ?whd_p; (case whd_cls => (refine' L2.Cls.mk ?whd_u1pg ?whd_u1hd ?whd_u1po ?whd_u1sa; (case whd_u1pg => k_is); (case whd_u1hd => k_is); (case whd_u1po => k_is); (case whd_u1sa => k_is))); (case whd_m => (unfold L2.NoAttr; k_is)); (case whd_k => (unfold L2.NoAttr; k_is)); (case whd_p => (unfold L2.NoAttr; k_is)))
      case lk => (refine' K12.LkC.mk ?wlk_cls ?wlk_h ?wlk_g ?wlk_p; (case wlk_cls => (refine' L2.Cls.mk ?wlk_u1pg ?wlk_u1hd ?wlk_u1po ?wlk_u1sa; (case wlk_u1pg => k_is); (case wlk_u1hd => k_is); (case wlk_u1po => k_is); (case wlk_u1sa => k_is))); (case wlk_h => (unfold L2.NoAttr; k_is)); (case wlk_g => (unfold L2.NoAttr; k_is)); (case wlk_p => (unfold L2.NoAttr; k_is)))
      case ct => (refine' L2.Cls.mk ?wct_pg ?wct_hd ?wct_po ?wct_sa; (case wct_pg => k_is); (case wct_hd => k_is); (case wct_po => k_is); (case wct_sa => k_is))
      case cf => (unfold L2.NoAttr; k_is)
      case fPR => (refine' K12.d_fPR KX G ?wfPR_a ?wfPR_l ?wfPR_c ?wfPR_k; (case wfPR_a => k_is); (case wfPR_l => k_is); (case wfPR_c => k_is); (case wfPR_k => k_is))
      case fPI => (refine' K12.d_fPI KX G ?wfPI_a ?wfPI_l ?wfPI_c ?wfPI_k; (case wfPI_a => k_is); (case wfPI_l => k_is); (case wfPI_c => k_is); (case wfPI_k => k_is))
      case fCo => (refine' K12.d_fCo KX G ?wfCo_a ?wfCo_l ?wfCo_c ?wfCo_k; (case wfCo_a => k_is); (case wfCo_l => k_is); (case wfCo_c => k_is); (case wfCo_k => k_is))
      case fNe => (refine' K12.d_fNe KX G ?wfNe_a ?wfNe_l ?wfNe_c ?wfNe_k; (case wfNe_a => k_is); (case wfNe_l => k_is); (case wfNe_c => k_is); (case wfNe_k => k_is))
      case fIn => (refine' K12.d_fIn KX G ?wfIn_a ?wfIn_l ?wfIn_c ?wfIn_k; (case wfIn_a => k_is); (case wfIn_l => k_is); (case wfIn_c => k_is); (case wfIn_k => k_is))
      case cT => (refine' K12.d_cT KX G ?wcT_gC ?wcT_mk ?wcT_kc ?wcT_a ?wcT_i ?wcT_l ?wcT_c ?wcT_k; (case wcT_gC => k_is); (case wcT_mk => k_is); (case wcT_kc => k_is); (case wcT_a => k_is); (case wcT_i => k_is); (case wcT_l => k_is); (case wcT_c => k_is); (case wcT_k => k_is))
      case cH => (refine' K12.d_cH KX G ?wcH_gC ?wcH_mk ?wcH_kc ?wcH_a ?wcH_i ?wcH_l ?wcH_c ?wcH_k; (case wcH_gC => k_is); (case wcH_mk => k_is); (case wcH_kc => k_is); (case wcH_a => k_is); (case wcH_i => k_is); (case wcH_l => k_is); (case wcH_c => k_is); (case wcH_k => k_is))
      case mLR => (refine' K12.d_mLR ?wmLR_T ?wmLR_a ?wmLR_i ?wmLR_l ?wmLR_c ?wmLR_k; (case wmLR_T => (refine' L2.Cls.mk ?wmLR_u1pg ?wmLR_u1hd ?wmLR_u1po ?wmLR_u1sa; (case wmLR_u1pg => k_is); (case wmLR_u1hd => k_is); (case wmLR_u1po => k_is); (case wmLR_u1sa => k_is))); (case wmLR_a => k_is); (case wmLR_i => k_is); (case wmLR_l => k_is); (case wmLR_c => k_is); (case wmLR_k => k_is))
      case mLF => (refine' K12.d_mLF ?wmLF_T ?wmLF_a ?wmLF_i ?wmLF_l ?wmLF_c ?wmLF_k; (case wmLF_T => (refine' L2.Cls.mk ?wmLF_u1pg ?wmLF_u1hd ?wmLF_u1po ?wmLF_u1sa; (case wmLF_u1pg => k_is); (case wmLF_u1hd => k_is); (case wmLF_u1po => k_is); (case wmLF_u1sa => k_is))); (case wmLF_a => k_is); (case wmLF_i => k_is); (case wmLF_l => k_is); (case wmLF_c => k_is); (case wmLF_k => k_is))
      case mNK => (refine' K12.d_mNK ?wmNK_T ?wmNK_a ?wmNK_i ?wmNK_l ?wmNK_c ?wmNK_k; (case wmNK_T => (refine' L2.Cls.mk ?wmNK_u1pg ?wmNK_u1hd ?wmNK_u1po ?wmNK_u1sa; (case wmNK_u1pg => k_is); (case wmNK_u1hd => k_is); (case wmNK_u1po => k_is); (case wmNK_u1sa => k_is))); (case wmNK_a => k_is); (case wmNK_i => k_is); (case wmNK_l => k_is); (case wmNK_c => k_is); (case wmNK_k => k_is))
      case mVK => (refine' K12.d_mVK ?wmVK_T ?wmVK_a ?wmVK_i ?wmVK_l ?wmVK_c ?wmVK_k; (case wmVK_T => (refine' L2.Cls.mk ?wmVK_u1pg ?wmVK_u1hd ?wmVK_u1po ?wmVK_u1sa; (case wmVK_u1pg => k_is); (case wmVK_u1hd => k_is); (case wmVK_u1po => k_is); (case wmVK_u1sa => k_is))); (case wmVK_a => k_is); (case wmVK_i => k_is); (case wmVK_l => k_is); (case wmVK_c => k_is); (case wmVK_k => k_is))
      case mFi => (refine' K12.d_mFi ?wmFi_T ?wmFi_a ?wmFi_i ?wmFi_l ?wmFi_c ?wmFi_k; (case wmFi_T => (refine' L2.Cls.mk ?wmFi_u1pg ?wmFi_u1hd ?wmFi_u1po ?wmFi_u1sa; (case wmFi_u1pg => k_is); (case wmFi_u1hd => k_is); (case wmFi_u1po => k_is); (case wmFi_u1sa => k_is))); (case wmFi_a => k_is); (case wmFi_i => k_is); (case wmFi_l => k_is); (case wmFi_c => k_is); (case wmFi_k => k_is))
      case mWa => (refine' K12.d_mWa ?wmWa_T ?wmWa_a ?wmWa_i ?wmWa_l ?wmWa_c ?wmWa_k; (case wmWa_T => (refine' L2.Cls.mk ?wmWa_u1pg ?wmWa_u1hd ?wmWa_u1po ?wmWa_u1sa; (case wmWa_u1pg => k_is); (case wmWa_u1hd => k_is); (case wmWa_u1po => k_is); (case wmWa_u1sa => k_is))); (case wmWa_a => k_is); (case wmWa_i => k_is); (case wmWa_l => k_is); (case wmWa_c => k_is); (case wmWa_k => k_is))
      case cL => (refine' K12.d_cL KX G ?wcL_gC ?wcL_mk ?wcL_kc ?wcL_a ?wcL_i ?wcL_l ?wcL_c ?wcL_k; (case wcL_gC => k_is); (case wcL_mk => k_is); (case wcL_kc => k_is); (case wcL_a => k_is); (case wcL_i => k_is); (case wcL_l => k_is); (case wcL_c => k_is); (case wcL_k => k_is))
      case mNx => (refine' K12.d_mNx ?wmNx_T ?wmNx_a ?wmNx_i ?wmNx_l ?wmNx_c ?wmNx_k; (case wmNx_T => (refine' L2.Cls.mk ?wmNx_u1pg ?wmNx_u1hd ?wmNx_u1po ?wmNx_u1sa; (case wmNx_u1pg => k_is); (case wmNx_u1hd => k_is); (case wmNx_u1po => k_is); (case wmNx_u1sa => k_is))); (case wmNx_a => k_is); (case wmNx_i => k_is); (case wmNx_l => k_is); (case wmNx_c => k_is); (case wmNx_k => k_is))
      case mRs => (refine' K12.d_mRs ?wmRs_T ?wmRs_a ?wmRs_i ?wmRs_l ?wmRs_c ?wmRs_k; (case wmRs_T => (refine' L2.Cls.mk ?wmRs_u1pg ?wmRs_u1hd ?wmRs_u1po ?wmRs_u1sa; (case wmRs_u1pg => k_is); (case wmRs_u1hd => k_is); (case wmRs_u1po => k_is); (case wmRs_u1sa => k_is))); (case wmRs_a => k_is); (case wmRs_i => k_is); (case wmRs_l => k_is); (case wmRs_c => k_is); (case wmRs_k => k_is))
      case mR => (refine' K12.d_mR ?wmR_T ?wmR_a ?wmR_i ?wmR_l ?wmR_c ?wmR_k; (case wmR_T => (refine' L2.Cls.mk ?wmR_u1pg ?wmR_u1hd ?wmR_u1po ?wmR_u1sa; (case wmR_u1pg => k_is); (case wmR_u1hd => k_is); (case wmR_u1po => k_is); (case wmR_u1sa => k_is))); (case wmR_a => k_is); (case wmR_i => k_is); (case wmR_l => k_is); (case wmR_c => k_is); (case wmR_k => k_is))
      case mGi => (refine' K12.d_mGi ?wmGi_T ?wmGi_a ?wmGi_i ?wmGi_l ?wmGi_c ?wmGi_k; (case wmGi_T => (refine' L2.Cls.mk ?wmGi_u1pg ?wmGi_u1hd ?wmGi_u1po ?wmGi_u1sa; (case wmGi_u1pg => k_is); (case wmGi_u1hd => k_is); (case wmGi_u1po => k_is); (case wmGi_u1sa => k_is))); (case wmGi_a => k_is); (case wmGi_i => k_is); (case wmGi_l => k_is); (case wmGi_c => k_is); (case wmGi_k => k_is))
      case mAs => (refine' K12.d_mAs ?wmAs_T ?wmAs_a ?wmAs_i ?wmAs_l ?wmAs_c ?wmAs_k; (case wmAs_T => (refine' L2.Cls.mk ?wmAs_u1pg ?wmAs_u1hd ?wmAs_u1po ?wmAs_u1sa; (case wmAs_u1pg => k_is); (case wmAs_u1hd => k_is); (case wmAs_u1po => k_is); (case wmAs_u1sa => k_is))); (case wmAs_a => k_is); (case wmAs_i => k_is); (case wmAs_l => k_is); (case wmAs_c => k_is); (case wmAs_k => k_is))
      case mRk => (refine' K12.d_mRk ?wmRk_T ?wmRk_a ?wmRk_i ?wmRk_l ?wmRk_c ?wmRk_k; (case wmRk_T => (refine' L2.Cls.mk ?wmRk_u1pg ?wmRk_u1hd ?wmRk_u1po ?wmRk_u1sa; (case wmRk_u1pg => k_is); (case wmRk_u1hd => k_is); (case wmRk_u1po => k_is); (case wmRk_u1sa => k_is))); (case wmRk_a => k_is); (case wmRk_i => k_is); (case wmRk_l => k_is); (case wmRk_c => k_is); (case wmRk_k => k_is))
      case fTy => (refine' K12.d_fTy KX G ?wfTy_a ?wfTy_l ?wfTy_c ?wfTy_k; (case wfTy_a => k_is); (case wfTy_l => k_is); (case wfTy_c => k_is); (case wfTy_k => k_is))
      case fMi => (refine' K12.d_fMi KX G ?wfMi_a ?wfMi_l ?wfMi_c ?wfMi_k; (case wfMi_a => k_is); (case wfMi_l => k_is); (case wfMi_c => k_is); (case wfMi_k => k_is))
      case fBo => (refine' K12.d_fBo KX G ?wfBo_a ?wfBo_l ?wfBo_c ?wfBo_k; (case wfBo_a => k_is); (case wfBo_l => k_is); (case wfBo_c => k_is); (case wfBo_k => k_is))
      case fTa => (refine' K12.d_fTa KX G ?wfTa_a ?wfTa_l ?wfTa_c ?wfTa_k; (case wfTa_a => k_is); (case wfTa_l => k_is); (case wfTa_c => k_is); (case wfTa_k => k_is))
      case fWr => (refine' K12.d_fWr KX G ?wfWr_a ?wfWr_l ?wfWr_c ?wfWr_k; (case wfWr_a => k_is); (case wfWr_l => k_is); (case wfWr_c => k_is); (case wfWr_k => k_is))
      case fLe => (refine' K12.d_fLe KX G ?wfLe_a ?wfLe_l ?wfLe_c ?wfLe_k; (case wfLe_a => k_is); (case wfLe_l => k_is); (case wfLe_c => k_is); (case wfLe_k => k_is))
      case fGr => (refine' K12.d_fGr KX G ?wfGr_a ?wfGr_l ?wfGr_c ?wfGr_k; (case wfGr_a => k_is); (case wfGr_l => k_is); (case wfGr_c => k_is); (case wfGr_k => k_is))
      case fOn => (refine' K12.d_fOn KX G ?wfOn_a ?wfOn_l ?wfOn_c ?wfOn_k; (case wfOn_a => k_is); (case wfOn_l => k_is); (case wfOn_c => k_is); (case wfOn_k => k_is))
      case fSo => (refine' K12.d_fSo KX G ?wfSo_a ?wfSo_l ?wfSo_c ?wfSo_k; (case wfSo_a => k_is); (case wfSo_l => k_is); (case wfSo_c => k_is); (case wfSo_k => k_is))
      case fPr => (refine' K12.d_fPr KX G ?wfPr_a ?wfPr_l ?wfPr_c ?wfPr_k; (case wfPr_a => k_is); (case wfPr_l => k_is); (case wfPr_c => k_is); (case wfPr_k => k_is))
      case tIn => (refine' K12.d_tIn KX G ?wtIn_a ?wtIn_l ?wtIn_c ?wtIn_k; (case wtIn_a => k_is); (case wtIn_l => k_is); (case wtIn_c => k_is); (case wtIn_k => k_is))
      case tGr => (refine' K12.d_tGr KX G ?wtGr_a ?wtGr_l ?wtGr_c ?wtGr_k; (case wtGr_a => k_is); (case wtGr_l => k_is); (case wtGr_c => k_is); (case wtGr_k => k_is))
      case tSp => (refine' K12.d_tSp KX G ?wtSp_a ?wtSp_l ?wtSp_c ?wtSp_k; (case wtSp_a => k_is); (case wtSp_l => k_is); (case wtSp_c => k_is); (case wtSp_k => k_is))
      case tVK => (refine' K12.d_tVK KX G ?wtVK_a ?wtVK_l ?wtVK_c ?wtVK_k; (case wtVK_a => k_is); (case wtVK_l => k_is); (case wtVK_c => k_is); (case wtVK_k => k_is))
      case tWa => (refine' K12.d_tWa KX G ?wtWa_a ?wtWa_l ?wtWa_c ?wtWa_k; (case wtWa_a => k_is); (case wtWa_l => k_is); (case wtWa_c => k_is); (case wtWa_k => k_is))
      case tFi => (refine' K12.d_tFi KX G ?wtFi_a ?wtFi_l ?wtFi_c ?wtFi_k; (case wtFi_a => k_is); (case wtFi_l => k_is); (case wtFi_c => k_is); (case wtFi_k => k_is))
      case tCa => (refine' K12.d_tCa KX G ?wtCa_a ?wtCa_l ?wtCa_c ?wtCa_k; (case wtCa_a => k_is); (case wtCa_l => k_is); (case wtCa_c => k_is); (case wtCa_k => k_is))
      case tAs => (refine' K12.d_tAs KX G ?wtAs_a ?wtAs_l ?wtAs_c ?wtAs_k; (case wtAs_a => k_is); (case wtAs_l => k_is); (case wtAs_c => k_is); (case wtAs_k => k_is))
      case tTo => (refine' K12.d_tTo KX G ?wtTo_a ?wtTo_l ?wtTo_c ?wtTo_k; (case wtTo_a => k_is); (case wtTo_l => k_is); (case wtTo_c => k_is); (case wtTo_k => k_is))
      case tSe => (refine' K12.d_tSe KX G ?wtSe_a ?wtSe_l ?wtSe_c ?wtSe_k; (case wtSe_a => k_is); (case wtSe_l => k_is); (case wtSe_c => k_is); (case wtSe_k => k_is))
      case tRo => (refine' K12.d_tRo KX G ?wtRo_a ?wtRo_l ?wtRo_c ?wtRo_k; (case wtRo_a => k_is); (case wtRo_l => k_is); (case wtRo_c => k_is); (case wtRo_k => k_is))
      case tBo => (refine' K12.d_tBo KX G ?wtBo_a ?wtBo_l ?wtBo_c ?wtBo_k; (case wtBo_a => k_is); (case wtBo_l => k_is); (case wtBo_c => k_is); (case wtBo_k => k_is))
      case tHe => (refine' K12.d_tHe KX G ?wtHe_a ?wtHe_l ?wtHe_c ?wtHe_k; (case wtHe_a => k_is); (case wtHe_l => k_is); (case wtHe_c => k_is); (case wtHe_k => k_is))
      case tDu => (refine' K12.d_tDu KX G ?wtDu_a ?wtDu_l ?wtDu_c ?wtDu_k; (case wtDu_a => k_is); (case wtDu_l => k_is); (case wtDu_c => k_is); (case wtDu_k => k_is))
      case tTd => (refine' K12.d_tTd KX G ?wtTd_a ?wtTd_l ?wtTd_c ?wtTd_k; (case wtTd_a => k_is); (case wtTd_l => k_is); (case wtTd_c => k_is); (case wtTd_k => k_is))
