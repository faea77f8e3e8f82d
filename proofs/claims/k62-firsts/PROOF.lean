import PyProof.Rows.All
import Wide.All
import OpenK.AllK
import Wide.FinOn
import HandS.ForMost
import HandS.ForExc
import HandS.Flow
import HandS.CallLocal
import HandS.IsInst
import HandS.TupAny
import HandS.Deep
import HandS.TupLe
import HandS.TupMul
import HandS.Zip
import HandS.Conv
import HandS.Wide
import HandS.SortInts
import HandS.TupSets
import HandS.Defaults
import HandS.ExcInit
import HandS.ExcField
import KE.GoesMore
import KE.GoesEnum
import HandS.Style
import HandS.WordsExc
import HandS.SortOrd
import HandS.SortRule
import HandS.NamedTupSort
import HandS.SetFor
import HandS.Strs
import KE.DataMinMax
import KE.SortData
import KE.DatumOrd
import KE.KTupSum
import HandS.Dict
import HandS.DictComp
import HandS.ExcValue
import HandS.ExcOwn
import KE.KDictSum
import HandS.Gcd
import HandS.Star
import PySem.Challenge.RW_pitstairs_k62_whole_firsts_by_all_result
set_option Elab.async false
set_option linter.all false
set_option maxRecDepth 100000
/-! PD: values by content, a store of lists that change, readings by plain functions. -/
namespace PD
open PySem PySem.Spec PyProof.Rows L2
abbrev St := L2.St
/-- a value by its content -/
inductive D where
  | non | bl (b : Bool) | int (i : Int) | str (x : Str) | ty (n : String) | fn (f : Str)
  | tup (ds : List D) | lst (ds : List D) | dic (kvs : List (L2.Key × D))
  deriving Inhabited
/-- what a name holds: a content, or a list that changes (its place in the store) -/
inductive W where
  | d (x : D) | mt (i : Nat)
  deriving Inhabited
abbrev Store := List (Option (List D))
abbrev Ev := List (Option W)
structure Exc where
  cls : Str
  fs : List (Str × D)
inductive Res (α : Type) where
  | ok (a : α) (M : Store)
  | err (x : Exc) (M : Store)
  | bad
def Res.bind {α β : Type} (r : Res α) (k : α → Store → Res β) : Res β :=
  match r with
  | .ok a M => k a M
  | .err x M => .err x M
  | .bad => .bad
@[simp] theorem Res.bind_ok {α β : Type} (a : α) (M : Store) (k : α → Store → Res β) : (Res.ok a M).bind k = k a M := rfl
@[simp] theorem Res.bind_err {α β : Type} (x : Exc) (M : Store) (k : α → Store → Res β) : (Res.err x M : Res α).bind k = .err x M := rfl
@[simp] theorem Res.bind_bad {α β : Type} (k : α → Store → Res β) : (Res.bad : Res α).bind k = .bad := rfl
abbrev DE := Ev → Store → Res W
abbrev DT := Ev → Store → Res Bool
abbrev DA := Ev → Store → Res (List W)
abbrev DL := Ev → Store → Res (List D)
abbrev Fn := List W → Store → Res W
/-! ### what stands for what -/
abbrev MG := Str → Option Value
mutual
inductive Rep (K : PySem.W.Frag) (mg : MG) (F : Hp) : V → D → Prop
  | non : Rep K mg F .non .non
  | bl (b : Bool) : Rep K mg F (.bl b) (.bl b)
  | int (i : Int) : Rep K mg F (.int i) (.int i)
  | str (x : Str) : Rep K mg F (.str x) (.str x)
  | ty (n : String) : Rep K mg F (.ty n) (.ty n)
  | fn {a : Addr} {f : Str} : mg f = some (.ref a) → Rep K mg F (.ref a) (.fn f)
  | tup {a : Addr} {xs : List V} {ds : List D} : SqT K F a xs → Reps K mg F xs ds → Rep K mg F (.ref a) (.tup ds)
  | lst {a : Addr} {xs : List V} {ds : List D} : SqL K F a xs → Reps K mg F xs ds → Rep K mg F (.ref a) (.lst ds)
  | dic {a : Addr} {o : Obj} {kvs : List (L2.Key × V)} {ds : List (L2.Key × D)} : F a = some (.frz o (.dK kvs)) → RepK K mg F kvs ds → Rep K mg F (.ref a) (.dic ds)
inductive Reps (K : PySem.W.Frag) (mg : MG) (F : Hp) : List V → List D → Prop
  | nil : Reps K mg F [] []
  | cons {v : V} {d : D} {vs : List V} {ds : List D} : Rep K mg F v d → Reps K mg F vs ds → Reps K mg F (v :: vs) (d :: ds)
inductive RepK (K : PySem.W.Frag) (mg : MG) (F : Hp) : List (L2.Key × V) → List (L2.Key × D) → Prop
  | nil : RepK K mg F [] []
  | cons {k : L2.Key} {v : V} {d : D} {vs : List (L2.Key × V)} {ds : List (L2.Key × D)} : Rep K mg F v d → RepK K mg F vs ds → RepK K mg F ((k, v) :: vs) ((k, d) :: ds)
end
def Sub (F F' : Hp) : Prop := ∀ a o, F a = some o → F' a = some o
theorem Sub.refl (F : Hp) : Sub F F := fun _ _ h => h
theorem Sub.trans {F F' F'' : Hp} (a : Sub F F') (b : Sub F' F'') : Sub F F'' := fun x o h => b x o (a x o h)
theorem Sub.upd {F : Hp} {p : Addr} {o : HO} (h : F p = none) : Sub F (upd F p o) := fun a u e => by
  rw [upd_ne (ne_of_none e h)]; exact e
variable {K : PySem.W.Frag} {mg : MG}
theorem SqL.mono {F F' : Hp} (s : Sub F F') {a : Addr} {xs : List V} (h : SqL K F a xs) : SqL K F' a xs := by
  rcases h with (h | ⟨o, h⟩) | h
  · exact .inl (.inl (s _ _ h))
  · exact .inl (.inr ⟨o, s _ _ h⟩)
  · exact .inr h
theorem SqT.mono {F F' : Hp} (s : Sub F F') {a : Addr} {xs : List V} (h : SqT K F a xs) : SqT K F' a xs := by
  rcases h with (h | ⟨o, h⟩) | h
  · exact .inl (.inl (s _ _ h))
  · exact .inl (.inr ⟨o, s _ _ h⟩)
  · exact .inr h
mutual
theorem Rep.mono {F F' : Hp} (s : Sub F F') : ∀ {v : V} {d : D}, Rep K mg F v d → Rep K mg F' v d
  | _, _, .non => .non
  | _, _, .bl b => .bl b
  | _, _, .int b => .int b
  | _, _, .str b => .str b
  | _, _, .ty b => .ty b
  | _, _, .fn h => .fn h
  | _, _, .tup h r => .tup (SqT.mono s h) (Reps.mono s r)
  | _, _, .lst h r => .lst (SqL.mono s h) (Reps.mono s r)
  | _, _, .dic h r => .dic (s _ _ h) (RepK.mono s r)
theorem Reps.mono {F F' : Hp} (s : Sub F F') : ∀ {v : List V} {d : List D}, Reps K mg F v d → Reps K mg F' v d
  | _, _, .nil => .nil
  | _, _, .cons h r => .cons (Rep.mono s h) (Reps.mono s r)
theorem RepK.mono {F F' : Hp} (s : Sub F F') : ∀ {v : List (L2.Key × V)} {d : List (L2.Key × D)}, RepK K mg F v d → RepK K mg F' v d
  | _, _, .nil => .nil
  | _, _, .cons h r => .cons (Rep.mono s h) (RepK.mono s r)
end
section
variable {F : Hp}
theorem Reps.length : ∀ {xs : List V} {ds : List D}, Reps K mg F xs ds → xs.length = ds.length
  | _, _, .nil => rfl
  | _, _, .cons _ r => by rw [List.length_cons, List.length_cons, Reps.length r]
theorem Reps.get : ∀ {xs : List V} {ds : List D} {i : Nat} {d : D}, Reps K mg F xs ds → ds[i]? = some d → ∃ x, xs[i]? = some x ∧ Rep K mg F x d
  | _, _, _, _, .nil, h => by simp at h
  | _, _, 0, _, .cons h _, e => by simp at e; subst e; exact ⟨_, rfl, h⟩
  | _, _, i + 1, _, .cons _ r, e => by
    obtain ⟨x, h1, h2⟩ := Reps.get (i := i) r (by simpa using e)
    exact ⟨x, by simpa using h1, h2⟩
theorem Reps.get' : ∀ {xs : List V} {ds : List D} {i : Nat} {x : V}, Reps K mg F xs ds → xs[i]? = some x → ∃ d, ds[i]? = some d ∧ Rep K mg F x d
  | _, _, _, _, .nil, h => by simp at h
  | _, _, 0, _, .cons h _, e => by simp at e; subst e; exact ⟨_, rfl, h⟩
  | _, _, i + 1, _, .cons _ r, e => by
    obtain ⟨x, h1, h2⟩ := Reps.get' (i := i) r (by simpa using e)
    exact ⟨x, by simpa using h1, h2⟩
theorem Reps.append : ∀ {xs ys : List V} {ds es : List D}, Reps K mg F xs ds → Reps K mg F ys es → Reps K mg F (xs ++ ys) (ds ++ es)
  | _, _, _, _, .nil, h => h
  | _, _, _, _, .cons h r, q => .cons h (Reps.append r q)
theorem Reps.take : ∀ (n : Nat) {xs : List V} {ds : List D}, Reps K mg F xs ds → Reps K mg F (xs.take n) (ds.take n)
  | 0, _, _, _ => .nil
  | _ + 1, _, _, .nil => .nil
  | n + 1, _, _, .cons h r => .cons h (Reps.take n r)
theorem Reps.drop : ∀ (n : Nat) {xs : List V} {ds : List D}, Reps K mg F xs ds → Reps K mg F (xs.drop n) (ds.drop n)
  | 0, _, _, h => h
  | _ + 1, _, _, .nil => .nil
  | n + 1, _, _, .cons _ r => Reps.drop n r
theorem Reps.set : ∀ (n : Nat) {xs : List V} {ds : List D} {x : V} {d : D}, Reps K mg F xs ds → Rep K mg F x d → Reps K mg F (xs.set n x) (ds.set n d)
  | _, _, _, _, _, .nil, _ => .nil
  | 0, _, _, _, _, .cons _ r, q => .cons q r
  | n + 1, _, _, _, _, .cons h r, q => .cons h (Reps.set n r q)
theorem Reps.reverse : ∀ {xs : List V} {ds : List D}, Reps K mg F xs ds → Reps K mg F xs.reverse ds.reverse
  | _, _, .nil => .nil
  | _, _, .cons h r => by
    rw [List.reverse_cons, List.reverse_cons]
    exact Reps.append (Reps.reverse r) (.cons h .nil)
theorem Reps.ints : ∀ (ns : List Int), Reps K mg F (ns.map V.int) (ns.map D.int)
  | [] => .nil
  | n :: ns => .cons (.int n) (Reps.ints ns)
theorem Reps.flat : ∀ {xs : List (List V)} {ds : List (List D)}, Paired (Reps K mg F) xs ds → Reps K mg F xs.flatten ds.flatten
  | _, _, .nil => .nil
  | _, _, .cons h r => by
    rw [List.flatten_cons, List.flatten_cons]
    exact Reps.append h (Reps.flat r)
end
def RepW (K : PySem.W.Frag) (mg : MG) (F : Hp) (ρ : List Addr) (v : V) : W → Prop
  | .d x => Rep K mg F v x
  | .mt i => ∃ a, ρ[i]? = some a ∧ v = .ref a
abbrev RepWs (K : PySem.W.Frag) (mg : MG) (F : Hp) (ρ : List Addr) : List V → List W → Prop := Paired (RepW K mg F ρ)
def RepS (K : PySem.W.Frag) (mg : MG) (F : Hp) (ρ : List Addr) (σ : St) (env : Ev) : Prop :=
  σ.length = env.length ∧ ∀ (i : Nat) (w : W), env[i]? = some (some w) → ∃ v, σ[i]? = some (some v) ∧ RepW K mg F ρ v w
structure Rel (K : PySem.W.Frag) (mg : MG) (F : Hp) (ρ : List Addr) (M : Store) (H : Hp) : Prop where
  sub : Sub F H
  len : ρ.length = M.length
  nd : ρ.Nodup
  tr : ∀ a ∈ ρ, H a ≠ none
  cell : ∀ (i : Nat) (a : Addr) (ds : List D), ρ[i]? = some a → M[i]? = some (some ds) → F a = none ∧ ∃ xs, H a = some (.lst xs) ∧ Reps K mg F xs ds
structure Ext (F : Hp) (ρ : List Addr) (H : Hp) (F' : Hp) (ρ' : List Addr) (H' : Hp) : Prop where
  sub : Sub F F'
  pre : ρ <+: ρ'
  frame : ∀ a o, H a = some o → a ∉ ρ → H' a = some o
  there : ∀ a, H a ≠ none → H' a ≠ none
  newF : ∀ a o, F' a = some o → F a = some o ∨ H a = none ∨ a ∈ ρ
  newR : ∀ a ∈ ρ', a ∈ ρ ∨ H a = none
section
variable {F F' F'' : Hp} {ρ ρ' ρ'' : List Addr} {H H' H'' : Hp} {M M' : Store}
theorem Ext.refl : Ext F ρ H F ρ H := ⟨.refl _, List.prefix_refl _, fun _ _ h _ => h, fun _ h => h, fun _ _ h => .inl h, fun _ h => .inl h⟩
theorem Ext.trans (a : Ext F ρ H F' ρ' H') (b : Ext F' ρ' H' F'' ρ'' H'') : Ext F ρ H F'' ρ'' H'' where
  sub := a.sub.trans b.sub
  pre := a.pre.trans b.pre
  frame := fun x o h n => b.frame x o (a.frame x o h n) fun m => by
    rcases a.newR x m with z | z
    · exact n z
    · rw [h] at z; cases z
  there := fun x h => b.there x (a.there x h)
  newF := fun x o h => by
    rcases b.newF x o h with z | z | z
    · exact a.newF x o z
    · refine .inr (.inl ?_)
      cases e : H x with
      | none => rfl
      | some u => exact absurd z (a.there x (by rw [e]; simp))
    · rcases a.newR x z with q | q
      · exact .inr (.inr q)
      · exact .inr (.inl q)
  newR := fun x h => by
    rcases b.newR x h with z | z
    · exact a.newR x z
    · refine .inr ?_
      cases e : H x with
      | none => rfl
      | some u => exact absurd z (a.there x (by rw [e]; simp))
theorem pre_get {ρ ρ' : List Addr} (h : ρ <+: ρ') {i : Nat} {a : Addr} (e : ρ[i]? = some a) : ρ'[i]? = some a := by
  obtain ⟨t, rfl⟩ := h
  have hi : i < ρ.length := (List.getElem?_eq_some_iff.mp e).1
  rw [List.getElem?_append_left hi]; exact e
theorem RepW.mono (s : Sub F F') (p : ρ <+: ρ') {v : V} : ∀ {w : W}, RepW K mg F ρ v w → RepW K mg F' ρ' v w
  | .d _, h => Rep.mono s h
  | .mt _, ⟨a, e, r⟩ => ⟨a, pre_get p e, r⟩
theorem RepWs.mono (s : Sub F F') (p : ρ <+: ρ') : ∀ {vs : List V} {ws : List W}, RepWs K mg F ρ vs ws → RepWs K mg F' ρ' vs ws
  | _, _, .nil => .nil
  | _, _, .cons h r => .cons (RepW.mono s p h) (RepWs.mono s p r)
theorem RepS.mono (s : Sub F F') (p : ρ <+: ρ') {σ : St} {env : Ev} (h : RepS K mg F ρ σ env) : RepS K mg F' ρ' σ env :=
  ⟨h.1, fun i w e => let ⟨v, a, b⟩ := h.2 i w e; ⟨v, a, RepW.mono s p b⟩⟩
theorem RepS.ext (x : Ext F ρ H F' ρ' H') {σ : St} {env : Ev} (h : RepS K mg F ρ σ env) : RepS K mg F' ρ' σ env := h.mono x.sub x.pre
theorem RepS.set {σ : St} {env : Ev} (h : RepS K mg F ρ σ env) {v : V} {w : W} (r : RepW K mg F ρ v w) (i : Nat) : RepS K mg F ρ (σ.set i (some v)) (env.set i (some w)) := by
  refine ⟨by rw [List.length_set, List.length_set, h.1], fun j u e => ?_⟩
  by_cases hj : i = j
  · subst hj
    have hl : i < env.length := by
      have := (List.getElem?_eq_some_iff.mp e).1
      rwa [List.length_set] at this
    rw [List.getElem?_set_self hl] at e
    cases e
    exact ⟨v, List.getElem?_set_self (by rw [h.1]; exact hl), r⟩
  · rw [List.getElem?_set_ne hj] at e
    obtain ⟨x, a, b⟩ := h.2 j u e
    exact ⟨x, by rw [List.getElem?_set_ne hj]; exact a, b⟩
/-- an address that is free now -/
theorem Rel.fresh (R : Rel K mg F ρ M H) {p : Addr} (h : H p = none) : F p = none ∧ p ∉ ρ := by
  refine ⟨?_, fun m => R.tr p m h⟩
  cases e : F p with
  | none => rfl
  | some o => rw [R.sub p o e] at h; cases h
/-- a new object, known as content -/
theorem Rel.newF (R : Rel K mg F ρ M H) {p : Addr} (h : H p = none) (o : HO) : Rel K mg (upd F p o) ρ M (upd H p o) := by
  obtain ⟨hF, hr⟩ := R.fresh h
  have s := Sub.upd (o := o) hF
  refine ⟨fun a u e => ?_, R.len, R.nd, fun a ha => ?_, fun i a ds e1 e2 => ?_⟩
  · by_cases ha : a = p
    · subst ha; rw [upd_same] at e ⊢; exact e
    · rw [upd_ne ha] at e ⊢; exact R.sub a u e
  · have : a ≠ p := fun z => hr (z ▸ ha)
    rw [upd_ne this]; exact R.tr a ha
  · obtain ⟨h1, xs, h2, h3⟩ := R.cell i a ds e1 e2
    have : a ≠ p := fun z => hr (z ▸ List.mem_of_getElem? e1)
    refine ⟨by rw [upd_ne this]; exact h1, xs, by rw [upd_ne this]; exact h2, Reps.mono s h3⟩
theorem Rel.extF (R : Rel K mg F ρ M H) {p : Addr} (h : H p = none) (o : HO) : Ext F ρ H (upd F p o) ρ (upd H p o) := by
  obtain ⟨hF, hr⟩ := R.fresh h
  refine ⟨Sub.upd hF, List.prefix_refl _, fun a u e _ => by rw [upd_ne (ne_of_none e h)]; exact e, fun a e => ?_, fun a u e => ?_, fun a ha => .inl ha⟩
  · by_cases ha : a = p
    · subst ha; rw [upd_same]; simp
    · rw [upd_ne ha]; exact e
  · by_cases ha : a = p
    · subst ha; exact .inr (.inl h)
    · rw [upd_ne ha] at e; exact .inl e
theorem Rel.tup (R : Rel K mg F ρ M H) {p : Addr} (h : H p = none) {xs : List V} {ds : List D} (r : Reps K mg F xs ds) :
    Ext F ρ H (upd F p (.tup xs)) ρ (upd H p (.tup xs)) ∧ Rel K mg (upd F p (.tup xs)) ρ M (upd H p (.tup xs)) ∧ Rep K mg (upd F p (.tup xs)) (.ref p) (.tup ds) :=
  ⟨R.extF h _, R.newF h _, .tup (.of upd_same) (Reps.mono (R.extF h _).sub r)⟩
theorem Rel.lst (R : Rel K mg F ρ M H) {p : Addr} (h : H p = none) {xs : List V} {ds : List D} (r : Reps K mg F xs ds) :
    Ext F ρ H (upd F p (.lst xs)) ρ (upd H p (.lst xs)) ∧ Rel K mg (upd F p (.lst xs)) ρ M (upd H p (.lst xs)) ∧ Rep K mg (upd F p (.lst xs)) (.ref p) (.lst ds) :=
  ⟨R.extF h _, R.newF h _, .lst (.of upd_same) (Reps.mono (R.extF h _).sub r)⟩
/-- a new object, forgotten (or told elsewhere) -/
theorem Rel.newH (R : Rel K mg F ρ M H) {p : Addr} (h : H p = none) (o : HO) : Rel K mg F ρ M (upd H p o) := by
  obtain ⟨hF, hr⟩ := R.fresh h
  refine ⟨fun a u e => by rw [upd_ne (ne_of_none e hF)]; exact R.sub a u e, R.len, R.nd, fun a ha => ?_, fun i a ds e1 e2 => ?_⟩
  · have : a ≠ p := fun z => hr (z ▸ ha)
    rw [upd_ne this]; exact R.tr a ha
  · obtain ⟨h1, xs, h2, h3⟩ := R.cell i a ds e1 e2
    have : a ≠ p := fun z => hr (z ▸ List.mem_of_getElem? e1)
    exact ⟨h1, xs, by rw [upd_ne this]; exact h2, h3⟩
theorem Rel.extH (R : Rel K mg F ρ M H) {p : Addr} (h : H p = none) (o : HO) : Ext F ρ H F ρ (upd H p o) := by
  refine ⟨.refl _, List.prefix_refl _, fun a u e _ => by rw [upd_ne (ne_of_none e h)]; exact e, fun a e => ?_, fun a u e => .inl e, fun a ha => .inl ha⟩
  by_cases ha : a = p
  · subst ha; rw [upd_same]; simp
  · rw [upd_ne ha]; exact e
/-- an untracked object that stands alone is written -/
theorem Rel.writeH (R : Rel K mg F ρ M H) {p : Addr} (hF : F p = none) (hr : p ∉ ρ) (o : HO) : Rel K mg F ρ M (upd H p o) := by
  refine ⟨fun a u e => by rw [upd_ne (ne_of_none e hF)]; exact R.sub a u e, R.len, R.nd, fun a ha => ?_, fun i a ds e1 e2 => ?_⟩
  · have : a ≠ p := fun z => hr (z ▸ ha)
    rw [upd_ne this]; exact R.tr a ha
  · obtain ⟨h1, xs, h2, h3⟩ := R.cell i a ds e1 e2
    have : a ≠ p := fun z => hr (z ▸ List.mem_of_getElem? e1)
    exact ⟨h1, xs, by rw [upd_ne this]; exact h2, h3⟩
/-- an object that stands alone is told as content -/
theorem Rel.tellF (R : Rel K mg F ρ M H) {p : Addr} {o : HO} (hF : F p = none) (hr : p ∉ ρ) (hp : H p = some o) : Rel K mg (upd F p o) ρ M H := by
  have s := Sub.upd (o := o) hF
  refine ⟨fun a u e => ?_, R.len, R.nd, R.tr, fun i a ds e1 e2 => ?_⟩
  · by_cases ha : a = p
    · subst ha; rw [upd_same] at e; rw [hp]; exact e
    · rw [upd_ne ha] at e; exact R.sub a u e
  · obtain ⟨h1, xs, h2, h3⟩ := R.cell i a ds e1 e2
    have : a ≠ p := fun z => hr (z ▸ List.mem_of_getElem? e1)
    exact ⟨by rw [upd_ne this]; exact h1, xs, h2, Reps.mono s h3⟩
/-- a list that stands alone becomes a list of the store -/
theorem Rel.tellM (R : Rel K mg F ρ M H) {p : Addr} {xs : List V} {ds : List D} (hF : F p = none) (hr : p ∉ ρ) (hp : H p = some (.lst xs)) (r : Reps K mg F xs ds) :
    Rel K mg F (ρ ++ [p]) (M ++ [some ds]) H := by
  refine ⟨R.sub, by simp [R.len], ?_, fun a ha => ?_, fun i a es e1 e2 => ?_⟩
  · rw [List.nodup_append]
    refine ⟨R.nd, by simp, fun a ha b hb => ?_⟩
    simp at hb; subst hb
    exact fun z => hr (z ▸ ha)
  · rcases List.mem_append.mp ha with h | h
    · exact R.tr a h
    · simp at h; subst h; rw [hp]; simp
  · by_cases hi : i < ρ.length
    · rw [List.getElem?_append_left hi] at e1
      rw [List.getElem?_append_left (R.len ▸ hi)] at e2
      exact R.cell i a es e1 e2
    · have hi' : i = ρ.length := by
        have := (List.getElem?_eq_some_iff.mp e1).1
        simp at this; omega
      subst hi'
      simp at e1
      rw [R.len] at e2
      simp at e2
      subst e1; subst e2
      exact ⟨hF, xs, hp, r⟩
/-- a list of the store is changed -/
theorem Rel.set (R : Rel K mg F ρ M H) {i : Nat} {a : Addr} {xs : List V} {ds es : List D} (hi : ρ[i]? = some a) (hM : M[i]? = some (some es)) (r : Reps K mg F xs ds) :
    Rel K mg F ρ (M.set i (some ds)) (upd H a (.lst xs)) := by
  obtain ⟨hF, _⟩ := R.cell i a es hi hM
  refine ⟨fun b u e => by rw [upd_ne (ne_of_none e hF)]; exact R.sub b u e, by rw [List.length_set]; exact R.len, R.nd, fun b hb => ?_, fun j b fs e1 e2 => ?_⟩
  · by_cases hb' : b = a
    · subst hb'; rw [upd_same]; simp
    · rw [upd_ne hb']; exact R.tr b hb
  · by_cases hj : i = j
    · subst hj
      rw [hi] at e1; cases e1
      have hl : i < M.length := (List.getElem?_eq_some_iff.mp hM).1
      rw [List.getElem?_set_self hl] at e2
      cases e2
      exact ⟨hF, xs, upd_same, r⟩
    · rw [List.getElem?_set_ne hj] at e2
      obtain ⟨h1, ys, h2, h3⟩ := R.cell j b fs e1 e2
      have : b ≠ a := fun z => by
        subst z
        obtain ⟨l1, g1⟩ := List.getElem?_eq_some_iff.mp hi
        obtain ⟨l2, g2⟩ := List.getElem?_eq_some_iff.mp e1
        exact hj ((List.getElem_inj R.nd).mp (g1.trans g2.symm))
      exact ⟨h1, ys, by rw [upd_ne this]; exact h2, h3⟩
theorem Rel.extSet {i : Nat} {a : Addr} {o : HO} (hi : ρ[i]? = some a) : Ext F ρ H F ρ (upd H a o) := by
  have ha := List.mem_of_getElem? hi
  refine ⟨.refl _, List.prefix_refl _, fun b u e n => by rw [upd_ne (fun z => n (by rw [z]; exact ha))]; exact e, fun b e => ?_, fun b u e => .inl e, fun b hb => .inl hb⟩
  by_cases hb : b = a
  · subst hb; rw [upd_same]; simp
  · rw [upd_ne hb]; exact e
/-- a list of the store is frozen -/
theorem Rel.freeze (R : Rel K mg F ρ M H) {i : Nat} {a : Addr} {xs : List V} {ds : List D} (hi : ρ[i]? = some a) (hM : M[i]? = some (some ds)) (hx : H a = some (.lst xs)) :
    Rel K mg (upd F a (.lst xs)) ρ (M.set i none) H := by
  obtain ⟨hF, _⟩ := R.cell i a ds hi hM
  have s := Sub.upd (o := HO.lst xs) hF
  refine ⟨fun b u e => ?_, by rw [List.length_set]; exact R.len, R.nd, R.tr, fun j b fs e1 e2 => ?_⟩
  · by_cases hb : b = a
    · subst hb; rw [upd_same] at e; rw [hx]; exact e
    · rw [upd_ne hb] at e; exact R.sub b u e
  · by_cases hj : i = j
    · subst hj
      have hl : i < M.length := (List.getElem?_eq_some_iff.mp hM).1
      rw [List.getElem?_set_self hl] at e2
      cases e2
    · rw [List.getElem?_set_ne hj] at e2
      obtain ⟨h1, ys, h2, h3⟩ := R.cell j b fs e1 e2
      have : b ≠ a := fun z => by
        subst z
        obtain ⟨l1, g1⟩ := List.getElem?_eq_some_iff.mp hi
        obtain ⟨l2, g2⟩ := List.getElem?_eq_some_iff.mp e1
        exact hj ((List.getElem_inj R.nd).mp (g1.trans g2.symm))
      exact ⟨by rw [upd_ne this]; exact h1, ys, h2, Reps.mono s h3⟩
theorem Rel.extFreeze (R : Rel K mg F ρ M H) {i : Nat} {a : Addr} {xs : List V} {ds : List D} (hi : ρ[i]? = some a) (hM : M[i]? = some (some ds)) : Ext F ρ H (upd F a (.lst xs)) ρ H := by
  obtain ⟨hF, _⟩ := R.cell i a ds hi hM
  have ha := List.mem_of_getElem? hi
  refine ⟨Sub.upd hF, List.prefix_refl _, fun _ _ h _ => h, fun _ h => h, fun b u e => ?_, fun _ h => .inl h⟩
  by_cases hb : b = a
  · subst hb; exact .inr (.inr ha)
  · rw [upd_ne hb] at e; exact .inl e
/-- the last lists of the store are forgotten -/
theorem Rel.take (R : Rel K mg F ρ M H) (n : Nat) : Rel K mg F (ρ.take n) (M.take n) H := by
  refine ⟨R.sub, by rw [List.length_take, List.length_take, R.len], R.nd.sublist (List.take_sublist _ _), fun a ha => R.tr a (List.mem_of_mem_take ha), fun i a ds e1 e2 => ?_⟩
  have h1 : ρ[i]? = some a := by
    rw [List.getElem?_take] at e1
    split at e1
    · exact e1
    · cases e1
  have h2 : M[i]? = some (some ds) := by
    rw [List.getElem?_take] at e2
    split at e2
    · exact e2
    · cases e2
  exact R.cell i a ds h1 h2
end
end PD
namespace PD
open PySem PySem.Spec PyProof.Rows L2
variable {K : PySem.W.Frag} {mg : MG}
/-! ### readings -/
def RepX (K : PySem.W.Frag) (mg : MG) (F : Hp) (H : Hp) (c : Value) (d : Option Addr) (x : Exc) : Prop :=
  (∃ C, mg x.cls = some (.ref C) ∧ c = .ref C) ∧
    ((x.fs = [] ∧ d = none) ∨ ∃ dd fs, d = some dd ∧ H dd = some (.xd fs) ∧ Paired (fun (p : Str × V) (q : Str × D) => p.1 = q.1 ∧ Rep K mg F p.2 q.2) fs x.fs)
/-- how the model's answer stands for the plain one: from the heap ahead, content, places and heap behind -/
structure RepT (β α : Type) where
  r : Hp → Hp → List Addr → Hp → β → α → Prop
  anti : ∀ {H H1 F : Hp} {ρ : List Addr} {H' : Hp} {v : β} {a : α}, (∀ x, H x ≠ none → H1 x ≠ none) → r H1 F ρ H' v a → r H F ρ H' v a
/-- what is wanted of a result -/
def RPost {α β : Type} (K : PySem.W.Frag) (mg : MG) (rep : RepT β α) (Wx : L2.WX) (σ : St) (F : Hp) (ρ : List Addr) (H : Hp) (r : Res α) (Q : β → Hp → Prop) : Prop :=
  match r with
  | .ok a M' => ∀ F' ρ' H' v, Ext F ρ H F' ρ' H' → Rel K mg F' ρ' M' H' → rep.r H F' ρ' H' v a → Q v H'
  | .err x M' => ∀ F' ρ' H' c d, Ext F ρ H F' ρ' H' → Rel K mg F' ρ' M' H' → RepX K mg F' H' c d x → Wx c d σ H'
  | .bad => False
def rdG {α β : Type} (K : PySem.W.Frag) (mg : MG) (rep : RepT β α) (Wx : L2.WX) (f : Ev → Store → Res α) : St → Hp → (β → Hp → Prop) → Prop :=
  fun σ H Q => ∃ F ρ M env, Rel K mg F ρ M H ∧ RepS K mg F ρ σ env ∧ RPost K mg rep Wx σ F ρ H (f env M) Q
abbrev repW (K : PySem.W.Frag) (mg : MG) : RepT V W := ⟨fun _ F ρ _ v w => RepW K mg F ρ v w, fun _ h => h⟩
abbrev repB : RepT Bool Bool := ⟨fun _ _ _ _ b c => b = c, fun _ h => h⟩
abbrev repA (K : PySem.W.Frag) (mg : MG) : RepT (List V) (List W) := ⟨fun _ F ρ _ v w => RepWs K mg F ρ v w, fun _ h => h⟩
theorem none_anti {H H1 : Hp} (hx : ∀ x, H x ≠ none → H1 x ≠ none) {a : Addr} (h : H1 a = none) : H a = none := by
  cases q : H a with
  | none => rfl
  | some o => exact absurd h (hx a (by rw [q]; simp))
/-- a new list that stands alone -/
abbrev repL (K : PySem.W.Frag) (mg : MG) : RepT V (List D) := ⟨fun H0 F ρ H v ds => ∃ a xs, v = .ref a ∧ H0 a = none ∧ F a = none ∧ a ∉ ρ ∧ H a = some (.lst xs) ∧ Reps K mg F xs ds,
  fun hx ⟨a, xs, e, h0, r⟩ => ⟨a, xs, e, none_anti hx h0, r⟩⟩
section
variable {α β γ δ : Type} {rep : RepT β α} {rep2 : RepT δ γ} {Wx : L2.WX} {σ : St} {F F' : Hp} {ρ ρ' : List Addr} {H H' : Hp} {Q Q' : β → Hp → Prop}
theorem RPost.mono (x : Ext F ρ H F' ρ' H') {r : Res α} (h : RPost K mg rep Wx σ F ρ H r Q) : RPost K mg rep Wx σ F' ρ' H' r Q := by
  cases r with
  | ok a M' => exact fun F2 ρ2 H2 v y R q => h F2 ρ2 H2 v (x.trans y) R (rep.anti x.there q)
  | err e M' => exact fun F2 ρ2 H2 c d y R q => h F2 ρ2 H2 c d (x.trans y) R q
  | bad => exact h
theorem RPost.imp {r : Res α} (h : RPost K mg rep Wx σ F ρ H r Q) (q : ∀ v H, Q v H → Q' v H) : RPost K mg rep Wx σ F ρ H r Q' := by
  cases r with
  | ok a M' => exact fun F2 ρ2 H2 v y R z => q _ _ (h F2 ρ2 H2 v y R z)
  | err e M' => exact h
  | bad => exact h
/-- one behind the other -/
theorem RPost.seq {r : Res α} {k : α → Store → Res γ} {Q2 : δ → Hp → Prop} (h : RPost K mg rep2 Wx σ F ρ H (r.bind k) Q2) :
    RPost K mg rep Wx σ F ρ H r (fun v H' => ∃ F' ρ' M' a, Ext F ρ H F' ρ' H' ∧ Rel K mg F' ρ' M' H' ∧ rep.r H F' ρ' H' v a ∧ RPost K mg rep2 Wx σ F' ρ' H' (k a M') Q2) := by
  cases r with
  | ok a M' => exact fun F2 ρ2 H2 v y R z => ⟨F2, ρ2, M', a, y, R, z, RPost.mono y h⟩
  | err e M' => exact h
  | bad => exact h
/-- .. seen from the heap ahead -/
theorem RPost.seq0 {r : Res α} {k : α → Store → Res γ} {Q2 : δ → Hp → Prop} (h : RPost K mg rep2 Wx σ F ρ H (r.bind k) Q2) :
    RPost K mg rep Wx σ F ρ H r (fun v H' => ∃ F' ρ' M' a, Ext F ρ H F' ρ' H' ∧ Rel K mg F' ρ' M' H' ∧ rep.r H F' ρ' H' v a ∧ RPost K mg rep2 Wx σ F ρ H (k a M') Q2) := by
  cases r with
  | ok a M' => exact fun F2 ρ2 H2 v y R z => ⟨F2, ρ2, M', a, y, R, z, h⟩
  | err e M' => exact h
  | bad => exact h
end
/-! ### the static context -/
/-- an own class of errors: the attribute that it keeps, what the classes of except clauses say of it -/
structure ExcRow where
  cls : Str
  fld : Str
  kin : List (Str × Bool)
structure Ctx where
  N : List Str
  sc : Scope
  fnc : Str → Bool
  k : Nat
  fns : List (Str × List Str × Fn)
  cns : List (Str × D)
  blt : List Str
  hof : List (Str × List Str × Fn) := []
  exs : List ExcRow := []
  top : Bool := false
  bfn : List (Str × String) := []
/-- a def's promise by a plain function -/
def RPostF (K : PySem.W.Frag) (mg : MG) (F : Hp) (ρ : List Addr) (H : Hp) (r : Res W) (Q : VK) (E : XK) : Prop :=
  match r with
  | .ok w M' => ∀ F' ρ' H' v, Ext F ρ H F' ρ' H' → Rel K mg F' ρ' M' H' → RepW K mg F' ρ' v w → Q v H'
  | .err x M' => ∀ F' ρ' H' c d, Ext F ρ H F' ρ' H' → Rel K mg F' ρ' M' H' → RepX K mg F' H' c d x → E c d H'
  | .bad => False
def spOf (K : PySem.W.Frag) (mg : MG) (n : Nat) (R : Fn) : Sp := fun vs H Q E =>
  ∃ F ρ M ws, ws.length = n ∧ Rel K mg F ρ M H ∧ RepWs K mg F ρ vs ws ∧ RPostF K mg F ρ H (R ws M) Q E
structure FnIs (X : Cx) (k : Nat) (x : Str) (ps : List Str) (R : Fn) : Prop where
  ex : ∃ (st : Stmt) (f : Addr) (fd : FuncData), X.mg x = some (.ref f) ∧ Fun X.K x x st f fd ∧ FnOk X.prog X.w X.K X.mg X.base (L2.CX X.prog X.w) k f fd ps (spOf X.K X.mg ps.length R) ∧
    (defArgs st).args.map (·.arg) = ps ∧ (defArgs st).posonlyargs = [] ∧ (defArgs st).kwonlyargs = [] ∧ (defArgs st).defaults = [] ∧ (defArgs st).vararg = none ∧ (defArgs st).kwarg = none ∧ Binds X.K fd ps []
/-- what __init__ of such a class does: it keeps what it is given -/
def initSp (C : Addr) (f : Str) : Sp := fun vs H Q _ => ∃ (a : Addr) (v : V), vs = [.ref a, v] ∧ H a = some (exo a C none) ∧ ∀ dx, H dx = none → dx ≠ a → Q .non (upd (upd H dx (exd dx [(f, v)])) a (exo a C (some dx)))
def bmVE : List Value := [.type "ValueError", .type "Exception", .type "BaseException", .type "object"]
/-- r.fld = "": a class without __init__ of its own, made without arguments -/
structure ExcOk (P : Program) (w : World) (K : PySem.W.Frag) (mg : MG) (base : Heap) (k : Nat) (r : ExcRow) : Prop where
  ex : ∃ (C : Addr), mg r.cls = some (.ref C) ∧ OexC K C ∧ ((r.fld == ("" : Str)) = true → PySem.W.excIn K C bmVE "ValueError.__new__" = true) ∧ ((r.fld == ("" : Str)) = false → ∃ (fI : Addr) (fd : FuncData), XfC K C ∧ PySem.W.findIn K (.ref C) "__init__" = some (some (.ref fI)) ∧ PySem.W.typeIn K (.ref fI) = some (.type "function") ∧
    FnOk P w K mg base (L2.CX P w) k fI fd ["self", r.fld] (initSp C r.fld) ∧ Binds K fd ["self", r.fld] [] ∧ PySem.W.findIn K (.ref C) r.fld = some none) ∧
    ∀ q ∈ r.kin, ∃ c : Addr, mg q.1 = some (.ref c) ∧ PySem.W.exmOne K (.ref C) (.ref c) = some q.2
structure Good (C : Ctx) (X : Cx) : Prop where
  N : X.N = C.N
  nd : C.N.Nodup
  sc : X.env.scope = C.sc
  fnc : X.fn = C.fnc
  calm : X.calm = true
  room : Room (C.k + 1) X.A
  pown : PassesOwn (model X.prog X.w) X.A X.env X.xe
  fns : ∀ (i : Nat) x ps R, C.fns[i]? = some (x, ps, R) → FnIs X C.k x ps R
  cns : ∀ (i : Nat) x d, C.cns[i]? = some (x, d) → ∃ u v, X.mg x = some u ∧ RelV v u ∧ ∀ F, Rep X.K X.mg F v d
  blt : ∀ (i : Nat) x, C.blt[i]? = some x → X.mg x = none
  hof : ∀ x ps R, C.hof.lookup x = some (ps, R) → FnIs X C.k x ps R
  exs : ∀ r ∈ C.exs, ExcOk X.prog X.w X.K X.mg X.base C.k r
  top : C.top = true → X.stack = X.env :: X.outer ∧ X.env.frame = some X.env.locals
  bfn : ∀ x id, (x, id) ∈ C.bfn → X.mg x = some (.builtin id)
structure PDE (C : Ctx) (e : Expr) (f : DE) : Prop where
  run : ∀ X Wx, Good C X → Takes X Wx → PE X e (rdG X.K X.mg (repW X.K X.mg) Wx f)
structure PDT (C : Ctx) (e : Expr) (f : DT) : Prop where
  run : ∀ X Wx, Good C X → Takes X Wx → PT X e (rdG X.K X.mg repB Wx f)
structure PDA (C : Ctx) (es : List Expr) (f : DA) : Prop where
  run : ∀ X Wx, Good C X → Takes X Wx → PA X es (rdG X.K X.mg (repA X.K X.mg) Wx f)
structure PDL (C : Ctx) (e : Expr) (f : DL) : Prop where
  run : ∀ X Wx, Good C X → Takes X Wx → PE X e (rdG X.K X.mg (repL X.K X.mg) Wx f)
theorem PE_imp {X : Cx} {e : Expr} {t t' : TE} (h : PE X e t) (i : ∀ σ H Q, t' σ H Q → t σ H Q) : PE X e t' := ⟨fun pins s σ H Q I q => h.run pins s σ H Q I (i σ H Q q)⟩
theorem PT_imp {X : Cx} {e : Expr} {t t' : TT} (h : PT X e t) (i : ∀ σ H Q, t' σ H Q → t σ H Q) : PT X e t' := ⟨fun pins s σ H Q I q => h.run pins s σ H Q I (i σ H Q q)⟩
theorem PW_imp {X : Cx} {e : Expr} {t t' : TT} (h : PW X e t) (i : ∀ σ H Q, t' σ H Q → t σ H Q) : PW X e t' := ⟨fun wh pins s σ H Q I q => h.run wh pins s σ H Q I (i σ H Q q)⟩
theorem PA_imp {X : Cx} {e : List Expr} {t t' : TA} (h : PA X e t) (i : ∀ σ H Q, t' σ H Q → t σ H Q) : PA X e t' := ⟨fun p pins s σ H Q I q => h.run p pins s σ H Q I (i σ H Q q)⟩
/-! ### leaves -/
def visB (sc : Scope) (x : Str) : Bool :=
  (match sc.names.lookup x with | some .local => true | some .cell => true | some .free => true | _ => false) && !(x == ("__debug__" : Str)) && !(x == ("__classdict__" : Str))
theorem visB_vis {sc : Scope} {x : Str} (h : visB sc x = true) : Vis sc x ∧ (x == ("__debug__" : Str)) = false ∧ (x == ("__classdict__" : Str)) = false := by
  unfold visB at h
  simp only [Bool.and_eq_true, Bool.not_eq_true'] at h
  obtain ⟨⟨h1, h2⟩, h3⟩ := h
  refine ⟨?_, h2, h3⟩
  unfold Vis
  cases e : sc.names.lookup x with
  | none => rw [e] at h1; cases h1
  | some k => rw [e] at h1; cases k <;> simp_all
def glB (sc : Scope) (x : Str) : Bool :=
  (match sc.names.lookup x with | some .globalImplicit => true | _ => false) && !(x == ("__debug__" : Str)) && !(x == ("__name__" : Str))
theorem glB_gl {X : Cx} {x : Str} (h : glB X.env.scope x = true) : Gl X x ∧ (x == ("__debug__" : Str)) = false ∧ x ≠ "__name__" := by
  unfold glB at h
  simp only [Bool.and_eq_true, Bool.not_eq_true', beq_eq_false_iff_ne] at h
  obtain ⟨⟨h1, h2⟩, h3⟩ := h
  refine ⟨?_, by simpa using h2, h3⟩
  unfold Gl Env.kindOf
  cases e : X.env.scope.names.lookup x with
  | none => rw [e] at h1; cases h1
  | some k => rw [e] at h1; cases k <;> simp_all
def cVar (i : Nat) : DE := fun env M => match env[i]? with | some (some w) => .ok w M | _ => .bad
def cK (d : D) : DE := fun _ M => .ok (.d d) M
section
variable {C : Ctx} {pos : Pos}
theorem pd_var {x : Str} (i : Nat) (hN : C.N[i]? = some x) (hv : visB C.sc x = true) : PDE C (.Name x pos) (cVar i) := by
  refine ⟨fun X Wx G tk => ?_⟩
  obtain ⟨h1, h2, h3⟩ := visB_vis hv
  refine PE_imp (pe_var (i := i) (by rw [G.N]; exact hN) (by rw [G.sc]; exact h1) h2 h3) fun σ H Q ⟨F, ρ, M, env, R, S, p⟩ => ?_
  unfold cVar at p
  split at p
  · rename_i w e
    obtain ⟨v, h, r⟩ := S.2 i w e
    exact ⟨v, h, p F ρ H v .refl R r⟩
  · exact p.elim
theorem pd_k {e : Expr} {d : D} (h : ∀ X : Cx, Good C X → ∃ v, PE X e (tC v) ∧ ∀ F, Rep X.K X.mg F v d) : PDE C e (cK d) := by
  refine ⟨fun X Wx G tk => ?_⟩
  obtain ⟨v, h1, h2⟩ := h X G
  refine PE_imp h1 fun σ H Q ⟨F, ρ, M, env, R, S, p⟩ => ?_
  exact p F ρ H v .refl R (h2 F)
theorem pd_int {i : Int} {j : Nat} : PDE C (.Constant (.int i) j pos) (cK (.int i)) := pd_k fun X _ => ⟨_, pe_int, fun _ => .int i⟩
theorem pd_bl {b : Bool} {j : Nat} : PDE C (.Constant (.bool b) j pos) (cK (.bl b)) := pd_k fun X _ => ⟨_, pe_bl, fun _ => .bl b⟩
theorem pd_non {j : Nat} : PDE C (.Constant .none j pos) (cK .non) := pd_k fun X _ => ⟨_, pe_non, fun _ => .non⟩
theorem pd_str {x : Str} {j : Nat} : PDE C (.Constant (.str x) j pos) (cK (.str x)) := pd_k fun X _ => ⟨_, pe_str, fun _ => .str x⟩
/-- a constant of the module -/
theorem pd_cn {x : Str} {d : D} (i : Nat) (hi : C.cns[i]? = some (x, d)) (hg : glB C.sc x = true) : PDE C (.Name x pos) (cK d) := pd_k fun X G => by
  obtain ⟨u, v, h1, h2, h3⟩ := G.cns i x d hi
  obtain ⟨g1, g2, _⟩ := glB_gl (X := X) (x := x) (by rw [G.sc]; exact hg)
  exact ⟨v, pe_glob g1 h1 h2 g2, h3⟩
/-- a def as a value -/
theorem pd_fn {x : Str} {ps : List Str} {R : Fn} (i : Nat) (hi : C.fns[i]? = some (x, ps, R)) (hg : glB C.sc x = true) : PDE C (.Name x pos) (cK (.fn x)) := pd_k fun X G => by
  obtain ⟨st, f, fd, h1, _⟩ := (G.fns i x ps R hi).ex
  obtain ⟨g1, g2, _⟩ := glB_gl (X := X) (x := x) (by rw [G.sc]; exact hg)
  exact ⟨.ref f, pe_glob g1 h1 rfl g2, fun _ => .fn h1⟩
/-- a built-in type as a value -/
theorem pd_ty {x : Str} {n : String} (i : Nat) (hi : C.blt[i]? = some x) (hg : glB C.sc x = true) (hv : bootBuiltins x = some (.type n)) : PDE C (.Name x pos) (cK (.ty n)) := pd_k fun X G => by
  obtain ⟨g1, g2, g3⟩ := glB_gl (X := X) (x := x) (by rw [G.sc]; exact hg)
  exact ⟨.ty n, pe_bltn g1 (G.blt i x hi) hv rfl g3 g2, fun _ => .ty n⟩
end
/-! ### arguments -/
def cNil : DA := fun _ M => .ok [] M
def cCons (f : DE) (g : DA) : DA := fun env M => (f env M).bind fun w M1 => (g env M1).bind fun ws M2 => .ok (w :: ws) M2
section
variable {C : Ctx} {pos : Pos} {e : Expr} {es : List Expr} {f : DE} {g : DA}
theorem pa_nil : PDA C [] cNil := ⟨fun X Wx G tk => PA_imp L2.pa_nil fun σ H Q ⟨F, ρ, M, env, R, S, p⟩ => p F ρ H [] .refl R .nil⟩
theorem pa_cons (hf : PDE C e f) (hg : PDA C es g) (hs : ∀ env, starEach (e :: es) env = (false, eval e env) :: starEach es env := by intro _; rfl) : PDA C (e :: es) (cCons f g) := by
  refine ⟨fun X Wx G tk => PA_imp (L2.pa_cons (hf.run X Wx G tk) (hg.run X Wx G tk) (hs _)) fun σ H Q ⟨F, ρ, M, env, R, S, p⟩ => ?_⟩
  refine ⟨F, ρ, M, env, R, S, (RPost.seq p).imp fun v H1 ⟨F1, ρ1, M1, w, x1, R1, r1, p1⟩ => ?_⟩
  refine ⟨F1, ρ1, M1, env, R1, S.ext x1, (RPost.seq p1).imp fun vs H2 ⟨F2, ρ2, M2, ws, x2, R2, r2, p2⟩ => ?_⟩
  exact p2 F2 ρ2 H2 _ .refl R2 (.cons (RepW.mono x2.sub x2.pre r1) r2)
end
/-! ### contents -/
def cont (M : Store) : W → Option D
  | .d x => some x
  | .mt i => match M[i]? with | some (some ds) => some (.lst ds) | _ => none
@[simp] theorem cont_d (M : Store) (x : D) : cont M (.d x) = some x := rfl
/-- what is read as d, its parts content -/
def RepC (K : PySem.W.Frag) (mg : MG) (F : Hp) (H : Hp) (v : V) : D → Prop
  | .lst ds => ∃ a xs, v = .ref a ∧ SqL K H a xs ∧ Reps K mg F xs ds
  | d => Rep K mg F v d
theorem RepC.of {F H : Hp} (s : Sub F H) : ∀ {v : V} {d : D}, Rep K mg F v d → RepC K mg F H v d
  | _, .lst ds, h => by
    cases h with
    | lst h r => exact ⟨_, _, rfl, SqL.mono s h, r⟩
  | _, .non, h => h
  | _, .bl _, h => h
  | _, .int _, h => h
  | _, .str _, h => h
  | _, .ty _, h => h
  | _, .fn _, h => h
  | _, .tup _, h => h
  | _, .dic _, h => h
theorem RepC.toH {F H : Hp} (s : Sub F H) : ∀ {v : V} {d : D}, RepC K mg F H v d → Rep K mg H v d
  | _, .lst ds, ⟨a, xs, e, h, r⟩ => by subst e; exact .lst h (Reps.mono s r)
  | _, .non, h => Rep.mono s h
  | _, .bl _, h => Rep.mono s h
  | _, .int _, h => Rep.mono s h
  | _, .str _, h => Rep.mono s h
  | _, .ty _, h => Rep.mono s h
  | _, .fn _, h => Rep.mono s h
  | _, .tup _, h => Rep.mono s h
  | _, .dic _, h => Rep.mono s h
theorem RepC.ext {F H F' H' : Hp} {ρ ρ' : List Addr} {M M' : Store} (R : Rel K mg F ρ M H) (R' : Rel K mg F' ρ' M' H') (x : Ext F ρ H F' ρ' H') {v : V} {w : W} (h : RepW K mg F ρ v w) {d : D} (e : cont M' w = some d) : RepC K mg F' H' v d := by
  cases w with
  | d y => cases e; exact RepC.of R'.sub (Rep.mono x.sub h)
  | mt i =>
    obtain ⟨a, h1, rfl⟩ := h
    unfold cont at e
    simp only at e
    split at e
    · rename_i ds e2
      cases e
      obtain ⟨_, xs, h2, h3⟩ := R'.cell i a ds (pre_get x.pre h1) e2
      exact ⟨a, xs, rfl, .of h2, h3⟩
    · cases e
theorem RepC.ofW {F H : Hp} {ρ : List Addr} {M : Store} (R : Rel K mg F ρ M H) {v : V} {w : W} (h : RepW K mg F ρ v w) {d : D} (e : cont M w = some d) : RepC K mg F H v d := RepC.ext R R .refl h e
/-! ### operators by contents -/
/-- an operator that reads its operands and answers with content -/
def rD (X : Cx) (g : D → D → Option D) : R2 := fun x y H Q => ∃ F ρ M dx dy dz, Rel X.K X.mg F ρ M H ∧ RepC X.K X.mg F H x dx ∧ RepC X.K X.mg F H y dy ∧ g dx dy = some dz ∧
  ∀ F' H' v, Ext F ρ H F' ρ H' → Rel X.K X.mg F' ρ M H' → Rep X.K X.mg F' v dz → Q v H'
def OpD (C : Ctx) (f : Value → Value → Sem Value) (g : D → D → Option D) : Prop := ∀ X, Good C X → OpR X f (rD X g)
def opt (r : Option D) (M : Store) : Res W := match r with | some d => .ok (.d d) M | none => .bad
@[simp] theorem opt_some (d : D) (M : Store) : opt (some d) M = .ok (.d d) M := rfl
def cOp (g : D → D → Option D) (a b : DE) : DE := fun env M => (a env M).bind fun x M1 => (b env M1).bind fun y M2 =>
  match cont M2 x, cont M2 y with
  | some dx, some dy => opt (g dx dy) M2
  | _, _ => .bad
section
variable {C : Ctx} {pos : Pos} {a b : Expr} {fa fb : DE} {g : D → D → Option D}
theorem cOp_post {X : Cx} {Wx : L2.WX} {σ : St} {H : Hp} {Q : VK} (h : rdG X.K X.mg (repW X.K X.mg) Wx (cOp g fa fb) σ H Q) :
    tOp (rD X g) (rdG X.K X.mg (repW X.K X.mg) Wx fa) (rdG X.K X.mg (repW X.K X.mg) Wx fb) σ H Q := by
  obtain ⟨F, ρ, M, env, R, S, p⟩ := h
  refine ⟨F, ρ, M, env, R, S, (RPost.seq p).imp fun v H1 ⟨F1, ρ1, M1, w, x1, R1, r1, p1⟩ => ?_⟩
  refine ⟨F1, ρ1, M1, env, R1, S.ext x1, (RPost.seq p1).imp fun v2 H2 ⟨F2, ρ2, M2, w2, x2, R2, r2, p2⟩ => ?_⟩
  split at p2
  · rename_i dx dy e1 e2
    cases e : g dx dy with
    | none => rw [e] at p2; exact p2.elim
    | some dz =>
      rw [e] at p2
      exact ⟨F2, ρ2, M2, dx, dy, dz, R2, RepC.ext R1 R2 x2 r1 e1, RepC.ofW R2 r2 e2, e, fun F' H' v' x' R' r' => p2 F' ρ2 H' v' x' R' r'⟩
  · exact p2.elim
theorem pd_bin {op : Operator} (ho : OpD C (binaryOp op) g) (ha : PDE C a fa) (hb : PDE C b fb) : PDE C (.BinOp a op b pos) (cOp g fa fb) :=
  ⟨fun X Wx G tk => PE_imp (pe_op (ho X G) (ha.run X Wx G tk) (hb.run X Wx G tk)) fun σ H Q h => cOp_post h⟩
theorem pd_cmp {op : CmpOp} (ho : OpD C (compareOp op) g) (ha : PDE C a fa) (hb : PDE C b fb) (hm : behindInMarks op b = false := by rfl) : PDE C (.Compare a [op] [b] pos) (cOp g fa fb) :=
  ⟨fun X Wx G tk => PE_imp (pe_cmpR (ho X G) (ha.run X Wx G tk) (hb.run X Wx G tk) hm) fun σ H Q h => cOp_post h⟩
/-- .. as a test -/
def asB (f : DE) : DT := fun env M => (f env M).bind fun w M1 => match w with | .d (.bl b) => .ok b M1 | _ => .bad
theorem asB_post {X : Cx} {Wx : L2.WX} {f : DE} {σ : St} {H : Hp} {Q : Bool → Hp → Prop} (h : rdG X.K X.mg repB Wx (asB f) σ H Q) :
    rdG X.K X.mg (repW X.K X.mg) Wx f σ H (fun x H' => ∃ k, x = .bl k ∧ Q k H') := by
  obtain ⟨F, ρ, M, env, R, S, p⟩ := h
  refine ⟨F, ρ, M, env, R, S, (RPost.seq p).imp fun v H1 ⟨F1, ρ1, M1, w, x1, R1, r1, p1⟩ => ?_⟩
  split at p1
  · rename_i b
    have r : Rep X.K X.mg F1 v (.bl b) := r1
    cases r
    exact ⟨b, rfl, p1 F1 ρ1 H1 b .refl R1 rfl⟩
  · exact p1.elim
theorem pdt_cmp {op : CmpOp} (ho : OpD C (compareOp op) g) (ha : PDE C a fa) (hb : PDE C b fb) (hm : behindInMarks op b = false := by rfl) : PDT C (.Compare a [op] [b] pos) (asB (cOp g fa fb)) :=
  ⟨fun X Wx G tk => PT_imp (pt_cmpR (ho X G) (ha.run X Wx G tk) (hb.run X Wx G tk) hm) fun σ H Q h => cOp_post (asB_post h)⟩
end
/-! ### truth -/
def truth : D → Option Bool
  | .non => some false
  | .bl b => some b
  | .int i => some (i != 0)
  | .str y => if y.length ≤ sizeLine then some ((y.length : Int) != 0) else none
  | .tup ds => some (!ds.isEmpty)
  | .lst ds => some (!ds.isEmpty)
  | _ => none
theorem isEmpty_reps {F : Hp} {xs : List V} {ds : List D} (r : Reps K mg F xs ds) : (!xs.isEmpty) = !ds.isEmpty := by cases r <;> rfl
theorem isEmpty_repK {F : Hp} {xs : List (L2.Key × V)} {ds : List (L2.Key × D)} (r : RepK K mg F xs ds) : (!xs.isEmpty) = !ds.isEmpty := by cases r <;> rfl
theorem truth_ok {F H : Hp} (s : Sub F H) {v : V} {d : D} {k : Bool} (h : RepC K mg F H v d) (e : truth d = some k) : TruV K v H k := by
  cases d with
  | non => cases (show Rep K mg F v .non from h); cases e; rfl
  | bl b => cases (show Rep K mg F v (.bl b) from h); cases e; rfl
  | int b => cases (show Rep K mg F v (.int b) from h); cases e; rfl
  | str b =>
    cases (show Rep K mg F v (.str b) from h)
    have e' : (if b.length ≤ sizeLine then some ((b.length : Int) != 0) else none) = some k := e
    by_cases z : b.length ≤ sizeLine
    · rw [if_pos z] at e'; cases e'; exact ⟨z, rfl⟩
    · rw [if_neg z] at e'; cases e'
  | ty _ => cases e
  | fn _ => cases e
  | tup ds =>
    cases (show Rep K mg F v (.tup ds) from h) with
    | tup h' r => cases e; exact .inr (.inl ⟨_, SqT.mono s h', (isEmpty_reps r).symm⟩)
  | lst ds =>
    obtain ⟨a, xs, rfl, h, r⟩ := h
    cases e
    exact .inl ⟨_, h, (isEmpty_reps r).symm⟩
  | dic ds => cases e
def cTru (f : DE) : DT := fun env M => (f env M).bind fun w M1 => match (cont M1 w).bind truth with | some b => .ok b M1 | _ => .bad
section
variable {C : Ctx} {pos : Pos} {a b c : Expr} {rest : List Expr} {fa fb : DE} {ft fu : DT}
theorem cTru_post {X : Cx} {Wx : L2.WX} {f : DE} {σ : St} {H : Hp} {Q : Bool → Hp → Prop} (h : rdG X.K X.mg repB Wx (cTru f) σ H Q) :
    rdG X.K X.mg (repW X.K X.mg) Wx f σ H (fun x H' => ∃ k, TruV X.K x H' k ∧ Q k H') := by
  obtain ⟨F, ρ, M, env, R, S, p⟩ := h
  refine ⟨F, ρ, M, env, R, S, (RPost.seq p).imp fun v H1 ⟨F1, ρ1, M1, w, x1, R1, r1, p1⟩ => ?_⟩
  split at p1
  · rename_i b e
    cases e1 : cont M1 w with
    | none => rw [e1] at e; cases e
    | some d =>
      rw [e1] at e
      exact ⟨b, truth_ok R1.sub (RepC.ofW R1 r1 e1) e, p1 F1 ρ1 H1 b .refl R1 rfl⟩
  · exact p1.elim
theorem pdt_tru (ha : PDE C a fa) (he : ∀ env whole, isTrue a env whole = (do let v ← whole; standAt a.pos; holding [v] (truthy v)) := by intro _ _; rfl) : PDT C a (cTru fa) :=
  ⟨fun X Wx G tk => PT_imp (pt_truth (ha.run X Wx G tk) (he _)) fun σ H Q h => cTru_post h⟩
def tNt (f : DT) : DT := fun env M => (f env M).bind fun b M1 => .ok (!b) M1
theorem pdt_not (ha : PDT C a ft) : PDT C (.UnaryOp .Not a pos) (tNt ft) :=
  ⟨fun X Wx G tk => PT_imp (pt_not (ha.run X Wx G tk)) fun σ H Q ⟨F, ρ, M, env, R, S, p⟩ => ⟨F, ρ, M, env, R, S, (RPost.seq p).imp fun v H1 ⟨F1, ρ1, M1, w, x1, R1, r1, p1⟩ => by
    subst r1
    exact p1 F1 ρ1 H1 _ .refl R1 rfl⟩⟩
def tAn (f g : DT) : DT := fun env M => (f env M).bind fun b M1 => if b = true then g env M1 else .ok false M1
def tOr2 (f g : DT) : DT := fun env M => (f env M).bind fun b M1 => if b = true then .ok true M1 else g env M1
/-- tests in a row: every 'whole' -/
structure PDW (C : Ctx) (e : Expr) (f : DT) : Prop where
  run : ∀ X Wx, Good C X → Takes X Wx → PW X e (rdG X.K X.mg repB Wx f)
theorem PDW.t {e : Expr} {f : DT} (h : PDW C e f) : PDT C e f := ⟨fun X Wx G tk => (h.run X Wx G tk).pt⟩
theorem pdw_and1 (ha : PDT C a ft) : PDW C (.BoolOp .And [a] pos) ft := ⟨fun X Wx G tk => pw_and1 (ha.run X Wx G tk)⟩
theorem pdw_or1 (ha : PDT C a ft) : PDW C (.BoolOp .Or [a] pos) ft := ⟨fun X Wx G tk => pw_or1 (ha.run X Wx G tk)⟩
theorem pdw_and (ha : PDT C a ft) (hb : PDW C (.BoolOp .And (b :: rest) pos) fu) : PDW C (.BoolOp .And (a :: b :: rest) pos) (tAn ft fu) := by
  refine ⟨fun X Wx G tk => PW_imp (pw_and (ha.run X Wx G tk) (hb.run X Wx G tk)) fun σ H Q ⟨F, ρ, M, env, R, S, p⟩ => ?_⟩
  refine ⟨F, ρ, M, env, R, S, (RPost.seq p).imp fun v H1 ⟨F1, ρ1, M1, w, x1, R1, r1, p1⟩ => ?_⟩
  subst r1
  cases v with
  | true => exact ⟨F1, ρ1, M1, env, R1, S.ext x1, p1⟩
  | false => exact p1 F1 ρ1 H1 _ .refl R1 rfl
theorem pdw_or (ha : PDT C a ft) (hb : PDW C (.BoolOp .Or (b :: rest) pos) fu) : PDW C (.BoolOp .Or (a :: b :: rest) pos) (tOr2 ft fu) := by
  refine ⟨fun X Wx G tk => PW_imp (pw_or (ha.run X Wx G tk) (hb.run X Wx G tk)) fun σ H Q ⟨F, ρ, M, env, R, S, p⟩ => ?_⟩
  refine ⟨F, ρ, M, env, R, S, (RPost.seq p).imp fun v H1 ⟨F1, ρ1, M1, w, x1, R1, r1, p1⟩ => ?_⟩
  subst r1
  cases v with
  | false => exact ⟨F1, ρ1, M1, env, R1, S.ext x1, p1⟩
  | true => exact p1 F1 ρ1 H1 _ .refl R1 rfl
/-- .. as values -/
def cAnd (f g : DE) : DE := fun env M => (f env M).bind fun w M1 => match (cont M1 w).bind truth with | some true => g env M1 | some false => .ok w M1 | none => .bad
def cOr (f g : DE) : DE := fun env M => (f env M).bind fun w M1 => match (cont M1 w).bind truth with | some true => .ok w M1 | some false => g env M1 | none => .bad
def cNot (f : DE) : DE := fun env M => (f env M).bind fun w M1 => match (cont M1 w).bind truth with | some b => .ok (.d (.bl (!b))) M1 | none => .bad
theorem pd_one {op : BoolOp} (ha : PDE C a fa) : PDE C (.BoolOp op [a] pos) fa := ⟨fun X Wx G tk => pe_one (ha.run X Wx G tk)⟩
theorem pd_and (ha : PDE C a fa) (hb : PDE C (.BoolOp .And (b :: rest) pos) fb) : PDE C (.BoolOp .And (a :: b :: rest) pos) (cAnd fa fb) := by
  refine ⟨fun X Wx G tk => PE_imp (pe_andT (ha.run X Wx G tk) (hb.run X Wx G tk)) fun σ H Q ⟨F, ρ, M, env, R, S, p⟩ => ?_⟩
  refine ⟨F, ρ, M, env, R, S, (RPost.seq p).imp fun v H1 ⟨F1, ρ1, M1, w, x1, R1, r1, p1⟩ => ?_⟩
  cases e1 : cont M1 w with
  | none => rw [e1] at p1; exact p1.elim
  | some d =>
    rw [e1] at p1
    cases e2 : truth d with
    | none => simp only [Option.bind_some, e2] at p1; exact p1.elim
    | some k =>
      refine ⟨k, truth_ok R1.sub (RepC.ofW R1 r1 e1) e2, ?_⟩
      simp only [Option.bind_some, e2] at p1
      cases k with
      | true => exact ⟨F1, ρ1, M1, env, R1, S.ext x1, p1⟩
      | false => exact p1 F1 ρ1 H1 v .refl R1 r1
theorem pd_or (ha : PDE C a fa) (hb : PDE C (.BoolOp .Or (b :: rest) pos) fb) : PDE C (.BoolOp .Or (a :: b :: rest) pos) (cOr fa fb) := by
  refine ⟨fun X Wx G tk => PE_imp (pe_orT (ha.run X Wx G tk) (hb.run X Wx G tk)) fun σ H Q ⟨F, ρ, M, env, R, S, p⟩ => ?_⟩
  refine ⟨F, ρ, M, env, R, S, (RPost.seq p).imp fun v H1 ⟨F1, ρ1, M1, w, x1, R1, r1, p1⟩ => ?_⟩
  cases e1 : cont M1 w with
  | none => rw [e1] at p1; exact p1.elim
  | some d =>
    rw [e1] at p1
    cases e2 : truth d with
    | none => simp only [Option.bind_some, e2] at p1; exact p1.elim
    | some k =>
      refine ⟨k, truth_ok R1.sub (RepC.ofW R1 r1 e1) e2, ?_⟩
      simp only [Option.bind_some, e2] at p1
      cases k with
      | false => exact ⟨F1, ρ1, M1, env, R1, S.ext x1, p1⟩
      | true => exact p1 F1 ρ1 H1 v .refl R1 r1
theorem pd_not (ha : PDE C a fa) : PDE C (.UnaryOp .Not a pos) (cNot fa) := by
  refine ⟨fun X Wx G tk => PE_imp (pe_notT (ha.run X Wx G tk)) fun σ H Q ⟨F, ρ, M, env, R, S, p⟩ => ?_⟩
  refine ⟨F, ρ, M, env, R, S, (RPost.seq p).imp fun v H1 ⟨F1, ρ1, M1, w, x1, R1, r1, p1⟩ => ?_⟩
  cases e1 : cont M1 w with
  | none => rw [e1] at p1; exact p1.elim
  | some d =>
    rw [e1] at p1
    cases e2 : truth d with
    | none => simp only [Option.bind_some, e2] at p1; exact p1.elim
    | some k =>
      simp only [Option.bind_some, e2] at p1
      exact ⟨k, truth_ok R1.sub (RepC.ofW R1 r1 e1) e2, p1 F1 ρ1 H1 _ .refl R1 (Rep.bl _)⟩
def cIf (t : DT) (f g : DE) : DE := fun env M => (t env M).bind fun b M1 => if b = true then f env M1 else g env M1
theorem pd_if (ht : PDT C c ft) (ha : PDE C a fa) (hb : PDE C b fb) : PDE C (.IfExp c a b pos) (cIf ft fa fb) := by
  refine ⟨fun X Wx G tk => PE_imp (pe_ifExp (ht.run X Wx G tk) (ha.run X Wx G tk) (hb.run X Wx G tk)) fun σ H Q ⟨F, ρ, M, env, R, S, p⟩ => ?_⟩
  refine ⟨F, ρ, M, env, R, S, (RPost.seq p).imp fun v H1 ⟨F1, ρ1, M1, w, x1, R1, r1, p1⟩ => ?_⟩
  subst r1
  cases v with
  | true => exact ⟨F1, ρ1, M1, env, R1, S.ext x1, p1⟩
  | false => exact ⟨F1, ρ1, M1, env, R1, S.ext x1, p1⟩
end
end PD
namespace PD
open PySem PySem.Spec PyProof.Rows L2
variable {K : PySem.W.Frag} {mg : MG}
/-! ### data compared -/
mutual
def toPy : D → Option PyData
  | .non => some .none
  | .bl b => some (.bool b)
  | .int i => some (.int i)
  | .str x => some (.str x)
  | .tup ds => (toPys ds).map .tuple
  | .lst ds => (toPys ds).map .list
  | _ => none
def toPys : List D → Option (List PyData)
  | [] => some []
  | d :: ds => match toPy d, toPys ds with
    | some p, some ps => some (p :: ps)
    | _, _ => none
end
mutual
theorem dp_of {F : Hp} : ∀ {v : V} {d : D} {p : PyData}, Rep K mg F v d → toPy d = some p → Dp K F v p
  | _, .non, _, .non, e => by cases e; exact .non
  | _, .bl _, _, .bl _, e => by cases e; exact .bl _
  | _, .int _, _, .int _, e => by cases e; exact .int _
  | _, .str _, _, .str _, e => by cases e; exact .str _
  | _, .ty _, _, .ty _, e => nomatch e
  | _, .fn _, _, .fn _, e => nomatch e
  | _, .dic _, _, .dic _ _, e => nomatch e
  | _, .tup ds, p, .tup h r, e => by
    unfold toPy at e
    cases e1 : toPys ds with
    | none => rw [e1] at e; cases e
    | some ps => rw [e1] at e; cases e; exact .tup h (dps_of r e1)
  | _, .lst ds, p, .lst h r, e => by
    unfold toPy at e
    cases e1 : toPys ds with
    | none => rw [e1] at e; cases e
    | some ps => rw [e1] at e; cases e; exact .lst h (dps_of r e1)
theorem dps_of {F : Hp} : ∀ {vs : List V} {ds : List D} {ps : List PyData}, Reps K mg F vs ds → toPys ds = some ps → DpAll K F vs ps
  | _, [], _, .nil, e => by cases e; exact .nil
  | _, d :: ds, ps, .cons h r, e => by
    unfold toPys at e
    cases e1 : toPy d with
    | none => rw [e1] at e; cases e
    | some p =>
      cases e2 : toPys ds with
      | none => rw [e1, e2] at e; cases e
      | some qs => rw [e1, e2] at e; cases e; exact .cons (dp_of h e1) (dps_of r e2)
end
def eqD (d e : D) : Option Bool :=
  match toPy d, toPy e with
  | some a, some b => if SeqAt.shaped a = true ∧ SeqAt.shaped b = true then some (PyData.eqv a b) else none
  | _, _ => none
/-! ### operators -/
def intsOf : List D → Option (List Int)
  | [] => some []
  | .int i :: r => (intsOf r).map (i :: ·)
  | _ => none
theorem reps_ints {F : Hp} : ∀ {ds : List D} {xs : List V} {ns : List Int}, Reps K mg F xs ds → intsOf ds = some ns → xs = ns.map V.int
  | [], _, _, .nil, e => by cases e; rfl
  | .int i :: r, _, _, .cons (.int _) q, e => by
    unfold intsOf at e
    cases e1 : intsOf r with
    | none => rw [e1] at e; cases e
    | some ms => rw [e1] at e; cases e; rw [reps_ints q e1]; rfl
theorem intsOf_map (ns : List Int) : intsOf (ns.map D.int) = some ns := by
  induction ns with
  | nil => rfl
  | cons n r ih => simp [intsOf, ih]
def boolsOf : List D → Option (List Bool)
  | [] => some []
  | .bl i :: r => (boolsOf r).map (i :: ·)
  | _ => none
theorem reps_bools {F : Hp} : ∀ {ds : List D} {xs : List V} {ns : List Bool}, Reps K mg F xs ds → boolsOf ds = some ns → xs = ns.map V.bl
  | [], _, _, .nil, e => by cases e; rfl
  | .bl i :: r, _, _, .cons (.bl _) q, e => by
    unfold boolsOf at e
    cases e1 : boolsOf r with
    | none => rw [e1] at e; cases e
    | some ms => rw [e1] at e; cases e; rw [reps_bools q e1]; rfl
theorem boolsOf_map (ns : List Bool) : boolsOf (ns.map D.bl) = some ns := by
  induction ns with
  | nil => rfl
  | cons n r ih => simp [boolsOf, ih]
def gInt (p : Int → Int → Option D) : D → D → Option D
  | .int i, .int j => p i j
  | _, _ => none
/-- sizes are told below this line -/
abbrev LIM : Nat := 16777216
def opAdd : D → D → Option D
  | .int i, .int j => some (.int (i + j))
  | .str x, .str y => if x.length + y.length ≤ LIM then some (.str (x ++ y)) else none
  | .tup xs, .tup ys => if xs.length + ys.length ≤ LIM then some (.tup (xs ++ ys)) else none
  | .lst xs, .lst ys => if xs.length + ys.length ≤ LIM then some (.lst (xs ++ ys)) else none
  | _, _ => none
def opSub : D → D → Option D
  | .int i, .int j => some (.int (i - j))
  | _, _ => none
def opMul : D → D → Option D
  | .int i, .int j => if (i.natAbs < 2 ^ 64 ∨ j.natAbs < 2 ^ 64) then some (.int (i * j)) else none
  | .tup xs, .int k => if xs ≠ [] ∧ 2 ≤ k ∧ k ≤ 1000 ∧ xs.length ≤ 1000 then some (.tup (List.replicate k.toNat xs).flatten) else none
  | _, _ => none
def opFdv : D → D → Option D
  | .int i, .int j => if 0 < j ∧ j < 1073741824 then some (.int (i / j)) else none
  | _, _ => none
def opMod : D → D → Option D
  | .int i, .int j => if 0 < j then some (.int (i % j)) else none
  | _, _ => none
def opPow : D → D → Option D
  | .int i, .int j => if 0 ≤ j ∧ j ≤ 1000000 ∧ i.natAbs < 2 ^ 64 then some (.int (i ^ j.toNat)) else none
  | _, _ => none
def opShl : D → D → Option D
  | .int i, .int j => if 0 ≤ j ∧ j ≤ 1000000 ∧ i.natAbs < 2 ^ 64 then some (.int (i * 2 ^ j.toNat)) else none
  | _, _ => none
def opShr : D → D → Option D
  | .int i, .int j => if 0 ≤ j then some (.int (i / 2 ^ j.toNat)) else none
  | _, _ => none
def opAnd : D → D → Option D
  | .int i, .int j => some (.int (Builtin.bitAnd i j))
  | _, _ => none
def opBor : D → D → Option D
  | .int i, .int j => some (.int (Builtin.bitOr i j))
  | _, _ => none
def opXor : D → D → Option D
  | .int i, .int j => some (.int (Builtin.bitXor i j))
  | _, _ => none
def opEq (d e : D) : Option D := (eqD d e).map .bl
def opNe (d e : D) : Option D := (eqD d e).map fun b => .bl (!b)
def opLt : D → D → Option D
  | .int i, .int j => some (.bl (decide (i < j)))
  | .tup ds, .tup es => match intsOf ds, intsOf es with
    | some ns, some ms => some (.bl (HT.lexLt ns ms))
    | _, _ => none
  | _, _ => none
def opLe : D → D → Option D
  | .int i, .int j => some (.bl (decide (i ≤ j)))
  | _, _ => none
def opGt : D → D → Option D
  | .int i, .int j => some (.bl (decide (j < i)))
  | _, _ => none
def opGe : D → D → Option D
  | .int i, .int j => some (.bl (decide (j ≤ i)))
  | _, _ => none
def isNon : D → Bool
  | .non => true
  | _ => false
def opIs : D → D → Option D
  | .bl a, .bl b => some (.bl (decide (a = b)))
  | d, .non => some (.bl (isNon d))
  | _, _ => none
def opIsn : D → D → Option D
  | .bl a, .bl b => some (.bl (!decide (a = b)))
  | d, .non => some (.bl (!isNon d))
  | _, _ => none
/-- an element among a list's (by ==) -/
def inD (d : D) (e : D) : Option Bool :=
  match toPy d, toPy e with
  | some a, some (.list xs) => if SeqAt.shaped a = true ∧ SeqAt.shaped (.list xs) = true then some (xs.any fun z => PyData.eqv z a) else none
  | some a, some (.tuple xs) => if SeqAt.shaped a = true ∧ SeqAt.shaped (.tuple xs) = true then some (xs.any fun z => PyData.eqv z a) else none
  | _, _ => none
def opIn (d e : D) : Option D := (inD d e).map .bl
def opNin (d e : D) : Option D := (inD d e).map fun b => .bl (!b)
section
variable {C : Ctx}
theorem isNon_ok {F H : Hp} {v : V} {d : D} (h : RepC K mg F H v d) : decide (v = .non) = isNon d := by
  cases d with
  | lst ds => obtain ⟨a, xs, rfl, _⟩ := h; rfl
  | non => cases (show Rep K mg F v .non from h); rfl
  | bl _ => cases (show Rep K mg F v _ from h); rfl
  | int _ => cases (show Rep K mg F v _ from h); rfl
  | str _ => cases (show Rep K mg F v _ from h); rfl
  | ty _ => cases (show Rep K mg F v _ from h); rfl
  | fn _ => cases (show Rep K mg F v _ from h); rfl
  | tup _ => cases (show Rep K mg F v _ from h); rfl
  | dic _ => cases (show Rep K mg F v _ from h); rfl
theorem od_ints {f : Value → Value → Sem Value} {g : D → D → Option D} {Cd : Int → Int → Prop} {h : Int → Int → V}
    (ho : ∀ X, Good C X → OpR X f (rI Cd h)) (hg : ∀ d e z, g d e = some z → ∃ i j, d = .int i ∧ e = .int j ∧ Cd i j ∧ ∀ K mg F, Rep K mg F (h i j) z) : OpD C f g := by
  intro X G pins s σ H x y v u Q I rx ry ⟨F, ρ, M, dx, dy, dz, R, r1, r2, e, q⟩
  obtain ⟨i, j, rfl, rfl, c, z⟩ := hg _ _ _ e
  cases (show Rep X.K X.mg F x (.int i) from r1)
  cases (show Rep X.K X.mg F y (.int j) from r2)
  exact ho X G pins s σ H _ _ v u Q I rx ry ⟨i, j, rfl, rfl, c, q F H _ .refl R (z _ _ _)⟩
theorem od_ints0 {f : Value → Value → Sem Value} {g : D → D → Option D} {h : Int → Int → V}
    (ho : ∀ X, Good C X → OpR X f (rI0 h)) (hg : ∀ d e z, g d e = some z → ∃ i j, d = .int i ∧ e = .int j ∧ ∀ K mg F, Rep K mg F (h i j) z) : OpD C f g := by
  intro X G pins s σ H x y v u Q I rx ry ⟨F, ρ, M, dx, dy, dz, R, r1, r2, e, q⟩
  obtain ⟨i, j, rfl, rfl, z⟩ := hg _ _ _ e
  cases (show Rep X.K X.mg F x (.int i) from r1)
  cases (show Rep X.K X.mg F y (.int j) from r2)
  exact ho X G pins s σ H _ _ v u Q I rx ry ⟨i, j, rfl, rfl, q F H _ .refl R (z _ _ _)⟩
theorem od_sub : OpD C (binaryOp .Sub) opSub := od_ints0 (fun X _ => op_sub) fun d e z h => by
  cases d <;> cases e <;> first | (cases h; exact ⟨_, _, rfl, rfl, fun _ _ _ => .int _⟩) | cases h
theorem od_fdv : OpD C (binaryOp .FloorDiv) opFdv := od_ints (fun X _ => op_fdiv) fun d e z h => by
  cases d <;> cases e <;> first | cases h | skip
  rename_i i j
  unfold opFdv at h
  simp only at h
  split at h
  · rename_i c; cases h; exact ⟨_, _, rfl, rfl, c, fun _ _ _ => .int _⟩
  · cases h
theorem od_mod : OpD C (binaryOp .Mod) opMod := od_ints (fun X _ => op_mod) fun d e z h => by
  cases d <;> cases e <;> first | cases h | skip
  rename_i i j
  unfold opMod at h
  simp only at h
  split at h
  · rename_i c; cases h; exact ⟨_, _, rfl, rfl, c, fun _ _ _ => .int _⟩
  · cases h
theorem od_pow : OpD C (binaryOp .Pow) opPow := od_ints (fun X _ => op_pow) fun d e z h => by
  cases d <;> cases e <;> first | cases h | skip
  rename_i i j
  unfold opPow at h
  simp only at h
  split at h
  · rename_i c; cases h; exact ⟨_, _, rfl, rfl, c, fun _ _ _ => .int _⟩
  · cases h
theorem od_shl : OpD C (binaryOp .LShift) opShl := od_ints (fun X _ => op_shl) fun d e z h => by
  cases d <;> cases e <;> first | cases h | skip
  rename_i i j
  unfold opShl at h
  simp only at h
  split at h
  · rename_i c; cases h; exact ⟨_, _, rfl, rfl, c, fun _ _ _ => .int _⟩
  · cases h
theorem od_shr : OpD C (binaryOp .RShift) opShr := od_ints (fun X _ => op_shr) fun d e z h => by
  cases d <;> cases e <;> first | cases h | skip
  rename_i i j
  unfold opShr at h
  simp only at h
  split at h
  · rename_i c; cases h; exact ⟨_, _, rfl, rfl, c, fun _ _ _ => .int _⟩
  · cases h
theorem od_and : OpD C (binaryOp .BitAnd) opAnd := od_ints0 (fun X _ => op_and) fun d e z h => by
  cases d <;> cases e <;> first | (cases h; exact ⟨_, _, rfl, rfl, fun _ _ _ => .int _⟩) | cases h
theorem od_bor : OpD C (binaryOp .BitOr) opBor := od_ints0 (fun X _ => op_or) fun d e z h => by
  cases d <;> cases e <;> first | (cases h; exact ⟨_, _, rfl, rfl, fun _ _ _ => .int _⟩) | cases h
theorem od_xor : OpD C (binaryOp .BitXor) opXor := od_ints0 (fun X _ => op_xor) fun d e z h => by
  cases d <;> cases e <;> first | (cases h; exact ⟨_, _, rfl, rfl, fun _ _ _ => .int _⟩) | cases h
theorem od_le : OpD C (compareOp .LtE) opLe := od_ints0 (fun X _ => op_le) fun d e z h => by
  cases d <;> cases e <;> first | (cases h; exact ⟨_, _, rfl, rfl, fun _ _ _ => .bl _⟩) | cases h
theorem od_gt : OpD C (compareOp .Gt) opGt := od_ints0 (fun X _ => op_gt) fun d e z h => by
  cases d <;> cases e <;> first | (cases h; exact ⟨_, _, rfl, rfl, fun _ _ _ => .bl _⟩) | cases h
theorem od_ge : OpD C (compareOp .GtE) opGe := od_ints0 (fun X _ => op_ge) fun d e z h => by
  cases d <;> cases e <;> first | (cases h; exact ⟨_, _, rfl, rfl, fun _ _ _ => .bl _⟩) | cases h
theorem od_eq : OpD C (compareOp .Eq) opEq := by
  intro X G pins s σ H x y v u Q I rx ry ⟨F, ρ, M, dx, dy, dz, R, r1, r2, e, q⟩
  unfold opEq eqD at e
  cases e1 : toPy dx with
  | none => rw [e1] at e; cases e
  | some a =>
    cases e2 : toPy dy with
    | none => rw [e1, e2] at e; cases e
    | some b =>
      rw [e1, e2] at e
      simp only at e
      split at e
      · rename_i c
        cases e
        exact op_eqD G.room.units pins s σ H x y v u Q I rx ry ⟨a, b, dp_of (RepC.toH R.sub r1) e1, dp_of (RepC.toH R.sub r2) e2, c.1, c.2, q F H _ .refl R (.bl _)⟩
      · cases e
theorem od_ne : OpD C (compareOp .NotEq) opNe := by
  intro X G pins s σ H x y v u Q I rx ry ⟨F, ρ, M, dx, dy, dz, R, r1, r2, e, q⟩
  unfold opNe eqD at e
  cases e1 : toPy dx with
  | none => rw [e1] at e; cases e
  | some a =>
    cases e2 : toPy dy with
    | none => rw [e1, e2] at e; cases e
    | some b =>
      rw [e1, e2] at e
      simp only at e
      split at e
      · rename_i c
        cases e
        exact op_neD G.room.units pins s σ H x y v u Q I rx ry ⟨a, b, dp_of (RepC.toH R.sub r1) e1, dp_of (RepC.toH R.sub r2) e2, c.1, c.2, q F H _ .refl R (.bl _)⟩
      · cases e
theorem room65 {X : Cx} (G : Good C X) : X.A.units + 65 < cLine := by have := G.room.un; omega
theorem od_inG {X : Cx} (G : Good C X) {op : CmpOp} {b : Bool} (hop : (op = .In ∧ b = false) ∨ (op = .NotIn ∧ b = true)) {pins : List (Addr × Obj)} {s : Shared} {σ : St} {H : Hp} {x y : V} {v u : Value} {Q : VK} (I : Inv X pins σ H s)
    (rx : RelV x v) (ry : RelV y u) {dx dy : D} {k : Bool} (h1 : Rep X.K X.mg H x dx) (h2 : Rep X.K X.mg H y dy) (e : inD dx dy = some k) (q : Q (.bl (k != b)) H) :
    wpAny (model X.prog X.w) X.A (compareOp op v u) (EP X pins σ Q) X.xe s := by
  unfold inD at e
  cases e1 : toPy dx with
  | none => rw [e1] at e; cases e
  | some a =>
    obtain ⟨as, q1⟩ := Dp.reads I a x v (dp_of h1 e1) rx
    cases e2 : toPy dy with
    | none => rw [e1, e2] at e; cases e
    | some p =>
      obtain ⟨bs, q2⟩ := Dp.reads I p y u (dp_of h2 e2) ry
      rw [e1, e2] at e
      cases p with
      | list xs =>
        simp only at e
        split at e
        · rename_i c
          cases e
          rcases hop with ⟨rfl, rfl⟩ | ⟨rfl, rfl⟩
          · exact SeqAt.in_list_reads q2 q1 (SeqAt.canLay_of_shaped c.2) (SeqAt.canLay_of_shaped c.1) (room_in_shaped c.1 (room65 G)) ⟨.bl _, H, I, rfl, by simpa using q⟩
          · exact SeqAt.notIn_list_reads q2 q1 (SeqAt.canLay_of_shaped c.2) (SeqAt.canLay_of_shaped c.1) (room_in_shaped c.1 (room65 G)) ⟨.bl _, H, I, rfl, by simpa using q⟩
        · cases e
      | tuple xs =>
        simp only at e
        split at e
        · rename_i c
          cases e
          rcases hop with ⟨rfl, rfl⟩ | ⟨rfl, rfl⟩
          · exact SeqAt.in_tuple_reads q2 q1 (SeqAt.canLay_of_shaped c.2) (SeqAt.canLay_of_shaped c.1) (room_in_shaped c.1 (room65 G)) ⟨.bl _, H, I, rfl, by simpa using q⟩
          · exact SeqAt.notIn_tuple_reads q2 q1 (SeqAt.canLay_of_shaped c.2) (SeqAt.canLay_of_shaped c.1) (room_in_shaped c.1 (room65 G)) ⟨.bl _, H, I, rfl, by simpa using q⟩
        · cases e
      | _ => cases e
theorem od_in : OpD C (compareOp .In) opIn := by
  intro X G pins s σ H x y v u Q I rx ry ⟨F, ρ, M, dx, dy, dz, R, r1, r2, e, q⟩
  unfold opIn at e
  cases e1 : inD dx dy with
  | none => rw [e1] at e; cases e
  | some k =>
    rw [e1] at e; cases e
    exact od_inG G (b := false) (.inl ⟨rfl, rfl⟩) I rx ry (RepC.toH R.sub r1) (RepC.toH R.sub r2) e1 (by simpa using q F H _ .refl R (.bl _))
theorem od_nin : OpD C (compareOp .NotIn) opNin := by
  intro X G pins s σ H x y v u Q I rx ry ⟨F, ρ, M, dx, dy, dz, R, r1, r2, e, q⟩
  unfold opNin at e
  cases e1 : inD dx dy with
  | none => rw [e1] at e; cases e
  | some k =>
    rw [e1] at e; cases e
    exact od_inG G (b := true) (.inr ⟨rfl, rfl⟩) I rx ry (RepC.toH R.sub r1) (RepC.toH R.sub r2) e1 (by simpa using q F H _ .refl R (.bl _))
theorem od_is : OpD C (compareOp .Is) opIs := by
  intro X G pins s σ H x y v u Q I rx ry ⟨F, ρ, M, dx, dy, dz, R, r1, r2, e, q⟩
  cases dy with
  | non =>
    cases (show Rep X.K X.mg F y .non from r2)
    have e' : dz = .bl (isNon dx) := by cases dx <;> (cases e; rfl)
    subst e'
    exact op_isN pins s σ H x _ v u Q I rx ry ⟨rfl, by rw [isNon_ok r1]; exact q F H _ .refl R (.bl _)⟩
  | bl b =>
    cases dx with
    | bl a =>
      cases (show Rep X.K X.mg F x (.bl a) from r1)
      cases (show Rep X.K X.mg F y (.bl b) from r2)
      cases e
      exact op_is_bl pins s σ H _ _ v u Q I rx ry ⟨a, b, rfl, rfl, q F H _ .refl R (.bl _)⟩
    | _ => cases e
  | _ => cases dx <;> cases e
theorem od_isn : OpD C (compareOp .IsNot) opIsn := by
  intro X G pins s σ H x y v u Q I rx ry ⟨F, ρ, M, dx, dy, dz, R, r1, r2, e, q⟩
  cases dy with
  | non =>
    cases (show Rep X.K X.mg F y .non from r2)
    have e' : dz = .bl (!isNon dx) := by cases dx <;> (cases e; rfl)
    subst e'
    exact op_notN pins s σ H x _ v u Q I rx ry ⟨rfl, by rw [isNon_ok r1]; exact q F H _ .refl R (.bl _)⟩
  | bl b =>
    cases dx with
    | bl a =>
      cases (show Rep X.K X.mg F x (.bl a) from r1)
      cases (show Rep X.K X.mg F y (.bl b) from r2)
      cases e
      exact op_isnot_bl pins s σ H _ _ v u Q I rx ry ⟨a, b, rfl, rfl, q F H _ .refl R (.bl _)⟩
    | _ => cases e
  | _ => cases dx <;> cases e
theorem od_lt : OpD C (compareOp .Lt) opLt := by
  intro X G pins s σ H x y v u Q I rx ry ⟨F, ρ, M, dx, dy, dz, R, r1, r2, e, q⟩
  cases dx with
  | int i =>
    cases dy with
    | int j =>
      cases (show Rep X.K X.mg F x (.int i) from r1)
      cases (show Rep X.K X.mg F y (.int j) from r2)
      cases e
      exact op_lt pins s σ H _ _ v u Q I rx ry ⟨i, j, rfl, rfl, q F H _ .refl R (.bl _)⟩
    | _ => cases e
  | tup ds =>
    cases dy with
    | tup es =>
      simp only [opLt] at e
      cases e1 : intsOf ds with
      | none => rw [e1] at e; cases e
      | some ns =>
        cases e2 : intsOf es with
        | none => rw [e1, e2] at e; cases e
        | some ms =>
          rw [e1, e2] at e; cases e
          cases (show Rep X.K X.mg F x (.tup ds) from r1) with
          | tup h1 q1 =>
            cases (show Rep X.K X.mg F y (.tup es) from r2) with
            | tup h2 q2 =>
              have x1 := reps_ints q1 e1
              have x2 := reps_ints q2 e2
              subst x1; subst x2
              exact op_ltT G.room.units0 pins s σ H _ _ v u Q I rx ry ⟨_, _, ns, ms, rfl, rfl, SqT.mono R.sub h1, SqT.mono R.sub h2, q F H _ .refl R (.bl _)⟩
    | _ => cases e
  | _ => cases e
/-- two lists put together, whatever told them -/
theorem cat_lists {X : Cx} {pins : List (Addr × Obj)} {s : Shared} {σ : St} {H : Hp} {a b : Addr} {xs ys : List V} {Q : VK} (I : Inv X pins σ H s) (h1 : SqL X.K H a xs) (h2 : SqL X.K H b ys) (hz : xs.length + ys.length ≤ sizeLine)
    (q : ∀ p, H p = none → Q (.ref p) (upd H p (.lst (xs ++ ys)))) : wpAny (model X.prog X.w) X.A (binaryOp .Add (.ref a) (.ref b)) (EP X pins σ Q) X.xe s := by
  obtain ⟨its, r1, ⟨⟨cls, dd, data, sl⟩, n, ho, hc, hd, hx⟩, z1⟩ := I.list h1
  obtain ⟨its2, r2, ⟨⟨cls2, dd2, data2, sl2⟩, n2, ho2, hc2, hd2, hx2⟩, z2⟩ := I.list h2
  simp only at hc hd hx hc2 hd2 hx2
  subst hc hx hc2 hx2
  have l1 := r1.length
  have l2 := r2.length
  have e : its.toArray ++ its2.toArray = (its ++ its2).toArray := by simp
  refine PySem.concat_meets ⟨_, ho, rfl⟩ ⟨_, ho2, rfl⟩ noFill_list_add seq_list_add PySem.F.slot_list_add PySem.F.entry_list_add (PySem.F.args_list_add_2 _ _) (list_addW a b its.toArray its2.toArray n n2 dd dd2 sl sl2 (by simp only [List.size_toArray]; omega)) ⟨ho, ho2, ?_⟩
  rw [e]
  exact ⟨.ref _, _, I.lnew (t' := s.toks) (r1.append r2) (by rw [List.length_append]; omega), rfl, q _ I.fresh⟩
theorem lim_line : LIM = sizeLine := sizeLine_eq.symm
theorem od_add : OpD C (binaryOp .Add) opAdd := by
  intro X G pins s σ H x y v u Q I rx ry ⟨F, ρ, M, dx, dy, dz, R, r1, r2, e, q⟩
  cases dx with
  | int i =>
    cases dy with
    | int j =>
      cases (show Rep X.K X.mg F x (.int i) from r1)
      cases (show Rep X.K X.mg F y (.int j) from r2)
      cases e
      exact op_add pins s σ H _ _ v u Q I rx ry ⟨i, j, rfl, rfl, q F H _ .refl R (.int _)⟩
    | _ => cases e
  | str i =>
    cases dy with
    | str j =>
      cases (show Rep X.K X.mg F x (.str i) from r1)
      cases (show Rep X.K X.mg F y (.str j) from r2)
      unfold opAdd at e
      simp only at e
      split at e
      · rename_i c
        cases e
        exact op_add_str pins s σ H _ _ v u Q I rx ry ⟨i, j, rfl, rfl, by rw [← lim_line]; exact c, q F H _ .refl R (.str _)⟩
      · cases e
    | _ => cases e
  | tup ds =>
    cases dy with
    | tup es =>
      unfold opAdd at e
      simp only at e
      split at e
      · rename_i c
        cases e
        cases (show Rep X.K X.mg F x (.tup ds) from r1) with
        | tup h1 q1 =>
          cases (show Rep X.K X.mg F y (.tup es) from r2) with
          | tup h2 q2 =>
            have l1 := q1.length
            have l2 := q2.length
            refine op_catA pins s σ H _ _ v u Q I rx ry ⟨_, _, _, _, rfl, rfl, SqT.mono R.sub h1, SqT.mono R.sub h2, by rw [l1, l2, ← lim_line]; exact c, fun z => ?_, fun z1 z2 => ?_, fun z1 z2 p hp => ?_⟩
            · subst z
              cases q1
              exact q F H _ .refl R (.tup h2 q2)
            · subst z2
              cases q2
              rw [List.append_nil] at q
              exact q F H _ .refl R (.tup h1 q1)
            · obtain ⟨y1, y2, y3⟩ := R.tup hp (Reps.append q1 q2)
              exact q _ _ _ y1 y2 y3
      · cases e
    | _ => cases e
  | lst ds =>
    cases dy with
    | lst es =>
      unfold opAdd at e
      simp only at e
      split at e
      · rename_i c
        cases e
        obtain ⟨a, xs, rfl, h1, q1⟩ := r1
        obtain ⟨b, ys, rfl, h2, q2⟩ := r2
        cases rx
        cases ry
        have l1 := q1.length
        have l2 := q2.length
        refine cat_lists I h1 h2 (by rw [l1, l2, ← lim_line]; exact c) fun p hp => ?_
        obtain ⟨y1, y2, y3⟩ := R.lst hp (Reps.append q1 q2)
        exact q _ _ _ y1 y2 y3
      · cases e
    | _ => cases e
  | _ => cases e
end
end PD
namespace PD
open PySem PySem.Spec PyProof.Rows L2
variable {K : PySem.W.Frag} {mg : MG}
section
variable {C : Ctx} {pos : Pos} {a b e : Expr} {es : List Expr} {fa fb fe : DE} {ga : DA} {fl : DL}
theorem od_mul : OpD C (binaryOp .Mult) opMul := by
  intro X G pins s σ H x y v u Q I rx ry ⟨F, ρ, M, dx, dy, dz, R, r1, r2, e, q⟩
  cases dx with
  | int i =>
    cases dy with
    | int j =>
      cases (show Rep X.K X.mg F x (.int i) from r1)
      cases (show Rep X.K X.mg F y (.int j) from r2)
      simp only [opMul] at e
      split at e
      · rename_i c
        cases e
        refine op_mul pins s σ H _ _ v u Q I rx ry ⟨i, j, rfl, rfl, ?_, q F H _ .refl R (.int _)⟩
        rcases c with c | c
        · exact .inl (by constructor <;> omega)
        · exact .inr (by constructor <;> omega)
      · cases e
    | _ => cases e
  | tup ds =>
    cases dy with
    | int k =>
      simp only [opMul] at e
      split at e
      · rename_i c
        cases e
        cases (show Rep X.K X.mg F y (.int k) from r2)
        cases (show Rep X.K X.mg F x (.tup ds) from r1) with
        | tup h1 q1 =>
          obtain ⟨c1, c2, c3, c4⟩ := c
          have l1 := q1.length
          refine op_repT pins s σ H _ _ v u Q I rx ry ⟨_, k, _, rfl, rfl, SqT.mono R.sub h1, fun z => c1 ?_, c2, c3, by omega, fun p hp => ?_⟩
          · rw [z] at l1
            cases ds with
            | nil => rfl
            | cons _ _ => simp at l1
          · have q2 : ∀ n : Nat, Paired (Reps X.K X.mg F) (List.replicate n _) (List.replicate n ds) := fun n => by
              induction n with
              | zero => exact .nil
              | succ n ih => rw [List.replicate_succ, List.replicate_succ]; exact .cons q1 ih
            obtain ⟨y1, y2, y3⟩ := R.tup hp (Reps.flat (q2 k.toNat))
            exact q _ _ _ y1 y2 y3
      · cases e
    | _ => cases e
  | _ => cases e
/-! ### one operand -/
def cUn (g : D → Option D) (f : DE) : DE := fun env M => (f env M).bind fun w M1 => match cont M1 w with | some d => opt (g d) M1 | none => .bad
def opNeg : D → Option D
  | .int i => some (.int (-i))
  | _ => none
theorem pd_neg (ha : PDE C a fa) : PDE C (.UnaryOp .USub a pos) (cUn opNeg fa) := by
  refine ⟨fun X Wx G tk => PE_imp (pe_un un_neg (ha.run X Wx G tk)) fun σ H Q ⟨F, ρ, M, env, R, S, p⟩ => ?_⟩
  refine ⟨F, ρ, M, env, R, S, (RPost.seq p).imp fun v H1 ⟨F1, ρ1, M1, w, x1, R1, r1, p1⟩ => ?_⟩
  cases e1 : cont M1 w with
  | none => rw [e1] at p1; exact p1.elim
  | some d =>
    rw [e1] at p1
    have r := RepC.ofW R1 r1 e1
    cases d with
    | int i =>
      cases (show Rep X.K X.mg F1 v (.int i) from r)
      exact ⟨i, rfl, p1 F1 ρ1 H1 _ .refl R1 (Rep.int _)⟩
    | _ => exact p1.elim
/-! ### a chain of two comparisons -/
def cChain (g g' : D → D → Option D) (a b c : DE) : DE := fun env M => (a env M).bind fun x M1 => (b env M1).bind fun y M2 =>
  match cont M2 x, cont M2 y with
  | some dx, some dy => match g dx dy with
    | some (.bl true) => (c env M2).bind fun z M3 => match cont M3 y, cont M3 z with
      | some dy', some dz => opt (g' dy' dz) M3
      | _, _ => .bad
    | some (.bl false) => .ok (.d (.bl false)) M2
    | _ => .bad
  | _, _ => .bad
theorem chain_post {X : Cx} {Wx : L2.WX} {fc : DE} {g g' : D → D → Option D} {σ : St} {H : Hp} {Q : VK} (h : rdG X.K X.mg (repW X.K X.mg) Wx (cChain g g' fa fb fc) σ H Q) :
    tChain (rD X g) (rD X g') (rdG X.K X.mg (repW X.K X.mg) Wx fa) (rdG X.K X.mg (repW X.K X.mg) Wx fb) (rdG X.K X.mg (repW X.K X.mg) Wx fc) σ H Q := by
  obtain ⟨F, ρ, M, env, R, S, p⟩ := h
  refine ⟨F, ρ, M, env, R, S, (RPost.seq p).imp fun v H1 ⟨F1, ρ1, M1, w, x1, R1, r1, p1⟩ => ?_⟩
  refine ⟨F1, ρ1, M1, env, R1, S.ext x1, (RPost.seq p1).imp fun v2 H2 ⟨F2, ρ2, M2, w2, x2, R2, r2, p2⟩ => ?_⟩
  have S2 := (S.ext x1).ext x2
  split at p2
  · rename_i dx dy e1 e2
    split at p2
    · rename_i e
      refine ⟨F2, ρ2, M2, dx, dy, _, R2, RepC.ext R1 R2 x2 r1 e1, RepC.ofW R2 r2 e2, e, fun F' H' v' x' R' r' => ?_⟩
      cases (show Rep X.K X.mg F' v' (.bl true) from r')
      refine ⟨true, rfl, ?_⟩
      rw [if_pos rfl]
      refine ⟨F', ρ2, M2, env, R', S2.ext x', RPost.imp (RPost.mono x' (RPost.seq p2)) fun v3 H3 ⟨F3, ρ3, M3, w3, x3, R3, r3, p3⟩ => ?_⟩
      split at p3
      · rename_i dy' dz' e3 e4
        cases e5 : g' dy' dz' with
        | none => rw [e5] at p3; exact p3.elim
        | some z =>
          rw [e5] at p3
          exact ⟨F3, ρ3, M3, dy', dz', z, R3, RepC.ext R2 R3 x3 r2 e3, RepC.ofW R3 r3 e4, e5, fun F4 H4 v4 x4 R4 r4 => p3 F4 ρ3 H4 v4 x4 R4 r4⟩
      · exact p3.elim
    · rename_i e
      refine ⟨F2, ρ2, M2, dx, dy, _, R2, RepC.ext R1 R2 x2 r1 e1, RepC.ofW R2 r2 e2, e, fun F' H' v' x' R' r' => ?_⟩
      cases (show Rep X.K X.mg F' v' (.bl false) from r')
      refine ⟨false, rfl, ?_⟩
      rw [if_neg (by decide)]
      exact p2 F' ρ2 H' _ x' R' (Rep.bl _)
    · exact p2.elim
  · exact p2.elim
theorem pd_chain {c : Expr} {fc : DE} {op op' : CmpOp} {g g' : D → D → Option D} (ho : OpD C (compareOp op) g) (ho' : OpD C (compareOp op') g') (ha : PDE C a fa) (hb : PDE C b fb) (hc : PDE C c fc)
    (hm : lastMarks [op, op'] [b, c] = false := by with_unfolding_all rfl) : PDE C (.Compare a [op, op'] [b, c] pos) (cChain g g' fa fb fc) :=
  ⟨fun X Wx G tk => PE_imp (pe_chain (ho X G) (ho' X G) (ha.run X Wx G tk) (hb.run X Wx G tk) (hc.run X Wx G tk) hm) fun σ H Q h => chain_post h⟩
theorem pdt_chain {c : Expr} {fc : DE} {op op' : CmpOp} {g g' : D → D → Option D} (ho : OpD C (compareOp op) g) (ho' : OpD C (compareOp op') g') (ha : PDE C a fa) (hb : PDE C b fb) (hc : PDE C c fc)
    (hm : lastMarks [op, op'] [b, c] = false := by with_unfolding_all rfl) : PDT C (.Compare a [op, op'] [b, c] pos) (asB (cChain g g' fa fb fc)) :=
  ⟨fun X Wx G tk => PT_imp (pt_chain (ho X G) (ho' X G) (ha.run X Wx G tk) (hb.run X Wx G tk) (hc.run X Wx G tk) hm) fun σ H Q h => chain_post (asB_post h)⟩
/-! ### displays -/
def pures : List W → Option (List D)
  | [] => some []
  | .d x :: r => (pures r).map (x :: ·)
  | .mt _ :: _ => none
theorem reps_pures {F : Hp} {ρ : List Addr} : ∀ {ws : List W} {vs : List V} {ds : List D}, RepWs K mg F ρ vs ws → pures ws = some ds → Reps K mg F vs ds
  | [], _, _, .nil, e => by cases e; exact .nil
  | .d x :: r, _, _, .cons h q, e => by
    unfold pures at e
    cases e1 : pures r with
    | none => rw [e1] at e; cases e
    | some es => rw [e1] at e; cases e; exact .cons h (reps_pures q e1)
  | .mt _ :: _, _, _, _, e => nomatch e
def cTup (g : DA) : DE := fun env M => (g env M).bind fun ws M1 => match pures ws with | some ds => if ds.length ≤ LIM then .ok (.d (.tup ds)) M1 else .bad | none => .bad
theorem pd_tup {k : Nat} (h : PDA C es ga) : PDE C (.Tuple es k pos) (cTup ga) := by
  refine ⟨fun X Wx G tk => PE_imp (pe_tup (h.run X Wx G tk)) fun σ H Q ⟨F, ρ, M, env, R, S, p⟩ => ?_⟩
  refine ⟨F, ρ, M, env, R, S, (RPost.seq p).imp fun vs H1 ⟨F1, ρ1, M1, ws, x1, R1, r1, p1⟩ => ?_⟩
  cases e : pures ws with
  | none => rw [e] at p1; exact p1.elim
  | some ds =>
    rw [e] at p1
    simp only at p1
    split at p1
    · rename_i c
      have q := reps_pures r1 e
      refine ⟨by rw [q.length, ← lim_line]; exact c, fun p' hp => ?_⟩
      obtain ⟨y1, y2, y3⟩ := R1.tup hp q
      exact p1 _ ρ1 _ _ y1 y2 y3
    · exact p1.elim
def lLst (g : DA) : DL := fun env M => (g env M).bind fun ws M1 => match pures ws with | some ds => if ds.length ≤ LIM then .ok ds M1 else .bad | none => .bad
theorem pl_lst (h : PDA C es ga) : PDL C (.List es pos) (lLst ga) := by
  refine ⟨fun X Wx G tk => PE_imp (pe_lst (h.run X Wx G tk)) fun σ H Q ⟨F, ρ, M, env, R, S, p⟩ => ?_⟩
  refine ⟨F, ρ, M, env, R, S, (RPost.seq p).imp fun vs H1 ⟨F1, ρ1, M1, ws, x1, R1, r1, p1⟩ => ?_⟩
  cases e : pures ws with
  | none => rw [e] at p1; exact p1.elim
  | some ds =>
    rw [e] at p1
    simp only at p1
    split at p1
    · rename_i c
      have q := reps_pures r1 e
      refine ⟨by rw [q.length, ← lim_line]; exact c, fun p' hp => ?_⟩
      obtain ⟨f1, f2⟩ := R1.fresh hp
      exact p1 F1 ρ1 _ _ (R1.extH hp _) (R1.newH hp _) ⟨p', vs, rfl, hp, f1, f2, upd_same, q⟩
    · exact p1.elim
/-- what an expression made, locked -/
def tLk (t : TE) : TE := fun σ H Q => t σ H fun v H1 => ∃ a u, v = .ref a ∧ H1 a = some u ∧ Mut (some u) ∧ ∀ od, Q v (upd H1 a (.frz od u))
theorem pe_lk {X : Cx} {e : Expr} {t : TE} (h : PE X e t) : PE X e (tLk t) := ⟨fun pins s σ H Q I q => thn (h.run pins s σ H _ I q) fun u s1 ⟨x, H1, I1, r1, a, w, ex, ea, mu, q1⟩ =>
  let ⟨od, I2⟩ := I1.lock ea mu
  ⟨x, _, I2, r1, q1 od⟩⟩
theorem upd_upd (H : Hp) (p : Addr) (o u : HO) : upd (upd H p o) p u = upd H p u := by
  funext b
  by_cases hb : b = p
  · subst hb; rw [upd_same, upd_same]
  · rw [upd_ne hb, upd_ne hb, upd_ne hb]
theorem pd_dic0 : PDE C (.Dict [] [] pos) (cK (.dic [])) := by
  refine ⟨fun X Wx G tk => PE_imp (pe_lk pe_dnewK) fun σ H Q ⟨F, ρ, M, env, R, S, p⟩ p' hp => ?_⟩
  refine ⟨_, _, rfl, upd_same, True.intro, fun od => ?_⟩
  rw [upd_upd]
  exact p _ ρ _ _ (R.extF hp _) (R.newF hp _) (Rep.dic upd_same .nil)
/-- a new list, from now on content; a list that changes -/
def cFz (f : DL) : DE := fun env M => (f env M).bind fun ds M1 => .ok (.d (.lst ds)) M1
def cMt (f : DL) : DE := fun env M => (f env M).bind fun ds M1 => .ok (.mt M1.length) (M1 ++ [some ds])
theorem pd_fz (h : PDL C e fl) : PDE C e (cFz fl) := by
  refine ⟨fun X Wx G tk => PE_imp (h.run X Wx G tk) fun σ H Q ⟨F, ρ, M, env, R, S, p⟩ => ?_⟩
  refine ⟨F, ρ, M, env, R, S, (RPost.seq0 p).imp fun v H1 ⟨F1, ρ1, M1, ds, x1, R1, ⟨p', xs, hv, h0, h1, h2, h3, h4⟩, p1⟩ => ?_⟩
  subst hv
  have s1 := Sub.upd (o := HO.lst xs) h1
  refine p1 (upd F1 p' (.lst xs)) ρ1 H1 _ ⟨x1.sub.trans s1, x1.pre, x1.frame, x1.there, fun c o q => ?_, x1.newR⟩ (R1.tellF h1 h2 h3) (Rep.lst (.of upd_same) (Reps.mono s1 h4))
  by_cases hc : c = p'
  · subst hc; exact .inr (.inl h0)
  · rw [upd_ne hc] at q; exact x1.newF c o q
theorem pd_mt (h : PDL C e fl) : PDE C e (cMt fl) := by
  refine ⟨fun X Wx G tk => PE_imp (h.run X Wx G tk) fun σ H Q ⟨F, ρ, M, env, R, S, p⟩ => ?_⟩
  refine ⟨F, ρ, M, env, R, S, (RPost.seq0 p).imp fun v H1 ⟨F1, ρ1, M1, ds, x1, R1, ⟨p', xs, hv, h0, h1, h2, h3, h4⟩, p1⟩ => ?_⟩
  subst hv
  refine p1 F1 (ρ1 ++ [p']) H1 _ ⟨x1.sub, x1.pre.trans (List.prefix_append _ _), x1.frame, x1.there, x1.newF, fun c q => ?_⟩ (R1.tellM h1 h2 h3 h4) ⟨p', ?_, rfl⟩
  · rcases List.mem_append.mp q with q | q
    · exact x1.newR c q
    · simp at q; subst q; exact .inr h0
  · rw [← R1.len]; simp
end
end PD
namespace PD
open PySem PySem.Spec PyProof.Rows L2
variable {K : PySem.W.Frag} {mg : MG}
/-! ### subscripts -/
def ixD : D → D → Option D
  | .tup ds, .int i => atI ds i
  | .lst ds, .int i => atI ds i
  | .str z, .int i => if z.length ≤ LIM then (atI z.cps.toList i).map fun c => .str ⟨#[c]⟩ else none
  | _, _ => none
theorem atI_reps {F : Hp} {xs : List V} {ds : List D} (r : Reps K mg F xs ds) {i : Int} {d : D} (h : atI ds i = some d) : ∃ x, atI xs i = some x ∧ Rep K mg F x d := by
  unfold atI at h ⊢
  rw [r.length]
  cases e : ixN ds.length i with
  | none => rw [e] at h; cases h
  | some j =>
    rw [e] at h
    obtain ⟨x, h1, h2⟩ := r.get (show ds[j]? = some d from h)
    exact ⟨x, h1, h2⟩
section
variable {C : Ctx} {pos p2 : Pos} {a b e : Expr} {es : List Expr} {fa fb fe : DE} {ga : DA} {fl : DL}
theorem pd_ix (ha : PDE C a fa) (hb : PDE C b fb) (hs : PlainIx b := by intro _ _; rfl) : PDE C (.Subscript a b pos) (cOp ixD fa fb) := by
  refine ⟨fun X Wx G tk => PE_imp (pe_ix ix_seq (ha.run X Wx G tk) (hb.run X Wx G tk) hs) fun σ H Q h => ?_⟩
  obtain ⟨F, ρ, M, env, R, S, p⟩ := cOp_post h
  refine ⟨F, ρ, M, env, R, S, p.imp fun x H1 ⟨F1, ρ1, M1, env1, R1, S1, p1⟩ => ⟨F1, ρ1, M1, env1, R1, S1, p1.imp fun y H2 ⟨F2, ρ2, M2, dx, dy, dz, R2, r1, r2, e, q⟩ => ?_⟩⟩
  cases dx with
  | tup ds =>
    cases dy with
    | int i =>
      cases (show Rep X.K X.mg F2 y (.int i) from r2)
      cases (show Rep X.K X.mg F2 x (.tup ds) from r1) with
      | tup h1 q1 =>
        obtain ⟨v, h2, h3⟩ := atI_reps q1 (show atI ds i = some dz from e)
        exact .inr (.inl ⟨_, _, i, v, rfl, rfl, SqT.mono R2.sub h1, h2, q F2 H2 v .refl R2 h3⟩)
    | _ => cases e
  | lst ds =>
    cases dy with
    | int i =>
      cases (show Rep X.K X.mg F2 y (.int i) from r2)
      obtain ⟨p', xs, rfl, h1, q1⟩ := r1
      obtain ⟨v, h2, h3⟩ := atI_reps q1 (show atI ds i = some dz from e)
      exact .inl ⟨_, _, i, v, rfl, rfl, h1, h2, q F2 H2 v .refl R2 h3⟩
    | _ => cases e
  | str z =>
    cases dy with
    | int i =>
      cases (show Rep X.K X.mg F2 y (.int i) from r2)
      cases (show Rep X.K X.mg F2 x (.str z) from r1)
      simp only [ixD] at e
      split at e
      · rename_i c
        cases e1 : atI z.cps.toList i with
        | none => rw [e1] at e; cases e
        | some k =>
          rw [e1] at e; cases e
          exact .inr (.inr ⟨z, i, k, rfl, rfl, by rw [← lim_line]; exact c, e1, q F2 H2 _ .refl R2 (.str _)⟩)
      · cases e
    | _ => cases e
  | _ => cases e
/-! ### slices -/
abbrev DO := Ev → Store → Res (Option Int)
abbrev repO : RepT (Option Int) (Option Int) := ⟨fun _ _ _ _ b c => b = c, fun _ h => h⟩
structure PDO (C : Ctx) (e : Option Expr) (f : DO) : Prop where
  run : ∀ X Wx, Good C X → Takes X Wx → PO X e (rdG X.K X.mg repO Wx f)
theorem PO_imp {X : Cx} {e : Option Expr} {t t' : TO} (h : PO X e t) (i : ∀ σ H Q, t' σ H Q → t σ H Q) : PO X e t' := ⟨fun pins s σ H Q I q => h.run pins s σ H Q I (i σ H Q q)⟩
def oNo : DO := fun _ M => .ok none M
def oSm (f : DE) : DO := fun env M => (f env M).bind fun w M1 => match w with | .d (.int i) => .ok (some i) M1 | _ => .bad
theorem po_no : PDO C none oNo := ⟨fun X Wx G tk => PO_imp L2.po_none fun σ H Q ⟨F, ρ, M, env, R, S, p⟩ => p F ρ H _ .refl R rfl⟩
theorem po_sm (ha : PDE C a fa) : PDO C (some a) (oSm fa) := by
  refine ⟨fun X Wx G tk => PO_imp (L2.po_some (ha.run X Wx G tk)) fun σ H Q ⟨F, ρ, M, env, R, S, p⟩ => ?_⟩
  refine ⟨F, ρ, M, env, R, S, (RPost.seq p).imp fun v H1 ⟨F1, ρ1, M1, w, x1, R1, r1, p1⟩ => ?_⟩
  split at p1
  · rename_i i
    cases (show Rep X.K X.mg F1 v (.int i) from r1)
    exact ⟨i, rfl, p1 F1 ρ1 H1 _ .refl R1 rfl⟩
  · exact p1.elim
def cutD (xs : List D) (lo hi : Option Int) : List D := (xs.drop (HT.sIx xs.length 0 lo)).take (HT.sIx xs.length xs.length hi - HT.sIx xs.length 0 lo)
theorem reps_cut {F : Hp} {xs : List V} {ds : List D} (r : Reps K mg F xs ds) (lo hi : Option Int) : Reps K mg F (cutV xs lo hi) (cutD ds lo hi) := by
  unfold cutV cutD
  rw [r.length]
  exact Reps.take _ (Reps.drop _ r)
def slD (d : D) (lo hi : Option Int) : Option D :=
  match d with
  | .tup ds => some (.tup (cutD ds lo hi))
  | .lst ds => some (.lst (cutD ds lo hi))
  | .str z => if z.length ≤ LIM then some (.str (cutS z lo hi)) else none
  | _ => none
def cSl (f : DE) (g h : DO) : DE := fun env M => (f env M).bind fun w M1 => (g env M1).bind fun lo M2 => (h env M2).bind fun hi M3 => match cont M3 w with
  | some d => opt (slD d lo hi) M3
  | none => .bad
theorem pd_sl {lo hi : Option Expr} {g h : DO} (ha : PDE C a fa) (hl : PDO C lo g) (hh : PDO C hi h) : PDE C (.Subscript a (.Slice lo hi none p2) pos) (cSl fa g h) := by
  refine ⟨fun X Wx G tk => PE_imp (pe_slice (sl_list.or (sl_tupA.or sl_str)) (ha.run X Wx G tk) (hl.run X Wx G tk) (hh.run X Wx G tk)) fun σ H Q ⟨F, ρ, M, env, R, S, p⟩ => ?_⟩
  refine ⟨F, ρ, M, env, R, S, (RPost.seq p).imp fun v H1 ⟨F1, ρ1, M1, w, x1, R1, r1, p1⟩ => ?_⟩
  refine ⟨F1, ρ1, M1, env, R1, S.ext x1, (RPost.seq p1).imp fun l H2 ⟨F2, ρ2, M2, l', x2, R2, r2, p2⟩ => ?_⟩
  subst r2
  refine ⟨F2, ρ2, M2, env, R2, (S.ext x1).ext x2, (RPost.seq p2).imp fun u H3 ⟨F3, ρ3, M3, u', x3, R3, r3, p3⟩ => ?_⟩
  subst r3
  cases e : cont M3 w with
  | none => rw [e] at p3; exact p3.elim
  | some d =>
    rw [e] at p3
    have r := RepC.ext R1 R3 (x2.trans x3) r1 e
    cases d with
    | tup ds =>
      cases (show Rep X.K X.mg F3 v (.tup ds) from r) with
      | tup h1 q1 =>
        refine .inr (.inl ⟨_, _, rfl, SqT.mono R3.sub h1, fun z => ?_, fun z p' hp => ?_⟩)
        · have e1 : cutD ds l u = ds := by
            unfold cutD
            rw [← q1.length, z.1, z.2, List.drop_zero, Nat.sub_zero, q1.length]
            exact List.take_length
          have p3 : RPost X.K X.mg (repW X.K X.mg) Wx σ F3 ρ3 H3 (.ok (.d (.tup (cutD ds l u))) M3) Q := p3
          rw [e1] at p3
          exact p3 F3 ρ3 H3 _ .refl R3 (Rep.tup h1 q1)
        · obtain ⟨y1, y2, y3⟩ := R3.tup hp (reps_cut q1 l u)
          exact p3 _ ρ3 _ _ y1 y2 y3
    | lst ds =>
      obtain ⟨a', xs, rfl, h1, q1⟩ := r
      refine .inl ⟨_, _, rfl, h1, fun p' hp => ?_⟩
      obtain ⟨y1, y2, y3⟩ := R3.lst hp (reps_cut q1 l u)
      exact p3 _ ρ3 _ _ y1 y2 y3
    | str z =>
      cases (show Rep X.K X.mg F3 v (.str z) from r)
      have p3 : RPost X.K X.mg (repW X.K X.mg) Wx σ F3 ρ3 H3 (opt (if z.length ≤ LIM then some (.str (cutS z l u)) else none) M3) Q := p3
      split at p3
      · rename_i c
        exact .inr (.inr ⟨z, rfl, by rw [← lim_line]; exact c, p3 F3 ρ3 H3 _ .refl R3 (Rep.str _)⟩)
      · exact p3.elim
    | _ => exact p3.elim
/-! ### calls of what is built in -/
/-- values read as contents -/
inductive RepCs (K : PySem.W.Frag) (mg : MG) (F H : Hp) : List V → List D → Prop
  | nil : RepCs K mg F H [] []
  | cons {v : V} {d : D} {vs : List V} {ds : List D} : RepC K mg F H v d → RepCs K mg F H vs ds → RepCs K mg F H (v :: vs) (d :: ds)
def conts (M : Store) : List W → Option (List D)
  | [] => some []
  | w :: r => match cont M w, conts M r with
    | some d, some ds => some (d :: ds)
    | _, _ => none
@[simp] theorem conts_nil (M : Store) : conts M [] = some [] := rfl
@[simp] theorem conts_d (M : Store) (x : D) (r : List W) : conts M (.d x :: r) = (conts M r).map (x :: ·) := by
  simp only [conts, cont_d]
  cases conts M r <;> rfl
theorem repCs_of {F H : Hp} {ρ : List Addr} {M : Store} (R : Rel K mg F ρ M H) : ∀ {ws : List W} {vs : List V} {ds : List D}, RepWs K mg F ρ vs ws → conts M ws = some ds → RepCs K mg F H vs ds
  | [], _, _, .nil, e => by cases e; exact .nil
  | w :: r, _, _, .cons h q, e => by
    unfold conts at e
    cases e1 : cont M w with
    | none => rw [e1] at e; cases e
    | some d =>
      cases e2 : conts M r with
      | none => rw [e1, e2] at e; cases e
      | some es => rw [e1, e2] at e; cases e; exact .cons (RepC.ofW R h e1) (repCs_of R q e2)
/-- .. answers with content -/
def rDn (X : Cx) (g : List D → Option D) : List V → Hp → VK → Prop := fun xs H Q => ∃ F ρ M ds dz, Rel X.K X.mg F ρ M H ∧ RepCs X.K X.mg F H xs ds ∧ g ds = some dz ∧
  ∀ F' H' v, Ext F ρ H F' ρ H' → Rel X.K X.mg F' ρ M H' → Rep X.K X.mg F' v dz → Q v H'
def CallD (C : Ctx) (f : Value) (g : List D → Option D) : Prop := ∀ X, Good C X → CallR X f (rDn X g)
def cB (g : List D → Option D) (ga : DA) : DE := fun env M => (ga env M).bind fun ws M1 => match conts M1 ws with | some ds => opt (g ds) M1 | none => .bad
theorem cB_post {X : Cx} {Wx : L2.WX} {g : List D → Option D} {σ : St} {H : Hp} {Q : VK} (h : rdG X.K X.mg (repW X.K X.mg) Wx (cB g ga) σ H Q) :
    tCB (rDn X g) (rdG X.K X.mg (repA X.K X.mg) Wx ga) σ H Q := by
  obtain ⟨F, ρ, M, env, R, S, p⟩ := h
  refine ⟨F, ρ, M, env, R, S, (RPost.seq p).imp fun vs H1 ⟨F1, ρ1, M1, ws, x1, R1, r1, p1⟩ => ?_⟩
  cases e : conts M1 ws with
  | none => rw [e] at p1; exact p1.elim
  | some ds =>
    rw [e] at p1
    cases e2 : g ds with
    | none => simp only [e2] at p1; exact p1.elim
    | some dz =>
      simp only [e2] at p1
      exact ⟨F1, ρ1, M1, ds, dz, R1, repCs_of R1 r1 e, e2, fun F' H' v x' R' r' => p1 F' ρ1 H' v x' R' r'⟩
theorem pd_cb {x : Str} {id : String} {g : List D → Option D} {p : Pos} (i : Nat) (hi : C.blt[i]? = some x) (hg : glB C.sc x = true) (hv : bootBuiltins x = some (.builtin id)) (hc : CallD C (.builtin id) g) (ha : PDA C (e :: es) ga)
    (he : ∀ env, starEach (e :: es) env = (false, eval e env) :: starEach es env := by intro _; rfl) (hpl : ∀ env, (backTo pos (starEach es env)).any (·.1) = false := by intro _; rfl) : PDE C (.Call (.Name x p) (e :: es) [] pos) (cB g ga) := by
  refine ⟨fun X Wx G tk => ?_⟩
  obtain ⟨g1, g2, g3⟩ := glB_gl (X := X) (x := x) (by rw [G.sc]; exact hg)
  exact PE_imp (pe_callB (hc X G) g1 (G.blt i x hi) hv (ha.run X Wx G tk) g3 g2 (he _) (hpl _)) fun σ H Q h => cB_post h
theorem pd_ct {x : Str} {T : String} {g : List D → Option D} {p : Pos} (i : Nat) (hi : C.blt[i]? = some x) (hg : glB C.sc x = true) (hv : bootBuiltins x = some (.type T)) (hc : CallD C (.type T) g) (ha : PDA C (e :: es) ga)
    (he : ∀ env, starEach (e :: es) env = (false, eval e env) :: starEach es env := by intro _; rfl) (hpl : ∀ env, (backTo pos (starEach es env)).any (·.1) = false := by intro _; rfl) : PDE C (.Call (.Name x p) (e :: es) [] pos) (cB g ga) := by
  refine ⟨fun X Wx G tk => ?_⟩
  obtain ⟨g1, g2, g3⟩ := glB_gl (X := X) (x := x) (by rw [G.sc]; exact hg)
  exact PE_imp (pe_callTy (hc X G) g1 (G.blt i x hi) hv (ha.run X Wx G tk) g3 g2 (he _) (hpl _)) fun σ H Q h => cB_post h
/-- .. answers with a new list -/
def rDl (X : Cx) (g : List D → Option (List D)) : List V → Hp → VK → Prop := fun xs H Q => ∃ F ρ M ds dz, Rel X.K X.mg F ρ M H ∧ RepCs X.K X.mg F H xs ds ∧ g ds = some dz ∧
  ∀ p xs', H p = none → Reps X.K X.mg F xs' dz → Q (.ref p) (upd H p (.lst xs'))
def CallL (C : Ctx) (f : Value) (g : List D → Option (List D)) : Prop := ∀ X, Good C X → CallR X f (rDl X g)
def lB (g : List D → Option (List D)) (ga : DA) : DL := fun env M => (ga env M).bind fun ws M1 => match (conts M1 ws).bind g with | some ds => .ok ds M1 | none => .bad
theorem lB_post {X : Cx} {Wx : L2.WX} {g : List D → Option (List D)} {σ : St} {H : Hp} {Q : VK} (h : rdG X.K X.mg (repL X.K X.mg) Wx (lB g ga) σ H Q) :
    tCB (rDl X g) (rdG X.K X.mg (repA X.K X.mg) Wx ga) σ H Q := by
  obtain ⟨F, ρ, M, env, R, S, p⟩ := h
  refine ⟨F, ρ, M, env, R, S, (RPost.seq p).imp fun vs H1 ⟨F1, ρ1, M1, ws, x1, R1, r1, p1⟩ => ?_⟩
  cases e : conts M1 ws with
  | none => rw [e] at p1; exact p1.elim
  | some ds =>
    rw [e] at p1
    cases e2 : g ds with
    | none => simp only [Option.bind_some, e2] at p1; exact p1.elim
    | some dz =>
      simp only [Option.bind_some, e2] at p1
      refine ⟨F1, ρ1, M1, ds, dz, R1, repCs_of R1 r1 e, e2, fun p' xs' hp q => ?_⟩
      obtain ⟨f1, f2⟩ := R1.fresh hp
      exact p1 F1 ρ1 _ _ (R1.extH hp _) (R1.newH hp _) ⟨p', xs', rfl, hp, f1, f2, upd_same, q⟩
theorem pl_cb {x : Str} {id : String} {g : List D → Option (List D)} {p : Pos} (i : Nat) (hi : C.blt[i]? = some x) (hg : glB C.sc x = true) (hv : bootBuiltins x = some (.builtin id)) (hc : CallL C (.builtin id) g) (ha : PDA C (e :: es) ga)
    (he : ∀ env, starEach (e :: es) env = (false, eval e env) :: starEach es env := by intro _; rfl) (hpl : ∀ env, (backTo pos (starEach es env)).any (·.1) = false := by intro _; rfl) : PDL C (.Call (.Name x p) (e :: es) [] pos) (lB g ga) := by
  refine ⟨fun X Wx G tk => ?_⟩
  obtain ⟨g1, g2, g3⟩ := glB_gl (X := X) (x := x) (by rw [G.sc]; exact hg)
  exact PE_imp (pe_callB (hc X G) g1 (G.blt i x hi) hv (ha.run X Wx G tk) g3 g2 (he _) (hpl _)) fun σ H Q h => lB_post h
theorem pl_ct {x : Str} {T : String} {g : List D → Option (List D)} {p : Pos} (i : Nat) (hi : C.blt[i]? = some x) (hg : glB C.sc x = true) (hv : bootBuiltins x = some (.type T)) (hc : CallL C (.type T) g) (ha : PDA C (e :: es) ga)
    (he : ∀ env, starEach (e :: es) env = (false, eval e env) :: starEach es env := by intro _; rfl) (hpl : ∀ env, (backTo pos (starEach es env)).any (·.1) = false := by intro _; rfl) : PDL C (.Call (.Name x p) (e :: es) [] pos) (lB g ga) := by
  refine ⟨fun X Wx G tk => ?_⟩
  obtain ⟨g1, g2, g3⟩ := glB_gl (X := X) (x := x) (by rw [G.sc]; exact hg)
  exact PE_imp (pe_callTy (hc X G) g1 (G.blt i x hi) hv (ha.run X Wx G tk) g3 g2 (he _) (hpl _)) fun σ H Q h => lB_post h
end
/-! ### the built-ins -/
section
variable {C : Ctx}
theorem one_of {F H : Hp} {xs : List V} {d : D} (r : RepCs K mg F H xs [d]) : ∃ x, xs = [x] ∧ RepC K mg F H x d := by
  cases r with
  | cons h t => cases t; exact ⟨_, rfl, h⟩
theorem two_of {F H : Hp} {xs : List V} {d e : D} (r : RepCs K mg F H xs [d, e]) : ∃ x y, xs = [x, y] ∧ RepC K mg F H x d ∧ RepC K mg F H y e := by
  cases r with
  | cons h t =>
    obtain ⟨y, rfl, h2⟩ := one_of t
    exact ⟨_, y, rfl, h, h2⟩
def gLen : List D → Option D
  | [.tup ds] => some (.int ds.length)
  | [.lst ds] => some (.int ds.length)
  | [.str z] => if z.length ≤ LIM then some (.int z.length) else none
  | [.dic ds] => some (.int ds.length)
  | _ => none
theorem repK_length {F : Hp} {xs : List (L2.Key × V)} {ds : List (L2.Key × D)} (r : RepK K mg F xs ds) : xs.length = ds.length := by
  induction xs generalizing ds with
  | nil => cases r; rfl
  | cons x xs ih => cases r with | cons h t => rw [List.length_cons, List.length_cons, ih t]
theorem cb_len : CallD C (.builtin "len") gLen := by
  intro X G pins s σ H xs us Q I rv ⟨F, ρ, M, ds, dz, R, r, e, q⟩
  match ds, e with
  | [.tup es], e =>
    cases e
    obtain ⟨x, rfl, h⟩ := one_of r
    cases (show Rep X.K X.mg F x (.tup es) from h) with
    | tup h1 q1 => exact call_len pins s σ H _ us Q I rv ⟨_, _, rfl, .inr ⟨_, SqT.mono R.sub h1, rfl⟩, by rw [q1.length]; exact q F H _ .refl R (.int _)⟩
  | [.lst es], e =>
    cases e
    obtain ⟨x, rfl, a, ys, rfl, h1, q1⟩ := one_of r
    exact call_len pins s σ H _ us Q I rv ⟨_, _, rfl, .inl ⟨_, h1, rfl⟩, by rw [q1.length]; exact q F H _ .refl R (.int _)⟩
  | [.str z], e =>
    simp only [gLen] at e
    split at e
    · rename_i c
      cases e
      obtain ⟨x, rfl, h⟩ := one_of r
      cases (show Rep X.K X.mg F x (.str z) from h)
      exact call_len pins s σ H _ us Q I rv ⟨_, _, rfl, ⟨by rw [← lim_line]; exact c, rfl⟩, q F H _ .refl R (.int _)⟩
    · cases e
  | [.dic es], e =>
    cases e
    obtain ⟨x, rfl, h⟩ := one_of r
    cases (show Rep X.K X.mg F x (.dic es) from h) with
    | dic h1 q1 =>
      obtain ⟨u, rfl, ru⟩ := vals1 rv
      cases ru
      refine d_len I (.inr ⟨_, R.sub _ _ h1⟩) fun t s' I' => ⟨.int _, H, I', ⟨t, rfl⟩, ?_⟩
      rw [repK_length q1]; exact q F H _ .refl R (.int _)
def gAbs : List D → Option D
  | [.int i] => some (.int (if i < 0 then -i else i))
  | _ => none
theorem cb_abs : CallD C (.builtin "abs") gAbs := by
  intro X G pins s σ H xs us Q I rv ⟨F, ρ, M, ds, dz, R, r, e, q⟩
  match ds, e with
  | [.int i], e =>
    cases e
    obtain ⟨x, rfl, h⟩ := one_of r
    cases (show Rep X.K X.mg F x (.int i) from h)
    exact call_abs pins s σ H _ us Q I rv ⟨i, rfl, q F H _ .refl R (.int _)⟩
def gInt1 : List D → Option D
  | [.int i] => some (.int i)
  | [.bl b] => some (.int (if b then 1 else 0))
  | _ => none
theorem ct_int : CallD C (.type "int") gInt1 := by
  intro X G pins s σ H xs us Q I rv ⟨F, ρ, M, ds, dz, R, r, e, q⟩
  match ds, e with
  | [.int i], e =>
    cases e
    obtain ⟨x, rfl, h⟩ := one_of r
    cases (show Rep X.K X.mg F x (.int i) from h)
    exact call_int1 pins s σ H _ us Q I rv (.inl ⟨i, rfl, q F H _ .refl R (.int _)⟩)
  | [.bl b], e =>
    cases e
    obtain ⟨x, rfl, h⟩ := one_of r
    cases (show Rep X.K X.mg F x (.bl b) from h)
    exact call_int1 pins s σ H _ us Q I rv (.inr ⟨b, rfl, q F H _ .refl R (.int _)⟩)
def gMax2 : List D → Option D
  | [.int i, .int j] => some (.int (if j > i then j else i))
  | _ => none
def gMin2 : List D → Option D
  | [.int i, .int j] => some (.int (if j < i then j else i))
  | _ => none
theorem cb_max2 : CallD C (.builtin "max") gMax2 := by
  intro X G pins s σ H xs us Q I rv ⟨F, ρ, M, ds, dz, R, r, e, q⟩
  match ds, e with
  | [.int i, .int j], e =>
    cases e
    obtain ⟨x, y, rfl, h, h'⟩ := two_of r
    cases (show Rep X.K X.mg F x (.int i) from h)
    cases (show Rep X.K X.mg F y (.int j) from h')
    exact call_max2 G.calm pins s σ H _ us Q I rv ⟨i, j, rfl, q F H _ .refl R (.int _)⟩
theorem cb_min2 : CallD C (.builtin "min") gMin2 := by
  intro X G pins s σ H xs us Q I rv ⟨F, ρ, M, ds, dz, R, r, e, q⟩
  match ds, e with
  | [.int i, .int j], e =>
    cases e
    obtain ⟨x, y, rfl, h, h'⟩ := two_of r
    cases (show Rep X.K X.mg F x (.int i) from h)
    cases (show Rep X.K X.mg F y (.int j) from h')
    exact call_min2 G.calm pins s σ H _ us Q I rv ⟨i, j, rfl, q F H _ .refl R (.int _)⟩
def gAll : List D → Option D
  | [.lst ds] => (boolsOf ds).map fun bs => .bl (bs.all id)
  | _ => none
def gAny : List D → Option D
  | [.lst ds] => (boolsOf ds).map fun bs => .bl (bs.any id)
  | _ => none
def gSum : List D → Option D
  | [.lst ds] => (intsOf ds).map fun bs => .int bs.sum
  | _ => none
theorem cb_all : CallD C (.builtin "all") gAll := by
  intro X G pins s σ H xs us Q I rv ⟨F, ρ, M, ds, dz, R, r, e, q⟩
  match ds, e with
  | [.lst es], e =>
    simp only [gAll] at e
    cases e1 : boolsOf es with
    | none => rw [e1] at e; cases e
    | some bs =>
      rw [e1] at e; cases e
      obtain ⟨x, rfl, a, ys, rfl, h1, q1⟩ := one_of r
      have z := reps_bools q1 e1
      subst z
      exact cr_all G.calm pins s σ H _ us Q I rv ⟨a, bs, rfl, h1, q F H _ .refl R (.bl _)⟩
theorem cb_any : CallD C (.builtin "any") gAny := by
  intro X G pins s σ H xs us Q I rv ⟨F, ρ, M, ds, dz, R, r, e, q⟩
  match ds, e with
  | [.lst es], e =>
    simp only [gAny] at e
    cases e1 : boolsOf es with
    | none => rw [e1] at e; cases e
    | some bs =>
      rw [e1] at e; cases e
      obtain ⟨x, rfl, a, ys, rfl, h1, q1⟩ := one_of r
      have z := reps_bools q1 e1
      subst z
      exact cr_any G.calm pins s σ H _ us Q I rv ⟨a, bs, rfl, h1, q F H _ .refl R (.bl _)⟩
theorem cb_sum : CallD C (.builtin "sum") gSum := by
  intro X G pins s σ H xs us Q I rv ⟨F, ρ, M, ds, dz, R, r, e, q⟩
  match ds, e with
  | [.lst es], e =>
    simp only [gSum] at e
    cases e1 : intsOf es with
    | none => rw [e1] at e; cases e
    | some bs =>
      rw [e1] at e; cases e
      obtain ⟨x, rfl, a, ys, rfl, h1, q1⟩ := one_of r
      have z := reps_ints q1 e1
      subst z
      exact cr_sum G.calm pins s σ H _ us Q I rv ⟨a, bs, rfl, h1, q F H _ .refl R (.int _)⟩
def gTup : List D → Option D
  | [.lst ds] => some (.tup ds)
  | [.tup ds] => some (.tup ds)
  | _ => none
theorem ct_tup : CallD C (.type "tuple") gTup := by
  intro X G pins s σ H xs us Q I rv ⟨F, ρ, M, ds, dz, R, r, e, q⟩
  match ds, e with
  | [.lst es], e =>
    cases e
    obtain ⟨x, rfl, a, ys, rfl, h1, q1⟩ := one_of r
    refine call_tuple_of pins s σ H _ us Q I rv ⟨a, ys, rfl, .inl ⟨h1, fun l hl => ?_⟩⟩
    obtain ⟨y1, y2, y3⟩ := R.tup hl q1
    exact q _ _ _ y1 y2 y3
  | [.tup es], e =>
    cases e
    obtain ⟨x, rfl, h⟩ := one_of r
    cases (show Rep X.K X.mg F x (.tup es) from h) with
    | tup h1 q1 => exact call_tuple_of pins s σ H _ us Q I rv ⟨_, _, rfl, .inr ⟨SqT.mono R.sub h1, q F H _ .refl R (.tup h1 q1)⟩⟩
def gList : List D → Option (List D)
  | [.lst ds] => some ds
  | [.tup ds] => some ds
  | _ => none
theorem ct_list : CallL C (.type "list") gList := by
  intro X G pins s σ H xs us Q I rv ⟨F, ρ, M, ds, dz, R, r, e, q⟩
  match ds, e with
  | [.lst es], e =>
    cases e
    obtain ⟨x, rfl, a, ys, rfl, h1, q1⟩ := one_of r
    exact call_list_of pins s σ H _ us Q I rv ⟨a, ys, rfl, .inl h1, fun l hl => q l ys hl q1⟩
  | [.tup es], e =>
    cases e
    obtain ⟨x, rfl, h⟩ := one_of r
    cases h with
    | tup h1 q1 => exact call_list_of pins s σ H _ us Q I rv ⟨_, _, rfl, .inr (SqT.mono R.sub h1), fun l hl => q l _ hl q1⟩
/-! ### isinstance -/
def tyName : D → Option String
  | .non => some "NoneType"
  | .bl _ => some "bool"
  | .int _ => some "int"
  | .str _ => some "str"
  | .tup _ => some "tuple"
  | .lst _ => some "list"
  | .dic _ => some "dict"
  | _ => none
theorem tyX_ok {F H : Hp} (s : Sub F H) {v : V} {d : D} {n : String} (h : RepC K mg F H v d) (e : tyName d = some n) : TyX K H v (.type n) := by
  cases d with
  | non => cases e; cases (show Rep K mg F v _ from h); exact .base .non
  | bl _ => cases e; cases (show Rep K mg F v _ from h); exact .base (.bl _)
  | int _ => cases e; cases (show Rep K mg F v _ from h); exact .base (.int _)
  | str _ => cases e; cases (show Rep K mg F v _ from h); exact .base (.str _)
  | tup ds =>
    cases e
    cases (show Rep K mg F v (.tup ds) from h) with
    | tup h1 q1 =>
      rcases SqT.mono s h1 with (z | ⟨o, z⟩) | ⟨o, its, m, z, zc, _⟩
      · exact .base (.tup z)
      · exact .fTuple z
      · exact .kTuple z zc
  | lst ds =>
    cases e
    obtain ⟨a, xs, rfl, h1, _⟩ := h
    rcases h1 with (z | ⟨o, z⟩) | ⟨o, its, m, z, zc, _⟩
    · exact .base (.lst z)
    · exact .base (.frz z)
    · exact .kList z zc
  | dic ds =>
    cases e
    cases (show Rep K mg F v (.dic ds) from h) with
    | dic h1 q1 => exact .fDict (s _ _ h1)
  | _ => cases e
def tyNames : List String := ["NoneType", "bool", "int", "str", "tuple", "list", "dict"]
def instB (a b : String) : Bool := a == b || (a == "bool" && b == "int")
theorem inst_table : (tyNames.all fun a => tyNames.tail.all fun b => decide (kitB a b = some (instB a b))) = true := by decide +kernel
def gIsi : List D → Option D
  | [d, .ty n] => match tyName d with
    | some m => if n ∈ tyNames.tail then some (.bl (instB m n)) else none
    | none => none
  | _ => none
theorem tyName_mem {d : D} {n : String} (e : tyName d = some n) : n ∈ tyNames := by
  cases d <;> first | (cases e; decide) | cases e
theorem cb_isi : CallD C (.builtin "isinstance") gIsi := by
  intro X G pins s σ H xs us Q I rv ⟨F, ρ, M, ds, dz, R, r, e, q⟩
  match ds, e with
  | [d, .ty n], e =>
    simp only [gIsi] at e
    cases e1 : tyName d with
    | none => rw [e1] at e; cases e
    | some m =>
      rw [e1] at e
      simp only at e
      split at e
      · rename_i c
        cases e
        obtain ⟨x, y, rfl, h, h'⟩ := two_of r
        cases (show Rep X.K X.mg F y (.ty n) from h')
        have k : kitB m n = some (instB m n) := by
          have t := inst_table
          rw [List.all_eq_true] at t
          have t2 := t m (tyName_mem e1)
          rw [List.all_eq_true] at t2
          exact of_decide_eq_true (t2 n c)
        exact call_isi pins s σ H _ us Q I rv ⟨x, .ty n, .type m, .type n, _, rfl, .ty n, tyX_ok R.sub h e1, kit_ty k, q F H _ .refl R (.bl _)⟩
      · cases e
end
end PD
namespace PD
open PySem PySem.Spec PyProof.Rows L2
variable {K : PySem.W.Frag} {mg : MG}
/-! ### how keywords bind -/
structure PlainPs (fd : FuncData) (ps : List Str) : Prop where
  args : fd.params.args.map (·.arg) = ps
  po : fd.params.posonlyargs = []
  ko : fd.params.kwonlyargs = []
  va : fd.params.vararg = none
  ka : fd.params.kwarg = none
  df : fd.defaults = .none
def kwPerm {α : Type} (perm : List Nat) (us ws : List α) : List α := us ++ perm.filterMap fun j => ws[j]?
def KB (ps : List Str) (n : Nat) (ks : List Str) (perm : List Nat) : Prop := ∀ (fd : FuncData) (us ws : List Value), PlainPs fd ps → us.length = n → ws.length = ks.length →
  bindArgs fd ⟨us, ks.zip ws⟩ = pure (ps.zip (kwPerm perm us ws))
theorem kwPerm_vals {vs zs : List V} {us ws : List Value} (perm : List Nat) (r : Vals vs us) (q : Vals zs ws) : Vals (kwPerm perm vs zs) (kwPerm perm us ws) := by
  refine r.append ?_
  induction perm with
  | nil => exact .nil
  | cons j t ih =>
    rw [List.filterMap_cons, List.filterMap_cons]
    cases e : zs[j]? with
    | none => rw [Vals.none_of q e]; exact ih
    | some z =>
      obtain ⟨w, h1, h2⟩ := Vals.get q e
      rw [h1]
      exact .cons h2 ih
theorem paired_get {α β : Type} {R : α → β → Prop} : ∀ {xs : List α} {ys : List β}, Paired R xs ys → ∀ j : Nat, (xs[j]? = none ∧ ys[j]? = none) ∨ ∃ x y, xs[j]? = some x ∧ ys[j]? = some y ∧ R x y
  | _, _, .nil, j => .inl ⟨by simp, by simp⟩
  | _, _, .cons h t, 0 => .inr ⟨_, _, rfl, rfl, h⟩
  | _, _, .cons h t, j + 1 => by simpa using paired_get t j
theorem paired_append {α β : Type} {R : α → β → Prop} : ∀ {xs : List α} {ys : List β} {as : List α} {bs : List β}, Paired R xs ys → Paired R as bs → Paired R (xs ++ as) (ys ++ bs)
  | _, _, _, _, .nil, h => h
  | _, _, _, _, .cons h t, q => .cons h (paired_append t q)
theorem kwPerm_reps {α β : Type} {R : α → β → Prop} {vs zs : List α} {us ws : List β} (perm : List Nat) (r : Paired R vs us) (q : Paired R zs ws) : Paired R (kwPerm perm vs zs) (kwPerm perm us ws) := by
  refine paired_append r ?_
  induction perm with
  | nil => exact .nil
  | cons j t ih =>
    rw [List.filterMap_cons, List.filterMap_cons]
    rcases paired_get q j with ⟨h1, h2⟩ | ⟨x, y, h1, h2, h⟩
    · rw [h1, h2]; exact ih
    · rw [h1, h2]; exact .cons h ih
/-! ### calls of defs -/
structure PDK (C : Ctx) (kws : List Keyword) (f : DA) : Prop where
  run : ∀ X Wx, Good C X → Takes X Wx → PK X kws (rdG X.K X.mg (repA X.K X.mg) Wx f)
theorem PK_imp {X : Cx} {e : List Keyword} {t t' : TA} (h : PK X e t) (i : ∀ σ H Q, t' σ H Q → t σ H Q) : PK X e t' := ⟨fun p pins s σ H Q I q => h.run p pins s σ H Q I (i σ H Q q)⟩
section
variable {C : Ctx} {pos kpos p : Pos} {e : Expr} {es : List Expr} {f : DE} {ga gk : DA} {kws : List Keyword} {nm : Option Str} {x : Str}
theorem pk_nil : PDK C [] cNil := ⟨fun X Wx G tk => PK_imp L2.pk_nil fun σ H Q ⟨F, ρ, M, env, R, S, p⟩ => p F ρ H [] .refl R .nil⟩
theorem pk_cons (hf : PDE C e f) (hg : PDK C kws gk) : PDK C (⟨nm, e, kpos⟩ :: kws) (cCons f gk) := by
  refine ⟨fun X Wx G tk => PK_imp (L2.pk_cons (hf.run X Wx G tk) (hg.run X Wx G tk)) fun σ H Q ⟨F, ρ, M, env, R, S, p⟩ => ?_⟩
  refine ⟨F, ρ, M, env, R, S, (RPost.seq p).imp fun v H1 ⟨F1, ρ1, M1, w, x1, R1, r1, p1⟩ => ?_⟩
  refine ⟨F1, ρ1, M1, env, R1, S.ext x1, (RPost.seq p1).imp fun vs H2 ⟨F2, ρ2, M2, ws, x2, R2, r2, p2⟩ => ?_⟩
  exact p2 F2 ρ2 H2 _ .refl R2 (.cons (RepW.mono x2.sub x2.pre r1) r2)
/-- a def by a plain function -/
def cCall (R : Fn) (ga : DA) : DE := fun env M => (ga env M).bind R
def lenOk (n : Nat) (R : Fn) : Prop := ∀ ws M, ws.length ≠ n → R ws M = .bad
theorem sp_of {X : Cx} {Wx : L2.WX} {σ : St} {F : Hp} {ρ : List Addr} {M : Store} {H : Hp} {vs : List V} {ws : List W} {R : Fn} {n : Nat} {Q : VK} (l : lenOk n R) (Rl : Rel X.K X.mg F ρ M H) (r : RepWs X.K X.mg F ρ vs ws)
    (p : RPost X.K X.mg (repW X.K X.mg) Wx σ F ρ H (R ws M) Q) : spOf X.K X.mg n R vs H Q (WE Wx σ) := by
  refine ⟨F, ρ, M, ws, ?_, Rl, r, ?_⟩
  · apply Classical.byContradiction
    intro h
    rw [l ws M h] at p
    exact p
  · cases e : R ws M with
    | ok w M' => rw [e] at p; exact p
    | err y M' => rw [e] at p; exact p
    | bad => rw [e] at p; exact p
theorem pd_call {ps : List Str} {R : Fn} (i : Nat) (hi : C.fns[i]? = some (x, ps, R)) (hg : glB C.sc x = true) (hl : lenOk ps.length R) (ha : PDA C (e :: es) ga)
    (he : ∀ env, starEach (e :: es) env = (false, eval e env) :: starEach es env := by intro _; rfl) (hpl : ∀ env, (backTo pos (starEach es env)).any (·.1) = false := by intro _; rfl) : PDE C (.Call (.Name x p) (e :: es) [] pos) (cCall R ga) := by
  refine ⟨fun X Wx G tk => ?_⟩
  obtain ⟨st, f, fd, h1, h2, h3, _, _, _, _, _, _, h4⟩ := (G.fns i x ps R hi).ex
  obtain ⟨g1, g2, g3⟩ := glB_gl (X := X) (x := x) (by rw [G.sc]; exact hg)
  refine PE_imp (pe_callS h3 (G.room.mono (Nat.le_succ _)) g1 h1 h2.kp h4 (fun σ => passAt tk σ) (ha.run X Wx G tk) g2 (he _) (hpl _)) fun σ H Q ⟨F, ρ, M, env, R0, S, p⟩ => ?_
  exact ⟨F, ρ, M, env, R0, S, (RPost.seq p).imp fun vs H1 ⟨F1, ρ1, M1, ws, x1, R1, r1, p1⟩ => sp_of hl R1 r1 p1⟩
theorem pd_call0 {ps : List Str} {R : Fn} (i : Nat) (hi : C.fns[i]? = some (x, ps, R)) (hg : glB C.sc x = true) (hl : lenOk ps.length R) : PDE C (.Call (.Name x p) [] [] pos) (cCall R cNil) := by
  refine ⟨fun X Wx G tk => ?_⟩
  obtain ⟨st, f, fd, h1, h2, h3, _, _, _, _, _, _, h4⟩ := (G.fns i x ps R hi).ex
  obtain ⟨g1, g2, g3⟩ := glB_gl (X := X) (x := x) (by rw [G.sc]; exact hg)
  refine ⟨fun pins s σ H Q I ⟨F, ρ, M, env, R0, S, p⟩ => ?_⟩
  refine wpAny_Call_Name_kw (ld_glob I g1 h1 ?_ g2)
  exact PySem.W.callWith_K0 I.kIn h2.kp (run_fnS (us := []) (vs := []) h3 (G.room.mono (Nat.le_succ _)) h4 (passAt tk σ) I .nil (sp_of hl R0 .nil p))
/-- .. with keywords -/
def cCallK (R : Fn) (n m : Nat) (perm : List Nat) (ga gk : DA) : DE := fun env M => (ga env M).bind fun us M1 => (gk env M1).bind fun ws M2 => if us.length = n ∧ ws.length = m then R (kwPerm perm us ws) M2 else .bad
theorem run_fnKS {X : Cx} {CX : CXT} {k : Nat} {f : Addr} {fd : FuncData} {ps : List Str} {sp : Sp} {E : St → XK} {pins : List (Addr × Obj)} {σ : St} {H : Hp} {s : Shared} {Q : VK} {us zs : List Value} {ks : List Str} {vs : List V} {as : List Value}
    (F : FnOk X.prog X.w X.K X.mg X.base CX k f fd ps sp) (hr : Room k X.A) (hb : BindsTo s fd ⟨us, ks.zip zs⟩ (ps.zip as)) (hx : PassesAt CX X σ (E σ))
    (I : Inv X pins σ H s) (r : Vals vs as) (h : sp vs H Q (E σ)) : wpAny (model X.prog X.w) X.A (call (.ref f) us (ks.zip zs)) (EP X pins σ Q) X.xe s := by
  refine wpAny_call (codeAny_mono (F.run X.A X.stack s H ⟨us, ks.zip zs⟩ as vs Q (E σ) hr I.env0 hb r h) fun r s' hq => ?_)
  cases r with
  | error e => exact hx pins H s e s' I hq
  | ok fl =>
    cases fl with
    | ret u => exact I.after hq
    | next => exact False.elim hq
    | brk => exact False.elim hq
    | cont => exact False.elim hq
theorem FnIs.plain {X : Cx} {k : Nat} {ps : List Str} {R : Fn} (h : FnIs X k x ps R) : ∃ (f : Addr) (fd : FuncData), X.mg x = some (.ref f) ∧ PySem.W.keepIn X.K (.ref f) = true ∧ FnOk X.prog X.w X.K X.mg X.base (L2.CX X.prog X.w) k f fd ps (spOf X.K X.mg ps.length R) ∧ PlainPs fd ps := by
  obtain ⟨st, f, fd, h1, h2, h3, a1, a2, a3, a4, a5, a6, h4⟩ := h.ex
  refine ⟨f, fd, h1, h2.kp, h3, ?_⟩
  obtain ⟨oc, od, kV, doc, pm, an, cdv, ct, osl, rfl, lk, hcd⟩ := h2.ex
  exact ⟨a1, a2, a3, a5, a6, rfl⟩
theorem pd_callk {ps ks : List Str} {R : Fn} {n : Nat} {perm : List Nat} (i : Nat) (hi : C.fns[i]? = some (x, ps, R)) (hg : glB C.sc x = true) (hl : lenOk ps.length R) (kb : KB ps n ks perm) (ha : PDA C (e :: es) ga) (hk : PDK C kws gk)
    (hall : ∀ env, (backToKw pos (keywordEach kws env)).all (·.1.isSome) = true := by intro _; rfl) (hks : ∀ env, (backToKw pos (keywordEach kws env)).filterMap (·.1) = ks := by intro _; rfl)
    (he : ∀ env, starEach (e :: es) env = (false, eval e env) :: starEach es env := by intro _; rfl)
    (hpl : ∀ env, ((backTo pos (starEach (e :: es) env)).any (·.1) || (backToKw pos (keywordEach kws env)).any (·.1.isNone)) = false := by intro _; rfl) :
    PDE C (.Call (.Name x p) (e :: es) kws pos) (cCallK R n ks.length perm ga gk) := by
  refine ⟨fun X Wx G tk => ?_⟩
  obtain ⟨f, fd, h1, hkp, h3, pl⟩ := (G.fns i x ps R hi).plain
  obtain ⟨g1, g2, g3⟩ := glB_gl (X := X) (x := x) (by rw [G.sc]; exact hg)
  refine ⟨fun pins s σ H Q I ⟨F, ρ, M, env, R0, S, pq⟩ => ?_⟩
  refine wpAny_Call_Name_kw (ld_glob I g1 h1 ?_ g2)
  refine PySem.W.callWith_KW (h₀ := X.base) I.ok.mod.kin hkp (hall _) (thn ((ha.run X Wx G tk).run pos pins s σ H _ I ⟨F, ρ, M, env, R0, S, RPost.seq pq⟩) fun us s1 ⟨vs, H1, I1, r, F1, ρ1, M1, ws, x1, R1, r1, p1⟩ => ?_) (hpl _) (he _)
  refine thn ((hk.run X Wx G tk).run pos pins s1 σ H1 _ I1 ⟨F1, ρ1, M1, env, R1, S.ext x1, RPost.seq p1⟩) fun zs s2 ⟨vz, H2, I2, rz, F2, ρ2, M2, wz, x2, R2, r2, p2⟩ => ⟨I2.kIn, ?_⟩
  split at p2
  · rename_i c
    rw [hks]
    have q1 := RepWs.mono x2.sub x2.pre r1
    have e1 := r.length
    have e2 := rz.length
    have e3 := Paired.length q1
    have e4 := Paired.length r2
    refine run_fnKS (as := kwPerm perm us zs) (vs := kwPerm perm vs vz) h3 (G.room.mono (Nat.le_succ _)) ?_ (passAt tk σ) I2 (kwPerm_vals perm r rz) (sp_of hl R2 (kwPerm_reps perm q1 r2) p2)
    exact .of_eq (kb fd us zs pl (by omega) (by omega))
  · exact p2.elim
theorem pd_callk0 {ps ks : List Str} {R : Fn} {perm : List Nat} (i : Nat) (hi : C.fns[i]? = some (x, ps, R)) (hg : glB C.sc x = true) (hl : lenOk ps.length R) (kb : KB ps 0 ks perm) (hk : PDK C kws gk)
    (hall : ∀ env, (backToKw pos (keywordEach kws env)).all (·.1.isSome) = true := by intro _; rfl) (hks : ∀ env, (backToKw pos (keywordEach kws env)).filterMap (·.1) = ks := by intro _; rfl)
    (hpl : ∀ env, ((backTo pos (starEach [] env)).any (·.1) || (backToKw pos (keywordEach kws env)).any (·.1.isNone)) = false := by intro _; rfl) :
    PDE C (.Call (.Name x p) [] kws pos) (cCallK R 0 ks.length perm cNil gk) := by
  refine ⟨fun X Wx G tk => ?_⟩
  obtain ⟨f, fd, h1, hkp, h3, pl⟩ := (G.fns i x ps R hi).plain
  obtain ⟨g1, g2, g3⟩ := glB_gl (X := X) (x := x) (by rw [G.sc]; exact hg)
  refine ⟨fun pins s σ H Q I ⟨F, ρ, M, env, R0, S, pq⟩ => ?_⟩
  refine wpAny_Call_Name_kw (ld_glob I g1 h1 ?_ g2)
  refine PySem.W.callWith_KW0 (h₀ := X.base) I.ok.mod.kin hkp (hall _) (thn ((hk.run X Wx G tk).run pos pins s σ H _ I ⟨F, ρ, M, env, R0, S, RPost.seq (r := gk env M) pq⟩) fun zs s2 ⟨vz, H2, I2, rz, F2, ρ2, M2, wz, x2, R2, r2, p2⟩ => ⟨I2.kIn, ?_⟩) (hpl _)
  split at p2
  · rename_i c
    rw [hks]
    have e2 := rz.length
    have e4 := Paired.length r2
    refine run_fnKS (us := []) (as := kwPerm perm [] zs) (vs := kwPerm perm [] vz) h3 (G.room.mono (Nat.le_succ _)) ?_ (passAt tk σ) I2 (kwPerm_vals perm .nil rz) (sp_of hl R2 (kwPerm_reps perm .nil r2) p2)
    exact .of_eq (kb fd [] zs pl rfl (by omega))
  · exact p2.elim
/-- a def that a name holds -/
def cCallV (i : Nat) (tab : List (Str × List Str × Fn)) (ga : DA) : DE := fun env M =>
  match env[i]? with
  | some (some (.d (.fn x))) => match tab.lookup x with
    | some (_, R) => (ga env M).bind R
    | none => .bad
  | _ => .bad
theorem pd_callv (i : Nat) (hN : C.N[i]? = some x) (hv : visB C.sc x = true) (hl : ∀ y ps R, C.hof.lookup y = some (ps, R) → lenOk ps.length R) (ha : PDA C (e :: es) ga)
    (he : ∀ env, starEach (e :: es) env = (false, eval e env) :: starEach es env := by intro _; rfl) (hpl : ∀ env, (backTo pos (starEach es env)).any (·.1) = false := by intro _; rfl) : PDE C (.Call (.Name x p) (e :: es) [] pos) (cCallV i C.hof ga) := by
  refine ⟨fun X Wx G tk => ?_⟩
  obtain ⟨v1, v2, v3⟩ := visB_vis hv
  refine ⟨fun pins s σ H Q I ⟨F, ρ, M, env, R0, S, pq⟩ => ?_⟩
  unfold cCallV at pq
  split at pq
  · rename_i y ey
    obtain ⟨v, hs, rv⟩ := S.2 i _ ey
    cases hy : C.hof.lookup y with
    | none => rw [hy] at pq; exact pq.elim
    | some z =>
      obtain ⟨ps, R⟩ := z
      rw [hy] at pq
      obtain ⟨st, f, fd, h1, h2, h3, _, _, _, _, _, _, h4⟩ := (G.hof y ps R hy).ex
      cases (show Rep X.K X.mg F v (.fn y) from rv) with
      | fn hm =>
        rw [h1] at hm
        cases hm
        refine wpAny_Call_Name_kw (thn ((pe_var (pos := p) (by rw [G.N]; exact hN) (by rw [G.sc]; exact v1) v2 v3).run pins s σ H (fun v H1 => v = .ref f ∧ H1 = H) I ⟨.ref f, hs, rfl, rfl⟩) fun u s1 ⟨v, H1, I1, r1, q1⟩ => ?_)
        obtain ⟨rfl, rfl⟩ := q1
        cases r1
        refine PySem.W.callWith_K (h₀ := X.base) I.ok.mod.kin h2.kp (thn ((ha.run X Wx G tk).run pos pins s1 σ _ _ I1 ⟨F, ρ, M, env, R0, S, RPost.seq pq⟩) fun us s2 ⟨vs, H2, I2, r, F1, ρ1, M1, ws, x1, R1, r1, p1⟩ => ⟨I2.kIn, ?_⟩) (he _) (hpl _)
        exact run_fnS h3 (G.room.mono (Nat.le_succ _)) h4 (passAt tk σ) I2 r (sp_of (hl y ps R hy) R1 r1 p1)
  · exact pq.elim
end
end PD
namespace PD
open PySem PySem.Spec PyProof.Rows L2
variable {K : PySem.W.Frag} {mg : MG}
/-! ### targets -/
abbrev DG := W → Ev → Store → Option (Ev × Store)
def Agree (sl : List Nat) (σ σ' : St) : Prop := σ'.length = σ.length ∧ ∀ i, i ∉ sl → σ'[i]? = σ[i]?
theorem Agree.refl (sl : List Nat) (σ : St) : Agree sl σ σ := ⟨rfl, fun _ _ => rfl⟩
theorem Agree.trans {sl : List Nat} {σ σ' σ'' : St} (a : Agree sl σ σ') (b : Agree sl σ' σ'') : Agree sl σ σ'' := ⟨b.1.trans a.1, fun i h => (b.2 i h).trans (a.2 i h)⟩
theorem Agree.mono {sl sl' : List Nat} {σ σ' : St} (h : ∀ i ∈ sl, i ∈ sl') (a : Agree sl σ σ') : Agree sl' σ σ' := ⟨a.1, fun i n => a.2 i fun m => n (h i m)⟩
theorem Agree.set {sl : List Nat} {σ : St} {i : Nat} {v : Option V} (h : i ∈ sl) : Agree sl σ (σ.set i v) := ⟨by simp, fun j n => List.getElem?_set_ne fun e => n (by rw [← e]; exact h)⟩
def GPost (K : PySem.W.Frag) (mg : MG) (sl : List Nat) (σ : St) (F : Hp) (ρ : List Addr) (H : Hp) (r : Option (Ev × Store)) (Q : St → Hp → Prop) : Prop :=
  match r with
  | some (env', M') => ∀ F' ρ' σ' H', Ext F ρ H F' ρ' H' → Rel K mg F' ρ' M' H' → RepS K mg F' ρ' σ' env' → Agree sl σ σ' → Q σ' H'
  | none => False
theorem GPost.mono {sl : List Nat} {σ : St} {F F' : Hp} {ρ ρ' : List Addr} {H H' : Hp} {r : Option (Ev × Store)} {Q : St → Hp → Prop} (x : Ext F ρ H F' ρ' H') (h : GPost K mg sl σ F ρ H r Q) : GPost K mg sl σ F' ρ' H' r Q := by
  cases r with
  | none => exact h
  | some p => exact fun F2 ρ2 σ2 H2 y R S => h F2 ρ2 σ2 H2 (x.trans y) R S
theorem GPost.imp {sl : List Nat} {σ : St} {F : Hp} {ρ : List Addr} {H : Hp} {r : Option (Ev × Store)} {Q Q' : St → Hp → Prop} (h : GPost K mg sl σ F ρ H r Q) (q : ∀ σ H, Q σ H → Q' σ H) : GPost K mg sl σ F ρ H r Q' := by
  cases r with
  | none => exact h
  | some p => exact fun F2 ρ2 σ2 H2 y R S z => q _ _ (h F2 ρ2 σ2 H2 y R S z)
def rdT (K : PySem.W.Frag) (mg : MG) (sl : List Nat) (g : DG) : TG := fun v σ H Q => ∃ F ρ M env w, Rel K mg F ρ M H ∧ RepS K mg F ρ σ env ∧ RepW K mg F ρ v w ∧ GPost K mg sl σ F ρ H (g w env M) Q
structure PDG (C : Ctx) (tg : Expr) (sl : List Nat) (g : DG) : Prop where
  run : ∀ X, Good C X → PG X tg (rdT X.K X.mg sl g)
abbrev DGs := List D → Ev → Store → Option (Ev × Store)
def rdTs (K : PySem.W.Frag) (mg : MG) (sl : List Nat) (g : DGs) : TGs := fun vs σ H Q => ∃ F ρ M env ds, Rel K mg F ρ M H ∧ RepS K mg F ρ σ env ∧ Reps K mg F vs ds ∧ GPost K mg sl σ F ρ H (g ds env M) Q
structure PDGs (C : Ctx) (tgs : List Expr) (sl : List Nat) (g : DGs) : Prop where
  run : ∀ X, Good C X → PGs X tgs (rdTs X.K X.mg sl g)
theorem PG_imp {X : Cx} {e : Expr} {t t' : TG} (h : PG X e t) (i : ∀ v σ H Q, t' v σ H Q → t v σ H Q) : PG X e t' := ⟨fun pins s σ H v u Q I r q => h.run pins s σ H v u Q I r (i v σ H Q q)⟩
theorem PGs_imp {X : Cx} {e : List Expr} {t t' : TGs} (h : PGs X e t) (i : ∀ v σ H Q, t' v σ H Q → t v σ H Q) : PGs X e t' := ⟨fun pins s σ H v u Q I r q => h.run pins s σ H v u Q I r (i v σ H Q q)⟩
def locB (C : Ctx) (x : Str) : Bool := match C.sc.names.lookup x with | some .local => true | some .cell => C.fnc x | _ => false
theorem locB_ok {C : Ctx} {X : Cx} (G : Good C X) {x : Str} (h : locB C x = true) : L2.Loc X.env.scope x ∧ (X.fn x = true ∨ X.env.scope.names.lookup x = some .local) := by
  unfold locB at h
  rw [G.fnc]
  unfold L2.Loc
  rw [G.sc]
  cases e : C.sc.names.lookup x with
  | none => rw [e] at h; cases h
  | some k =>
    rw [e] at h
    cases k with
    | «local» => exact ⟨.inl rfl, .inr rfl⟩
    | cell => exact ⟨.inr rfl, .inl h⟩
    | _ => cases h
def gN (i : Nat) : DG := fun w env M => some (env.set i (some w), M)
def gTp (n : Nat) (g : DGs) : DG := fun w env M => match w with
  | .d (.tup ds) => if ds.length = n then g ds env M else none
  | _ => none
def gNil : DGs := fun ds env M => match ds with | [] => some (env, M) | _ => none
def gCons (g : DG) (gs : DGs) : DGs := fun ds env M => match ds with
  | d :: r => (g (.d d) env M).bind fun p => gs r p.1 p.2
  | [] => none
section
variable {C : Ctx} {pos : Pos} {e : Expr} {es : List Expr} {g : DG} {gs : DGs} {x : Str} {sl sm : List Nat}
theorem pg_n (i : Nat) (hi : C.N[i]? = some x) (hx : locB C x = true) : PDG C (.Name x pos) [i] (gN i) := by
  refine ⟨fun X G => ?_⟩
  obtain ⟨h1, h2⟩ := locB_ok G hx
  exact PG_imp (pg_name (i := i) (by rw [G.N]; exact G.nd) (by rw [G.N]; exact hi) h1 h2) fun v σ H Q ⟨F, ρ, M, env, w, R, S, r, p⟩ => p F ρ _ H .refl R (S.set r i) (Agree.set (by simp))
theorem pgs_nil : PDGs C [] [] gNil := ⟨fun X G => PGs_imp L2.pgs_nil fun vs σ H Q ⟨F, ρ, M, env, ds, R, S, r, p⟩ => by
  cases r with
  | nil => exact ⟨rfl, p F ρ σ H .refl R S (.refl _ _)⟩
  | cons h t => exact p.elim⟩
theorem GPost.seq {σ : St} {F : Hp} {ρ : List Addr} {H : Hp} {r : Option (Ev × Store)} {k : Ev × Store → Option (Ev × Store)} {Q : St → Hp → Prop} (h : GPost K mg (sl ++ sm) σ F ρ H (r.bind k) Q) :
    GPost K mg sl σ F ρ H r (fun σ' H' => ∃ F' ρ' p, Ext F ρ H F' ρ' H' ∧ Rel K mg F' ρ' p.2 H' ∧ RepS K mg F' ρ' σ' p.1 ∧ GPost K mg sm σ' F' ρ' H' (k p) Q) := by
  cases r with
  | none => exact h
  | some p =>
    intro F2 ρ2 σ2 H2 y R S z
    refine ⟨F2, ρ2, p, y, R, S, ?_⟩
    have h2 : GPost K mg (sl ++ sm) σ F ρ H (k p) Q := h
    cases e : k p with
    | none => rw [e] at h2; exact h2
    | some q =>
      rw [e] at h2
      exact fun F3 ρ3 σ3 H3 y3 R3 S3 z3 => h2 F3 ρ3 σ3 H3 (y.trans y3) R3 S3 ((z.mono fun i m => List.mem_append_left _ m).trans (z3.mono fun i m => List.mem_append_right _ m))
theorem pgs_cons (h1 : PDG C e sl g) (h2 : PDGs C es sm gs) (hs : ∀ env, (assignEach (e :: es) env).map (·.2) = assign e env :: (assignEach es env).map (·.2) := by intro _; rfl) : PDGs C (e :: es) (sl ++ sm) (gCons g gs) := by
  refine ⟨fun X G => PGs_imp (L2.pgs_cons (h1.run X G) (h2.run X G) (hs _)) fun vs σ H Q ⟨F, ρ, M, env, ds, R, S, r, p⟩ => ?_⟩
  cases r with
  | nil => exact p.elim
  | cons h t => exact ⟨_, _, rfl, F, ρ, M, env, .d _, R, S, h, (GPost.seq p).imp fun σ' H' ⟨F1, ρ1, q, x1, R1, S1, p1⟩ => ⟨F1, ρ1, q.2, q.1, _, R1, S1, Reps.mono x1.sub t, p1⟩⟩
theorem pg_tp {k n : Nat} (h : PDGs C es sl gs) (hn : ∀ env, (assignEach es env).length = n := by intro _; rfl) (hst : ∀ env, (assignEach es env).findIdx? (·.1) = none := by intro _; rfl) : PDG C (.Tuple es k pos) sl (gTp n gs) := by
  refine ⟨fun X G => PG_imp (pg_tup (n := n) G.calm (h.run X G) (hn _) (hst _)) fun v σ H Q ⟨F, ρ, M, env, w, R, S, r, p⟩ => ?_⟩
  unfold gTp at p
  split at p
  · rename_i ds
    split at p
    · rename_i c
      cases (show Rep X.K X.mg F v (.tup ds) from r) with
      | tup h1 q1 => exact ⟨_, _, rfl, SqT.mono R.sub h1, by rw [q1.length]; exact c, F, ρ, M, env, ds, R, S, q1, p⟩
    · exact p.elim
  · exact p.elim
/-- o[i] = .., o a list that changes -/
def gSt (fo fi : DE) : DG := fun w env M => match w, fo env M with
  | .d y, .ok (.mt j) M1 => match fi env M1 with
    | .ok (.d (.int k)) M2 => match M2[j]? with
      | some (some ds) => match ixN ds.length k with
        | some q => some (env, M2.set j (some (ds.set q y)))
        | none => none
      | _ => none
    | _ => none
  | _, _ => none
theorem takes_no {X : Cx} : Takes X (fun _ _ _ _ => False) := fun _ _ ⟨_, _, _, _, _, _, _, _, _, _, _, _, _, _, _, _, w⟩ => w.elim
theorem pg_st {o i : Expr} {fo fi : DE} (ho : PDE C o fo) (hi : PDE C i fi)
    (ha : ∀ env v, assign (.Subscript o i pos) env v = (do
      let ov ← holding [v] (eval o env)
      let iv ← holding [v, ov] (eval i env)
      standAt pos
      holding [v, ov, iv] (setItem ov iv v)
      release [v, ov, iv] []) := by intro _ _; rfl) : PDG C (.Subscript o i pos) [] (gSt fo fi) := by
  refine ⟨fun X G => PG_imp (pg_sub (ho.run X _ G takes_no) (hi.run X _ G takes_no) set_list (ha _)) fun v σ H Q ⟨F, ρ, M, env, w, R, S, r, p⟩ => ?_⟩
  refine ⟨F, ρ, M, env, R, S, ?_⟩
  unfold gSt at p
  split at p
  · rename_i y j M1 e1
    rw [e1]
    intro F1 ρ1 H1 ov x1 R1 r1
    refine ⟨F1, ρ1, M1, env, R1, S.ext x1, ?_⟩
    have p := GPost.mono x1 p
    split at p
    · rename_i k M2 e2
      rw [e2]
      intro F2 ρ2 H2 iv x2 R2 r2
      have p := GPost.mono x2 p
      split at p
      · rename_i ds e3
        split at p
        · rename_i q e4
          cases (show Rep X.K X.mg F2 iv (.int k) from r2)
          obtain ⟨a, ha', rfl⟩ := r1
          have ha2 := pre_get x2.pre ha'
          obtain ⟨_, xs, hx, rx⟩ := R2.cell j a ds ha2 e3
          have rv : Rep X.K X.mg F2 v y := Rep.mono (x1.sub.trans x2.sub) r
          refine ⟨a, xs, k, q, rfl, rfl, hx, by rw [rx.length]; exact e4, ?_⟩
          exact p F2 ρ2 σ _ (Rel.extSet ha2) (R2.set ha2 e3 (Reps.set q rx rv)) ((S.ext x1).ext x2) (.refl _ _)
        · exact p.elim
      · exact p.elim
    · exact p.elim
  · exact p.elim
end
/-! ### what a for walks -/
structure ItW (K : PySem.W.Frag) (mg : MG) (J : It) (F : Hp) (ds : List D) : Prop where
  go : ∀ (i : Nat) (H : Hp), i < ds.length → Sub F H → J.go i H
  stop : ∀ (H : Hp), Sub F H → J.stop ds.length H
  yld : ∀ (i : Nat) (H : Hp) (x : V) (H' : Hp), i < ds.length → Sub F H → J.yld i H x H' → ∀ F2 ρ M, Sub F F2 → Rel K mg F2 ρ M H → ∃ F3 d, ds[i]? = some d ∧ Ext F2 ρ H F3 ρ H' ∧ Rel K mg F3 ρ M H' ∧ Rep K mg F3 x d
abbrev repI (K : PySem.W.Frag) (mg : MG) : RepT It (List D) := ⟨fun _ F _ _ J ds => ItW K mg J F ds, fun _ h => h⟩
structure PDI (C : Ctx) (tg iter : Expr) (f : DL) : Prop where
  run : ∀ X Wx, Good C X → Takes X Wx → PI X tg iter (rdG X.K X.mg (repI X.K X.mg) Wx f)
theorem PI_imp {X : Cx} {tg e : Expr} {t t' : TI} (h : PI X tg e t) (i : ∀ σ H Q, t' σ H Q → t σ H Q) : PI X tg e t' := ⟨fun pins s σ H Q I q => h.run pins s σ H Q I (i σ H Q q)⟩
theorem itw_list {a : Addr} {F : Hp} {xs : List V} {ds : List D} (inj : ∀ H ys, Sub F H → SqL K H a ys → ys = xs) (h : SqL K F a xs) (r : Reps K mg F xs ds) : ItW K mg (Itl K a) F ds where
  go := fun i H hi s => by
    obtain ⟨d, hd⟩ : ∃ d, ds[i]? = some d := ⟨_, List.getElem?_eq_getElem hi⟩
    obtain ⟨x, hx, _⟩ := r.get hd
    exact ⟨xs, x, SqL.mono s h, hx⟩
  stop := fun H s => ⟨xs, SqL.mono s h, by rw [r.length]; exact Nat.le_refl _⟩
  yld := fun i H x H' hi s ⟨e, hy⟩ F2 ρ M s2 R => by
    subst e
    obtain ⟨d, hd⟩ : ∃ d, ds[i]? = some d := ⟨_, List.getElem?_eq_getElem hi⟩
    obtain ⟨x', hx, rx⟩ := r.get hd
    have e := hy xs (SqL.mono s h)
    rw [hx] at e
    cases e
    exact ⟨F2, d, hd, .refl, R, Rep.mono s2 rx⟩
theorem itw_list' {a : Addr} {F : Hp} {xs : List V} {ds : List D} (h : SqL K F a xs) (r : Reps K mg F xs ds) : ItW K mg (Itl K a) F ds where
  go := fun i H hi s => by
    obtain ⟨d, hd⟩ : ∃ d, ds[i]? = some d := ⟨_, List.getElem?_eq_getElem hi⟩
    obtain ⟨x, hx, _⟩ := r.get hd
    exact ⟨xs, x, SqL.mono s h, hx⟩
  stop := fun H s => ⟨xs, SqL.mono s h, by rw [r.length]; exact Nat.le_refl _⟩
  yld := fun i H x H' hi s ⟨e, hy⟩ F2 ρ M s2 R => by
    subst e
    obtain ⟨d, hd⟩ : ∃ d, ds[i]? = some d := ⟨_, List.getElem?_eq_getElem hi⟩
    obtain ⟨x', hx, rx⟩ := r.get hd
    have e := hy xs (SqL.mono s h)
    rw [hx] at e
    cases e
    exact ⟨F2, d, hd, .refl, R, Rep.mono s2 rx⟩
theorem itw_tup {a : Addr} {F : Hp} {xs : List V} {ds : List D} (h : SqT K F a xs) (r : Reps K mg F xs ds) : ItW K mg (Itt K a) F ds where
  go := fun i H hi s => by
    obtain ⟨d, hd⟩ : ∃ d, ds[i]? = some d := ⟨_, List.getElem?_eq_getElem hi⟩
    obtain ⟨x, hx, _⟩ := r.get hd
    exact ⟨xs, x, SqT.mono s h, hx⟩
  stop := fun H s => ⟨xs, SqT.mono s h, by rw [r.length]; exact Nat.le_refl _⟩
  yld := fun i H x H' hi s ⟨e, hy⟩ F2 ρ M s2 R => by
    subst e
    obtain ⟨d, hd⟩ : ∃ d, ds[i]? = some d := ⟨_, List.getElem?_eq_getElem hi⟩
    obtain ⟨x', hx, rx⟩ := r.get hd
    have e := hy xs (SqT.mono s h)
    rw [hx] at e
    cases e
    exact ⟨F2, d, hd, .refl, R, Rep.mono s2 rx⟩
def seqOf : W → Option (List D)
  | .d (.lst ds) => some ds
  | .d (.tup ds) => some ds
  | _ => none
def cIt (f : DE) : DL := fun env M => (f env M).bind fun w M1 => match seqOf w with | some ds => .ok ds M1 | none => .bad
def iAny (K : PySem.W.Frag) (tl : TE) : TI := fun σ H R => tl σ H fun x H1 => ∃ a, x = .ref a ∧ (((∃ xs, SqL K H1 a xs) ∧ R (Itl K a) H1) ∨ ((∃ xs, SqT K H1 a xs) ∧ R (Itt K a) H1))
theorem pi_any {X : Cx} {tg l : Expr} {tl : TE} (hl : PE X l tl) : PI X tg l (iAny X.K tl) := by
  refine ⟨fun pins s σ H R I h => ?_⟩
  refine thn (hl.run pins s σ H _ I h) fun v s1 ⟨x, H1, I1, r1, q1⟩ => ?_
  obtain ⟨a, e, q⟩ := q1
  subst e
  cases r1
  rcases q with ⟨⟨xs, hq⟩, q⟩ | ⟨⟨xs, hq⟩, q⟩
  · obtain ⟨its, rv, p, hz⟩ := I1.list hq
    refine wpAny_pyIter_list p.isList ?_
    refine ⟨s1.heap.objs.size, [s1.heap.objs.size], _, _, H1, rfl, I1.kept (t' := s1.toks) fun b o e => Heap.get?_push_of_some _ e, turn_list a _, ⟨_, Heap.get?_push_size _ rfl, rfl, rfl⟩, fun b hb => ?_, q⟩
    have e : b = s1.heap.objs.size := by simpa using hb
    subst e
    exact I1.fpOk (Nat.le_refl _) (I1.hok.fresh (Nat.le_refl _))
  · obtain ⟨its, rv, p, hz⟩ := I1.tuple hq
    refine wpAny_pyIter_tuple (show s1.heap.IsTuple a its.toArray from p) ?_
    refine ⟨s1.heap.objs.size, [s1.heap.objs.size], _, _, H1, rfl, I1.kept (t' := s1.toks) fun b o e => Heap.get?_push_of_some _ e, turn_tuple a _, ⟨_, Heap.get?_push_size _ rfl, rfl, rfl⟩, fun b hb => ?_, q⟩
    have e : b = s1.heap.objs.size := by simpa using hb
    subst e
    exact I1.fpOk (Nat.le_refl _) (I1.hok.fresh (Nat.le_refl _))
section
variable {C : Ctx} {pos p : Pos} {tg a b c e : Expr} {es : List Expr} {f fa fb fc : DE} {ga : DA}
theorem pi_sq (ha : PDE C e f) : PDI C tg e (cIt f) := by
  refine ⟨fun X Wx G tk => PI_imp (pi_any (ha.run X Wx G tk)) fun σ H Q ⟨F, ρ, M, env, R, S, p⟩ => ?_⟩
  refine ⟨F, ρ, M, env, R, S, (RPost.seq p).imp fun v H1 ⟨F1, ρ1, M1, w, x1, R1, r1, p1⟩ => ?_⟩
  cases w with
  | mt i => exact p1.elim
  | d y =>
    cases y with
    | lst ds =>
      cases (show Rep X.K X.mg F1 v (.lst ds) from r1) with
      | lst h1 q1 => exact ⟨_, rfl, .inl ⟨⟨_, SqL.mono R1.sub h1⟩, p1 F1 ρ1 H1 _ .refl R1 (itw_list' h1 q1)⟩⟩
    | tup ds =>
      cases (show Rep X.K X.mg F1 v (.tup ds) from r1) with
      | tup h1 q1 => exact ⟨_, rfl, .inr ⟨⟨_, SqT.mono R1.sub h1⟩, p1 F1 ρ1 H1 _ .refl R1 (itw_tup h1 q1)⟩⟩
    | _ => exact p1.elim
/-! ### ranges -/
def rngD (lo : Int) (n : Nat) : List D := (List.range n).map fun i => .int (lo + (i : Nat))
@[simp] theorem rngD_length (lo : Int) (n : Nat) : (rngD lo n).length = n := by simp [rngD]
theorem itw_rng {F : Hp} {lo : Int} {n : Nat} : ItW K mg (Itr lo n) F (rngD lo n) where
  go := fun i H hi _ => by rw [rngD_length] at hi; exact hi
  stop := fun H _ => by rw [rngD_length]; exact Nat.le_refl _
  yld := fun i H x H' hi _ ⟨e, hx⟩ F2 ρ M _ R => by
    rw [rngD_length] at hi
    refine ⟨F2, .int (lo + (i : Nat)), ?_, ?_, ?_, ?_⟩
    · unfold rngD; rw [List.getElem?_map, List.getElem?_range hi]; rfl
    · rw [e]; exact .refl
    · rw [e]; exact R
    · rw [hx]; exact .int _
def iR1 : List D → Option (List D)
  | [.int n] => if n ≤ 16777216 ∧ -16777216 ≤ n then some (rngD 0 n.toNat) else none
  | _ => none
def iR2 : List D → Option (List D)
  | [.int a, .int b] => if (a ≤ 16777216 ∧ -16777216 ≤ a) ∧ b ≤ 16777216 ∧ -16777216 ≤ b then some (rngD a (b - a).toNat) else none
  | _ => none
theorem pi_r1 (i : Nat) (hi : C.blt[i]? = some "range") (hg : glB C.sc "range" = true) (ha : PDA C [a] ga) (hs : ∀ env, starEach [a] env = [(false, eval a env)] := by intro _; rfl) : PDI C tg (.Call (.Name "range" p) [a] [] pos) (lB iR1 ga) := by
  refine ⟨fun X Wx G tk => ?_⟩
  obtain ⟨g1, g2, g3⟩ := glB_gl (X := X) (x := "range") (by rw [G.sc]; exact hg)
  refine PI_imp (pi_range1 g1 (G.blt i _ hi) (ha.run X Wx G tk) (hs _)) fun σ H Q ⟨F, ρ, M, env, R, S, p⟩ => ?_
  refine ⟨F, ρ, M, env, R, S, (RPost.seq p).imp fun vs H1 ⟨F1, ρ1, M1, ws, x1, R1, r1, p1⟩ => ?_⟩
  cases e : conts M1 ws with
  | none => rw [e] at p1; exact p1.elim
  | some ds =>
    rw [e] at p1
    have rc := repCs_of R1 r1 e
    cases e2 : iR1 ds with
    | none => simp only [Option.bind_some, e2] at p1; exact p1.elim
    | some dz =>
      simp only [Option.bind_some, e2] at p1
      match ds, e2 with
      | [.int n], e2 =>
        simp only [iR1] at e2
        split at e2
        · rename_i c
          cases e2
          obtain ⟨x, rfl, h⟩ := one_of rc
          cases (show Rep X.K X.mg F1 x (.int n) from h)
          exact ⟨n, rfl, by omega, by omega, p1 F1 ρ1 H1 _ .refl R1 itw_rng⟩
        · cases e2
theorem pi_r2 (i : Nat) (hi : C.blt[i]? = some "range") (hg : glB C.sc "range" = true) (ha : PDA C [a, b] ga) (hs : ∀ env, starEach [a, b] env = [(false, eval a env), (false, eval b env)] := by intro _; rfl) (hs2 : ∀ env, starEach [b] env = [(false, eval b env)] := by intro _; rfl) :
    PDI C tg (.Call (.Name "range" p) [a, b] [] pos) (lB iR2 ga) := by
  refine ⟨fun X Wx G tk => ?_⟩
  obtain ⟨g1, g2, g3⟩ := glB_gl (X := X) (x := "range") (by rw [G.sc]; exact hg)
  refine PI_imp (pi_range2 g1 (G.blt i _ hi) (ha.run X Wx G tk) (hs _) (hs2 _)) fun σ H Q ⟨F, ρ, M, env, R, S, p⟩ => ?_
  refine ⟨F, ρ, M, env, R, S, (RPost.seq p).imp fun vs H1 ⟨F1, ρ1, M1, ws, x1, R1, r1, p1⟩ => ?_⟩
  cases e : conts M1 ws with
  | none => rw [e] at p1; exact p1.elim
  | some ds =>
    rw [e] at p1
    have rc := repCs_of R1 r1 e
    cases e2 : iR2 ds with
    | none => simp only [Option.bind_some, e2] at p1; exact p1.elim
    | some dz =>
      simp only [Option.bind_some, e2] at p1
      match ds, e2 with
      | [.int n, .int m], e2 =>
        simp only [iR2] at e2
        split at e2
        · rename_i c
          cases e2
          obtain ⟨x, y, rfl, h, h'⟩ := two_of rc
          cases (show Rep X.K X.mg F1 x (.int n) from h)
          cases (show Rep X.K X.mg F1 y (.int m) from h')
          exact ⟨n, m, rfl, ⟨by omega, by omega, by omega, by omega⟩, p1 F1 ρ1 H1 _ .refl R1 itw_rng⟩
        · cases e2
/-! ### enumerate, zip -/
set_option maxHeartbeats 1000000 in
theorem meets_enumB {v : Value} {o : Obj} {H : Heap → Prop} (B : Begins v o H) :
    Meets (Builtin.«enumerate.__new__» ⟨[.type "enumerate", v], []⟩) (fun _ R s => H s.heap ∧
      R (.ok (.ret (.ref (s.heap.push o).objs.size))) { s with heap := (s.heap.push o).push { cls := .type "enumerate", data := .fields #[.none, .bool false, .ref s.heap.objs.size, rawInt 0, .none, .none] } }) :=
  .of_wp fun prog w A R s h => by
    obtain ⟨hp, g, d, tk, os⟩ := s; obtain ⟨h1, h⟩ := h
    have hsub := sub_enumerate
    have q1 : ∀ {A' : Around} {E : Value → Shared → Prop} {Q : Value → Shared → Prop}, Q (.ref hp.objs.size) ⟨hp.push o, g, d, tk, os⟩ → wpAny (model prog w) A' (pyIter v) Q E ⟨hp, g, d, tk, os⟩ :=
      fun q => B.iter prog w _ _ ⟨hp, g, d, tk, os⟩ _ h1 q
    wp_walk using q1
    refine wpAny_stack_any fun st => wpAny_pure ?_
    split
    · rename_i c _ _ _ _ _
      cases (c == Value.type "enumerate")
      · wp_walk using q1
        exact ⟨_, rfl, h⟩
      · wp_walk using q1
        exact ⟨_, rfl, h⟩
    · wp_walk using q1
      exact ⟨_, rfl, h⟩
theorem call_enum_tup {prog : Program} {w : World} {A : Around} {E : Value → Shared → Prop} {s : Shared} {t : Addr} {items : Array Value} {Q : Value → Shared → Prop} (ht : s.heap.IsTuple t items)
    (h : ∀ h', IsEnum h' (s.heap.objs.size + 1) s.heap.objs.size 0 .none → h'.IsTupleIter s.heap.objs.size t 0 → (∀ b o, s.heap.get? b = some o → h'.get? b = some o) → Q (.ref (s.heap.objs.size + 1)) { s with heap := h' }) :
    wpAny (model prog w) A (call (.type "enumerate") [.ref t]) Q E s := by
  have B := begins_tuple t items
  refine callType_new F.called_enumerate (by decide) (F.typeCall_enumerate_1 _) (F.newCall_enumerate_1 _) (fun obj => F.args_object_init_2 obj _) F.entry_enumerate_new (meets_enumB B) ⟨ht, ?_⟩
  generalize ho : ({ cls := .type "tuple_iterator", data := .fields #[.ref t, .int 0 0] } : Obj) = o
  have hz : (s.heap.push o).objs.size = s.heap.objs.size + 1 := Heap.size_push ..
  show _ ∧ _
  rw [hz]
  have he : IsEnum ((s.heap.push o).push { cls := .type "enumerate", data := .fields #[.none, .bool false, .ref s.heap.objs.size, rawInt 0, .none, .none] }) (s.heap.objs.size + 1) s.heap.objs.size 0 .none := by
    have := Heap.get?_push_size (s.heap.push o) (o := { cls := .type "enumerate", data := .fields #[.none, .bool false, .ref s.heap.objs.size, rawInt 0, .none, .none] }) rfl
    rw [hz] at this; exact this
  refine ⟨⟨_, he, rfl⟩, h _ he ⟨_, Heap.get?_push_of_some _ (Heap.get?_push_size _ (by rw [← ho]; exact B.free)), by rw [← ho], by rw [← ho]; rfl⟩ fun b u x => Heap.get?_push_of_some _ (Heap.get?_push_of_some _ x)⟩
def IteT (K : PySem.W.Frag) (a : Addr) : It :=
  ⟨fun i H => ∃ (xs : List V) (x : V), SqT K H a xs ∧ xs[i]? = some x, fun i H v H' => ∃ T x, v = .ref T ∧ H T = none ∧ H' = upd H T (.tup [.int (i : Nat), x]) ∧ ∀ xs, SqT K H a xs → xs[i]? = some x, fun i H => ∃ xs : List V, SqT K H a xs ∧ xs.length = i⟩
theorem turn_enumT {P : Program} {w : World} {K : PySem.W.Frag} {elts : List Expr} {kk : Nat} {tpos : Pos} (a e it : Addr) :
    Turn P w K (.Tuple elts kk tpos) (IteT K a) [e, it] e (fun i h => (∃ old, IsEnum h e it ((i : Nat) : Int) old) ∧ h.IsTupleIter it a i ∧ e ≠ it) where
  mem := by simp
  obj := fun i h st b hb => by
    obtain ⟨⟨old, he⟩, ⟨o, ho, hc, hd⟩, _⟩ := st
    have e' : b = e ∨ b = it := by simpa using hb
    rcases e' with z | z
    · rw [z]; exact ⟨_, he, fun v q => nomatch q⟩
    · rw [z]; exact ⟨o, ho, fun v q => by rw [hd] at q; cases q⟩
  keep := fun i h h' st k => let ⟨⟨old, he⟩, hi, hne⟩ := st; ⟨⟨old, k e (by simp) _ he⟩, hi.at fun o q => k it (by simp) o q, hne⟩
  item := by
    intro X hP hw hK hc i pins s σ H E I hf st hg
    subst hP hw hK
    obtain ⟨⟨old, he⟩, hit, hne⟩ := st
    obtain ⟨xs, x, hq, hx⟩ := hg
    obtain ⟨its, rv, p, hz⟩ := I.tuple hq
    obtain ⟨u, hu, ru⟩ := rv.get hx
    have hel : e < s.heap.objs.size := Heap.lt_size he
    have hil : it < s.heap.objs.size := by obtain ⟨_, q, _⟩ := hit; exact Heap.lt_size q
    have tne : ∀ b, b = e ∨ b = it → b ≠ a := fun b hb z => by
      obtain ⟨o, ho, hcl, _⟩ := p
      rcases hb with q | q
      · rw [← z, q, he] at ho; cases ho; exact absurd hcl (by simp)
      · obtain ⟨o2, ho2, hc2, _⟩ := hit
        rw [← z, q, ho2] at ho; cases ho; rw [hc2] at hcl; exact absurd hcl (by simp)
    have li : i < its.toArray.size := by
      have := (List.getElem?_eq_some_iff.mp hu).1
      simpa using this
    refine wpAny_pyNext_enum_itemD (Draws.tuple (A := X.A.in1) (I.ok.hd hc) it a (Ne.symm (tne it (.inr rfl))) its.toArray) he ⟨hit, p⟩ li hne (by simp [hne, tne e (.inl rfl)]) fun u' h' tk hu' ho hst hT hsz hk => ?_
    have e3 : u' = u := by
      have q : its.toArray[i]? = some u' := hu'
      have q2 : its[i]? = some u' := by simpa using q
      rw [hu] at q2
      exact (Option.some.inj q2).symm
    subst e3
    refine ⟨_, rfl, wpAny_letOwnedTupleGo_enum (s := { s with heap := h', toks := tk + 1 }) ho fun h'' he' sb => ?_⟩
    have hT2 : h''.get? s.heap.objs.size = some { cls := .type "tuple", data := .seq #[.int i tk, u'] } := (sb.2 _ (Nat.ne_of_gt hel)).trans hT
    have new : ObjOk X.prog X.w (upd H s.heap.objs.size (.tup [.int (i : Nat), x])) h'' s.heap.objs.size (.tup [.int (i : Nat), x]) :=
      ⟨by show 2 ≤ sizeLine; decide, [.int i tk, u'], .cons ⟨_, rfl⟩ (.cons ru .nil), ⟨_, hT2, rfl, _, rfl⟩⟩
    have I1 : Inv X pins σ (upd H s.heap.objs.size (.tup [.int (i : Nat), x])) { s with heap := h'', toks := tk + 1 } :=
      I.turnedNew (ch := [e, it]) (fun b ob hb q => (sb.2 b (fun z => hb (by simp [z]))).trans (hk b ob (fun z => hb (by simp [z])) (fun z => hb (by simp [z])) q)) hf (Nat.le_refl _) new
    refine ⟨.ref s.heap.objs.size, _, I1, rfl, ⟨_, x, rfl, I.hok.fresh (Nat.le_refl _), rfl, fun ys hy => by rw [I.tuple_inj hy hq]; exact hx⟩, ⟨⟨u', ?_⟩, hst.1.at fun o q => (sb.2 it (Ne.symm hne)).trans q, hne⟩, fun b hb => ?_⟩
    · have e1 : ((i + 1 : Nat) : Int) = (i : Int) + 1 := by omega
      rw [e1]; exact he'
    · have hb' : b < s.heap.objs.size := by
        have e' : b = e ∨ b = it := by simpa using hb
        rcases e' with z | z
        · rw [z]; exact hel
        · rw [z]; exact hil
      rw [upd_ne (Nat.ne_of_lt hb')]
      exact (hf b hb).1
  done := by
    intro X hP hw hK hc i pins s σ H E I hf st hg
    subst hP hw hK
    obtain ⟨⟨old, he⟩, hit, hne⟩ := st
    obtain ⟨xs, hq, hx⟩ := hg
    obtain ⟨its, rv, p, hz⟩ := I.tuple hq
    obtain ⟨f0, f1, f2, f3, f4, f5⟩ := hf it (by simp)
    have tne : it ≠ a := fun z => by
      obtain ⟨o, ho, hcl, _⟩ := p
      obtain ⟨o2, ho2, hc2, _⟩ := hit
      rw [← z, ho2] at ho; cases ho; rw [hc2] at hcl; exact absurd hcl (by simp)
    have hl := rv.length
    have hi : its.toArray.size = i := by simp; omega
    exact wpAny_pyNext_enum_endD (Draws.tuple (A := X.A.in1) (I.ok.hd hc) it a (Ne.symm tne) its.toArray) he ⟨hi ▸ hit, p⟩ fun h' eb => ⟨rfl, I.turned (t' := s.toks) (fun b o hb q => eb b o hb q) f0 f1 f3 f4 f5⟩
  self := fun A i s Q E st h => let ⟨⟨_, he⟩, _⟩ := st; wpAny_pyIter_enum he h
def iEnumA (K : PySem.W.Frag) (ta : TA) : TI := fun σ H R => ta σ H fun vs H1 => ∃ a xs, vs = [.ref a] ∧ ((SqL K H1 a xs ∧ R (Ite K a) H1) ∨ (SqT K H1 a xs ∧ R (IteT K a) H1))
theorem pi_enumA {X : Cx} {e : Expr} {ta : TA} {p pos tpos : Pos} {elts : List Expr} {kk : Nat} (hg : Gl X "enumerate") (hm : X.mg "enumerate" = none) (ha : PA X [e] ta) (hs : starEach [e] X.env = [(false, eval e X.env)] := by rfl) :
    PI X (.Tuple elts kk tpos) (.Call (.Name "enumerate" p) [e] [] pos) (iEnumA X.K ta) := by
  refine ⟨fun pins s σ H R I h => ?_⟩
  refine Call_ (ld_blt I hg hm boot_enumerate (PyProof.Rows.callWith_type1 (thn (ha.run pos pins s σ H _ I h) fun us s1 ⟨vs, H1, I1, r1, q1⟩ => ?_) hs rfl))
  obtain ⟨a, xs, ex, q⟩ := q1
  subst ex
  cases r1 with
  | cons r rr =>
    cases rr
    cases r
    have fr : ∀ b ∈ [s1.heap.objs.size + 1, s1.heap.objs.size], FpOk X pins H1 b := fun b hb => by
      have e' : b = s1.heap.objs.size + 1 ∨ b = s1.heap.objs.size := by simpa using hb
      have hle : s1.heap.objs.size ≤ b := by
        rcases e' with z | z
        · rw [z]; exact Nat.le_succ _
        · rw [z]; exact Nat.le_refl _
      exact I1.fpOk hle (I1.hok.fresh hle)
    rcases q with ⟨hq, q⟩ | ⟨hq, q⟩
    · obtain ⟨its, rv, p', hz⟩ := I1.list hq
      refine call_enumerate_list p'.isList fun h' he hit hsz hk => wpAny_pyIter_enum he ?_
      have I2 : Inv X pins σ H1 { s1 with heap := h' } := I1.kept (t' := s1.toks) hk
      exact ⟨s1.heap.objs.size + 1, [s1.heap.objs.size + 1, s1.heap.objs.size], _, _, H1, rfl, I2, turn_enum a (s1.heap.objs.size + 1) s1.heap.objs.size, ⟨⟨.none, he⟩, hit, Nat.succ_ne_self _⟩, fr, q⟩
    · obtain ⟨its, rv, p', hz⟩ := I1.tuple hq
      refine call_enum_tup (show s1.heap.IsTuple a its.toArray from p') fun h' he hit hk => wpAny_pyIter_enum he ?_
      have I2 : Inv X pins σ H1 { s1 with heap := h' } := I1.kept (t' := s1.toks) hk
      exact ⟨s1.heap.objs.size + 1, [s1.heap.objs.size + 1, s1.heap.objs.size], _, _, H1, rfl, I2, turn_enumT a (s1.heap.objs.size + 1) s1.heap.objs.size, ⟨⟨.none, he⟩, hit, Nat.succ_ne_self _⟩, fr, q⟩
def enumD : Nat → List D → List D
  | _, [] => []
  | k, d :: r => .tup [.int (k : Nat), d] :: enumD (k + 1) r
theorem enumD_length : ∀ (ds : List D) (k : Nat), (enumD k ds).length = ds.length
  | [], _ => rfl
  | d :: r, k => by unfold enumD; rw [List.length_cons, List.length_cons, enumD_length r]
theorem enumD_get : ∀ (ds : List D) (k i : Nat) {d : D}, ds[i]? = some d → (enumD k ds)[i]? = some (.tup [.int ((k + i : Nat) : Int), d])
  | [], _, _, _, h => by simp at h
  | d :: r, k, 0, _, h => by simp at h; subst h; rfl
  | d :: r, k, i + 1, x, h => by
    unfold enumD
    rw [List.getElem?_cons_succ, enumD_get r (k + 1) i (by simpa using h)]
    have e : k + 1 + i = k + (i + 1) := by omega
    rw [e]
theorem itw_pair {J : It} {F : Hp} {n : Nat} {ds : List D} {ys : Nat → List V} {es : Nat → List D} (hn : ds.length = n) (hd : ∀ i, i < n → ds[i]? = some (.tup (es i))) (hr : ∀ i, i < n → Reps K mg F (ys i) (es i))
    (hg : ∀ i H, i < n → Sub F H → J.go i H) (hs : ∀ H, Sub F H → J.stop n H) (hy : ∀ i H v H', i < n → Sub F H → J.yld i H v H' → ∃ T, v = .ref T ∧ H T = none ∧ H' = upd H T (.tup (ys i))) : ItW K mg J F ds where
  go := fun i H hi s => hg i H (hn ▸ hi) s
  stop := fun H s => hn ▸ hs H s
  yld := fun i H x H' hi s h F2 ρ M s2 R => by
    obtain ⟨T, rfl, hT, rfl⟩ := hy i H x H' (hn ▸ hi) s h
    obtain ⟨y1, y2, y3⟩ := R.tup hT (Reps.mono s2 (hr i (hn ▸ hi)))
    exact ⟨_, _, hd i (hn ▸ hi), y1, y2, y3⟩
theorem itw_enum {a : Addr} {F : Hp} {xs : List V} {ds : List D} (h : SqL K F a xs) (r : Reps K mg F xs ds) : ItW K mg (Ite K a) F (enumD 0 ds) := by
  have l := r.length
  refine itw_pair (n := ds.length) (ys := fun i => [.int (i : Nat), xs[i]?.getD .non]) (es := fun i => [.int (i : Nat), ds[i]?.getD .non]) (enumD_length ds 0) (fun i hi => ?_) (fun i hi => ?_) (fun i H hi s => ?_) (fun H s => ⟨xs, SqL.mono s h, by omega⟩) (fun i H v H' hi s hy => ?_)
  · rw [List.getElem?_eq_getElem hi, enumD_get ds 0 i (List.getElem?_eq_getElem hi)]
    simp
  · obtain ⟨x, h1, h2⟩ := r.get (List.getElem?_eq_getElem hi)
    rw [h1, List.getElem?_eq_getElem hi]
    exact .cons (.int _) (.cons h2 .nil)
  · obtain ⟨x, h1, h2⟩ := r.get (List.getElem?_eq_getElem hi)
    exact ⟨xs, x, SqL.mono s h, h1⟩
  · obtain ⟨T, x, h1, h2, h3, h4⟩ := hy
    refine ⟨T, h1, h2, ?_⟩
    rw [h4 xs (SqL.mono s h)]
    exact h3
theorem itw_enumT {a : Addr} {F : Hp} {xs : List V} {ds : List D} (h : SqT K F a xs) (r : Reps K mg F xs ds) : ItW K mg (IteT K a) F (enumD 0 ds) := by
  have l := r.length
  refine itw_pair (n := ds.length) (ys := fun i => [.int (i : Nat), xs[i]?.getD .non]) (es := fun i => [.int (i : Nat), ds[i]?.getD .non]) (enumD_length ds 0) (fun i hi => ?_) (fun i hi => ?_) (fun i H hi s => ?_) (fun H s => ⟨xs, SqT.mono s h, l⟩) (fun i H v H' hi s hy => ?_)
  · rw [List.getElem?_eq_getElem hi, enumD_get ds 0 i (List.getElem?_eq_getElem hi)]
    simp
  · obtain ⟨x, h1, h2⟩ := r.get (List.getElem?_eq_getElem hi)
    rw [h1, List.getElem?_eq_getElem hi]
    exact .cons (.int _) (.cons h2 .nil)
  · obtain ⟨x, h1, h2⟩ := r.get (List.getElem?_eq_getElem hi)
    exact ⟨xs, x, SqT.mono s h, h1⟩
  · obtain ⟨T, x, h1, h2, h3, h4⟩ := hy
    refine ⟨T, h1, h2, ?_⟩
    rw [h4 xs (SqT.mono s h)]
    exact h3
def iEn : List W → Option (List D)
  | [.d (.lst ds)] => some (enumD 0 ds)
  | [.d (.tup ds)] => some (enumD 0 ds)
  | _ => none
def lIt (g : List W → Option (List D)) (ga : DA) : DL := fun env M => (ga env M).bind fun ws M1 => match g ws with | some ds => .ok ds M1 | none => .bad
theorem pi_en {elts : List Expr} {kk : Nat} {tpos : Pos} (i : Nat) (hi : C.blt[i]? = some "enumerate") (hg : glB C.sc "enumerate" = true) (ha : PDA C [a] ga) (hs : ∀ env, starEach [a] env = [(false, eval a env)] := by intro _; rfl) :
    PDI C (.Tuple elts kk tpos) (.Call (.Name "enumerate" p) [a] [] pos) (lIt iEn ga) := by
  refine ⟨fun X Wx G tk => ?_⟩
  obtain ⟨g1, g2, g3⟩ := glB_gl (X := X) (x := "enumerate") (by rw [G.sc]; exact hg)
  refine PI_imp (pi_enumA g1 (G.blt i _ hi) (ha.run X Wx G tk) (hs _)) fun σ H Q ⟨F, ρ, M, env, R, S, p⟩ => ?_
  refine ⟨F, ρ, M, env, R, S, (RPost.seq p).imp fun vs H1 ⟨F1, ρ1, M1, ws, x1, R1, r1, p1⟩ => ?_⟩
  match ws, p1 with
  | [.d (.lst ds)], p1 =>
    cases r1 with
    | cons h t =>
      cases t
      cases h with
      | lst h1 q1 => exact ⟨_, _, rfl, .inl ⟨SqL.mono R1.sub h1, p1 F1 ρ1 H1 _ .refl R1 (itw_enum h1 q1)⟩⟩
  | [.d (.tup ds)], p1 =>
    cases r1 with
    | cons h t =>
      cases t
      cases h with
      | tup h1 q1 => exact ⟨_, _, rfl, .inr ⟨SqT.mono R1.sub h1, p1 F1 ρ1 H1 _ .refl R1 (itw_enumT h1 q1)⟩⟩
def zipD : List D → List D → List D
  | d :: r, e :: s => .tup [d, e] :: zipD r s
  | _, _ => []
theorem zipD_length : ∀ (ds es : List D), (zipD ds es).length = min ds.length es.length
  | [], _ => by simp [zipD]
  | _ :: _, [] => by simp [zipD]
  | d :: r, e :: s => by simp [zipD, zipD_length r s]
theorem zipD_get : ∀ (ds es : List D) (i : Nat) {d e : D}, ds[i]? = some d → es[i]? = some e → (zipD ds es)[i]? = some (.tup [d, e])
  | [], _, _, _, _, h, _ => by simp at h
  | _ :: _, [], _, _, _, _, h => by simp at h
  | d :: r, e :: s, 0, _, _, h, h' => by simp at h h'; subst h; subst h'; rfl
  | d :: r, e :: s, i + 1, _, _, h, h' => by
    unfold zipD
    rw [List.getElem?_cons_succ]
    exact zipD_get r s i (by simpa using h) (by simpa using h')
theorem itw_zip {a b : Addr} {F : Hp} {xs ys : List V} {ds es : List D} (h : SqL K F a xs) (r : Reps K mg F xs ds) (h' : SqL K F b ys) (r' : Reps K mg F ys es) : ItW K mg (Itz K a b) F (zipD ds es) := by
  have l := r.length
  have l' := r'.length
  refine itw_pair (n := min ds.length es.length) (ys := fun i => [xs[i]?.getD .non, ys[i]?.getD .non]) (es := fun i => [ds[i]?.getD .non, es[i]?.getD .non]) (zipD_length ds es) (fun i hi => ?_) (fun i hi => ?_) (fun i H hi s => ?_) (fun H s => ⟨xs, ys, SqL.mono s h, SqL.mono s h', by omega⟩) (fun i H v H' hi s hy => ?_)
  · have h1 : i < ds.length := by omega
    have h2 : i < es.length := by omega
    rw [zipD_get ds es i (List.getElem?_eq_getElem h1) (List.getElem?_eq_getElem h2), List.getElem?_eq_getElem h1, List.getElem?_eq_getElem h2]
    rfl
  · have h1 : i < ds.length := by omega
    have h2 : i < es.length := by omega
    obtain ⟨x, e1, q1⟩ := r.get (List.getElem?_eq_getElem h1)
    obtain ⟨y, e2, q2⟩ := r'.get (List.getElem?_eq_getElem h2)
    rw [e1, e2, List.getElem?_eq_getElem h1, List.getElem?_eq_getElem h2]
    exact .cons q1 (.cons q2 .nil)
  · have h1 : i < ds.length := by omega
    have h2 : i < es.length := by omega
    obtain ⟨x, e1, q1⟩ := r.get (List.getElem?_eq_getElem h1)
    obtain ⟨y, e2, q2⟩ := r'.get (List.getElem?_eq_getElem h2)
    exact ⟨xs, ys, x, y, SqL.mono s h, SqL.mono s h', e1, e2⟩
  · obtain ⟨T, x, y, h1, h2, h3, h4, h5⟩ := hy
    refine ⟨T, h1, h2, ?_⟩
    rw [h4 xs (SqL.mono s h), h5 ys (SqL.mono s h')]
    exact h3
theorem itw_zipT {a b : Addr} {F : Hp} {xs ys : List V} {ds es : List D} (h : SqT K F a xs) (r : Reps K mg F xs ds) (h' : SqT K F b ys) (r' : Reps K mg F ys es) : ItW K mg (RZ.ItzT K a b) F (zipD ds es) := by
  have l := r.length
  have l' := r'.length
  refine itw_pair (n := min ds.length es.length) (ys := fun i => [xs[i]?.getD .non, ys[i]?.getD .non]) (es := fun i => [ds[i]?.getD .non, es[i]?.getD .non]) (zipD_length ds es) (fun i hi => ?_) (fun i hi => ?_) (fun i H hi s => ?_) (fun H s => ⟨xs, ys, SqT.mono s h, SqT.mono s h', by omega⟩) (fun i H v H' hi s hy => ?_)
  · have h1 : i < ds.length := by omega
    have h2 : i < es.length := by omega
    rw [zipD_get ds es i (List.getElem?_eq_getElem h1) (List.getElem?_eq_getElem h2), List.getElem?_eq_getElem h1, List.getElem?_eq_getElem h2]
    rfl
  · have h1 : i < ds.length := by omega
    have h2 : i < es.length := by omega
    obtain ⟨x, e1, q1⟩ := r.get (List.getElem?_eq_getElem h1)
    obtain ⟨y, e2, q2⟩ := r'.get (List.getElem?_eq_getElem h2)
    rw [e1, e2, List.getElem?_eq_getElem h1, List.getElem?_eq_getElem h2]
    exact .cons q1 (.cons q2 .nil)
  · have h1 : i < ds.length := by omega
    have h2 : i < es.length := by omega
    obtain ⟨x, e1, q1⟩ := r.get (List.getElem?_eq_getElem h1)
    obtain ⟨y, e2, q2⟩ := r'.get (List.getElem?_eq_getElem h2)
    exact ⟨xs, ys, x, y, SqT.mono s h, SqT.mono s h', e1, e2⟩
  · obtain ⟨T, x, y, h1, h2, h3, h4, h5⟩ := hy
    refine ⟨T, h1, h2, ?_⟩
    rw [h4 xs (SqT.mono s h), h5 ys (SqT.mono s h')]
    exact h3
def iZp : List W → Option (List D)
  | [.d (.lst ds), .d (.lst es)] => some (zipD ds es)
  | [.d (.tup ds), .d (.tup es)] => some (zipD ds es)
  | _ => none
theorem pi_zp {elts : List Expr} {kk : Nat} {tpos : Pos} (i : Nat) (hi : C.blt[i]? = some "zip") (hg : glB C.sc "zip" = true) (ha : PDA C [a, b] ga) (hs : ∀ env, starEach [a, b] env = (false, eval a env) :: starEach [b] env := by intro _; rfl) (hpl : ∀ env, (backTo pos (starEach [b] env)).any (·.1) = false := by intro _; rfl) :
    PDI C (.Tuple elts kk tpos) (.Call (.Name "zip" p) [a, b] [] pos) (lIt iZp ga) := by
  refine ⟨fun X Wx G tk => ?_⟩
  obtain ⟨g1, g2, g3⟩ := glB_gl (X := X) (x := "zip") (by rw [G.sc]; exact hg)
  refine PI_imp (RZ.pi_zipA g1 (G.blt i _ hi) (ha.run X Wx G tk) (hs _) (hpl _)) fun σ H Q ⟨F, ρ, M, env, R, S, p⟩ => ?_
  refine ⟨F, ρ, M, env, R, S, (RPost.seq p).imp fun vs H1 ⟨F1, ρ1, M1, ws, x1, R1, r1, p1⟩ => ?_⟩
  match ws, p1 with
  | [.d (.lst ds), .d (.lst es)], p1 =>
    cases r1 with
    | cons h t =>
      cases t with
      | cons h' t =>
        cases t
        cases h with
        | lst h1 q1 =>
          cases h' with
          | lst h2 q2 => exact ⟨_, _, _, _, rfl, .inl ⟨SqL.mono R1.sub h1, SqL.mono R1.sub h2, p1 F1 ρ1 H1 _ .refl R1 (itw_zip h1 q1 h2 q2)⟩⟩
  | [.d (.tup ds), .d (.tup es)], p1 =>
    cases r1 with
    | cons h t =>
      cases t with
      | cons h' t =>
        cases t
        cases h with
        | tup h1 q1 =>
          cases h' with
          | tup h2 q2 => exact ⟨_, _, _, _, rfl, .inr ⟨SqT.mono R1.sub h1, SqT.mono R1.sub h2, p1 F1 ρ1 H1 _ .refl R1 (itw_zipT h1 q1 h2 q2)⟩⟩
end
end PD
namespace PD
open PySem PySem.Spec PyProof.Rows L2
variable {K : PySem.W.Frag} {mg : MG}
/-! ### a list comprehension -/
def wipeE (env : Ev) : List Nat → Ev
  | [] => env
  | v :: vs => (wipeE env vs).set v none
theorem RepS.none {F : Hp} {ρ : List Addr} {σ : St} {env : Ev} (h : RepS K mg F ρ σ env) (i : Nat) : RepS K mg F ρ (σ.set i none) (env.set i none) := by
  refine ⟨by rw [List.length_set, List.length_set, h.1], fun j u e => ?_⟩
  by_cases hj : i = j
  · subst hj
    have hl : i < env.length := by
      have := (List.getElem?_eq_some_iff.mp e).1
      rwa [List.length_set] at this
    rw [List.getElem?_set_self hl] at e
    cases e
  · rw [List.getElem?_set_ne hj] at e
    obtain ⟨x, a, b⟩ := h.2 j u e
    exact ⟨x, by rw [List.getElem?_set_ne hj]; exact a, b⟩
theorem RepS.wipe {F : Hp} {ρ : List Addr} {σ : St} {env : Ev} (h : RepS K mg F ρ σ env) : ∀ vs, RepS K mg F ρ (wipe σ vs) (wipeE env vs)
  | [] => h
  | v :: vs => (RepS.wipe h vs).none v
theorem wipe_in {σ : St} {i : Nat} : ∀ {vs : List Nat}, i ∈ vs → i < σ.length → (wipe σ vs)[i]? = some none
  | v :: vs, h, hl => by
    unfold L2.wipe
    by_cases e : v = i
    · subst e; rw [List.getElem?_set_self (by rw [wipe_length]; exact hl)]
    · rw [List.getElem?_set_ne e]
      rcases List.mem_cons.mp h with q | q
      · exact absurd q.symm e
      · exact wipe_in q hl
theorem wipe_agree {σ σ2 : St} {vs : List Nat} (a : Agree vs (wipe σ vs) σ2) : wipe σ2 vs = wipe σ vs := by
  have hl : σ2.length = σ.length := by rw [a.1, wipe_length]
  apply List.ext_getElem?
  intro i
  by_cases h : i ∈ vs
  · by_cases hi : i < σ.length
    · rw [wipe_in h (by omega), wipe_in h hi]
    · rw [List.getElem?_eq_none (by rw [wipe_length]; omega), List.getElem?_eq_none (by rw [wipe_length]; omega)]
  · rw [wipe_out h]
    exact a.2 i h
def compL (env0 : Ev) (g : DG) (ft : DT) (fe : DE) : List D → Store → Res (List D)
  | [], M => .ok [] M
  | d :: r, M => match g (.d d) env0 M with
    | none => .bad
    | some p => match ft p.1 p.2 with
      | .ok true M2 => match fe p.1 M2 with
        | .ok (.d y) M3 => (compL env0 g ft fe r M3).bind fun ys M4 => .ok (y :: ys) M4
        | _ => .bad
      | .ok false M2 => compL env0 g ft fe r M2
      | _ => .bad
def lComp (fi : DL) (vs : List Nat) (g : DG) (ft : DT) (fe : DE) : DL := fun env M => (fi env M).bind fun ds M1 => if ds.length ≤ LIM then compL (wipeE env vs) g ft fe ds M1 else .bad
def tTrue : DT := fun _ M => .ok true M
/-- what stands alone stays alone -/
theorem Ext.keep {F F' : Hp} {ρ ρ' : List Addr} {H H' : Hp} (x : Ext F ρ H F' ρ' H') {a : Addr} {o : HO} (h1 : F a = none) (h2 : a ∉ ρ) (h3 : H a = some o) : F' a = none ∧ a ∉ ρ' ∧ H' a = some o := by
  refine ⟨?_, fun m => ?_, x.frame a o h3 h2⟩
  · cases e : F' a with
    | none => rfl
    | some u =>
      rcases x.newF a u e with z | z | z
      · rw [h1] at z; cases z
      · rw [h3] at z; cases z
      · exact absurd z h2
  · rcases x.newR a m with z | z
    · exact h2 z
    · rw [h3] at z; cases z
theorem Ext.write {F F' : Hp} {ρ ρ' : List Addr} {H H' : Hp} (x : Ext F ρ H F' ρ' H') {a : Addr} (h : H a = none) (o : HO) : Ext F ρ H F' ρ' (upd H' a o) :=
  ⟨x.sub, x.pre, fun b u e n => by rw [upd_ne (ne_of_none e h)]; exact x.frame b u e n, fun b e => by
    by_cases hb : b = a
    · subst hb; rw [upd_same]; simp
    · rw [upd_ne hb]; exact x.there b e, x.newF, x.newR⟩
abbrev wX : L2.WX := fun _ _ _ _ => False
/-- the reading of a comprehension's block, by plain functions -/
theorem comp_read {X : Cx} {Wx : L2.WX} {fi : DL} {vs sl : List Nat} {g : DG} {ft : DT} {fe : DE} {σ : St} {H : Hp} {Q : VK} (hsl : ∀ i ∈ sl, i ∈ vs) (h : rdG X.K X.mg (repL X.K X.mg) Wx (lComp fi vs g ft fe) σ H Q) :
    tLc (rdG X.K X.mg (repI X.K X.mg) Wx fi) (rdT X.K X.mg sl g) (rdG X.K X.mg repB wX ft) (rdG X.K X.mg (repW X.K X.mg) wX fe) vs σ H Q := by
  obtain ⟨F, ρ, M, env, R, S, p⟩ := h
  refine ⟨F, ρ, M, env, R, S, (RPost.seq p).imp fun J H1 ⟨F1, ρ1, M1, ds, x1, R1, itw, p1⟩ => ?_⟩
  split at p1
  · rename_i hlim
    intro Dd hD
    have S1 := (S.ext x1).wipe vs
    refine ⟨fun i m Hc => m = ds.length - i ∧ i ≤ ds.length ∧ ∃ F' ρ' M' acc accD, Ext F1 ρ1 H1 F' ρ' Hc ∧ Rel X.K X.mg F' ρ' M' Hc ∧ F' Dd = none ∧ Dd ∉ ρ' ∧ Hc Dd = some (.lst acc) ∧ Reps X.K X.mg F' acc accD ∧ accD.length ≤ i ∧
      (compL (wipeE env vs) g ft fe (ds.drop i) M').bind (fun ys M4 => .ok (accD ++ ys) M4) = compL (wipeE env vs) g ft fe ds M1, ⟨ds.length, rfl, Nat.zero_le _, F1, ρ1, M1, [], [], R1.extH hD _, R1.newH hD _, (R1.fresh hD).1, (R1.fresh hD).2, upd_same, .nil, Nat.le_refl _, ?_⟩, ?_⟩
    · rw [List.drop_zero]
      cases compL (wipeE env vs) g ft fe ds M1 <;> rfl
    · rintro i m Hc ⟨rfl, hi, F', ρ', M', acc, accD, xE, R', f1, f2, f3, rA, lA, eq⟩
      by_cases hlt : i < ds.length
      · refine .inr ⟨itw.go i Hc hlt (xE.sub.trans R'.sub), fun Hn => ds.length - (i + 1) < ds.length - i ∧ ∃ m', m' = ds.length - (i + 1) ∧ i + 1 ≤ ds.length ∧ ∃ F' ρ' M' acc accD, Ext F1 ρ1 H1 F' ρ' Hn ∧ Rel X.K X.mg F' ρ' M' Hn ∧ F' Dd = none ∧ Dd ∉ ρ' ∧ Hn Dd = some (.lst acc) ∧ Reps X.K X.mg F' acc accD ∧ accD.length ≤ i + 1 ∧
          (compL (wipeE env vs) g ft fe (ds.drop (i + 1)) M').bind (fun ys M4 => .ok (accD ++ ys) M4) = compL (wipeE env vs) g ft fe ds M1, fun Hn ⟨l, m', e, r⟩ => ⟨m', by omega, e, r⟩, fun x H' hy => ?_⟩
        obtain ⟨F3, d, hd, x3, R3, rd⟩ := itw.yld i Hc x H' hlt (xE.sub.trans R'.sub) hy F' ρ' M' xE.sub R'
        obtain ⟨g1, g2, g3⟩ := x3.keep f1 f2 f3
        have edrop : ds.drop i = d :: ds.drop (i + 1) := by
          rw [List.drop_eq_getElem_cons hlt]
          rw [List.getElem?_eq_getElem hlt] at hd
          rw [Option.some.inj hd]
        rw [edrop] at eq
        have S3 : RepS X.K X.mg F3 ρ' (wipe σ vs) (wipeE env vs) := (S1.mono (xE.sub.trans x3.sub) xE.pre)
        refine ⟨F3, ρ', M', wipeE env vs, .d d, R3, S3, rd, ?_⟩
        cases eg : g (.d d) (wipeE env vs) M' with
        | none =>
          simp only [compL, eg] at eq
          rw [← eq] at p1
          exact p1.elim
        | some pr =>
          obtain ⟨env1, M1'⟩ := pr
          simp only [compL, eg] at eq
          intro F4 ρ4 σ4 H4 x4 R4 S4 ag
          obtain ⟨k1, k2, k3⟩ := x4.keep g1 g2 g3
          refine ⟨wipe_agree (ag.mono hsl), ?_⟩
          refine ⟨F4, ρ4, M1', env1, R4, S4, ?_⟩
          cases et : ft env1 M1' with
          | bad => simp only [et] at eq; rw [← eq] at p1; exact p1.elim
          | err x' M'' => simp only [et] at eq; rw [← eq] at p1; exact p1.elim
          | ok b M2 =>
            simp only [et] at eq
            intro F5 ρ5 H5 b' x5 R5 hb
            have hb' : b' = b := hb
            subst hb'
            obtain ⟨q1, q2, q3⟩ := x5.keep k1 k2 k3
            have xx := ((xE.trans x3).trans x4).trans x5
            cases b' with
            | false =>
              simp only [if_false, Bool.false_eq_true]
              exact ⟨by omega, _, rfl, by omega, F5, ρ5, M2, acc, accD, xx, R5, q1, q2, q3, Reps.mono ((x3.trans x4).trans x5).sub rA, by omega, eq⟩
            | true =>
              simp only [if_true]
              refine ⟨F5, ρ5, M2, env1, R5, S4.ext x5, ?_⟩
              simp only at eq
              cases ee : fe env1 M2 with
              | bad => simp only [ee] at eq; rw [← eq] at p1; exact p1.elim
              | err x' M'' => simp only [ee] at eq; rw [← eq] at p1; exact p1.elim
              | ok w M3 =>
                cases w with
                | mt j => simp only [ee] at eq; rw [← eq] at p1; exact p1.elim
                | d y =>
                  simp only [ee] at eq
                  intro F6 ρ6 H6 v x6 R6 rv
                  obtain ⟨z1, z2, z3⟩ := x6.keep q1 q2 q3
                  have rA' := Reps.mono (((x3.trans x4).trans x5).trans x6).sub rA
                  have lA' := rA'.length
                  refine ⟨acc, z3, ?_, ?_⟩
                  · rw [← lim_line]; omega
                  · refine ⟨by omega, _, rfl, by omega, F6, ρ6, M3, acc ++ [v], accD ++ [y], (xx.trans x6).write hD _, R6.writeH z1 z2 _, z1, z2, upd_same, Reps.append rA' (.cons rv .nil), by simp; omega, ?_⟩
                    rw [← eq]
                    cases compL (wipeE env vs) g ft fe (ds.drop (i + 1)) M3 with
                    | ok ys M4 => simp
                    | err _ _ => rfl
                    | bad => rfl
      · have ei : i = ds.length := by omega
        subst ei
        refine .inl ⟨itw.stop Hc (xE.sub.trans R'.sub), ?_⟩
        rw [List.drop_length] at eq
        simp only [compL, Res.bind_ok, List.append_nil] at eq
        rw [← eq] at p1
        exact p1 F' ρ' Hc _ xE R' ⟨Dd, acc, rfl, hD, f1, f2, f3, rA⟩
  · exact p1.elim
/-- the context of a comprehension's block -/
def Ctx.blk (C : Ctx) (scope : Scope) : Ctx := { C with sc := relS scope C.sc, fnc := fun x => scope.names.lookup x == some .cell, top := false }
theorem Good.blk {C : Ctx} {X : Cx} (G : Good C X) (s : Shared) (H : Hp) (scope : Scope) (c : Addr) (cl : List (Str × Addr)) (fp : List Addr) : Good (C.blk scope) (X.blk s H scope (compEnvC scope cl c X.env) fp) where
  N := G.N
  nd := G.nd
  sc := by
    show relS scope X.env.scope = relS scope C.sc
    rw [G.sc]
  fnc := rfl
  calm := G.calm
  room := G.room
  pown := PassesOwn.never
  fns := fun i x ps R h => ⟨(G.fns i x ps R h).ex⟩
  cns := G.cns
  blt := G.blt
  hof := fun x ps R h => ⟨(G.hof x ps R h).ex⟩
  exs := G.exs
  top := fun h => nomatch h
  bfn := G.bfn
structure PDTs (C : Ctx) (ifs : List Expr) (f : DT) : Prop where
  run : ∀ X Wx, Good C X → Takes X Wx → PTs X ifs (rdG X.K X.mg repB Wx f)
theorem PTs_imp {X : Cx} {e : List Expr} {t t' : TT} (h : PTs X e t) (i : ∀ σ H Q, t' σ H Q → t σ H Q) : PTs X e t' := ⟨fun pins s σ H Q I q => h.run pins s σ H Q I (i σ H Q q)⟩
theorem pts_nil {C : Ctx} : PDTs C [] tTrue := ⟨fun X Wx G tk => PTs_imp L2.pts_nil fun σ H Q ⟨F, ρ, M, env, R, S, p⟩ => p F ρ H true .refl R rfl⟩
theorem pts_one {C : Ctx} {c : Expr} {f : DT} (h : PDT C c f) : PDTs C [c] f := ⟨fun X Wx G tk => L2.pts_one (h.run X Wx G tk)⟩
theorem pl_comp {C : Ctx} {elt tg iter : Expr} {ifs : List Expr} {scope : Scope} {pos : Pos} {own : List (Str × Nat)} {fi : DL} {sl : List Nat} {g : DG} {ft : DT} {fe : DE} (hi : PDI C tg iter fi) (ok : blkC C.N C.sc scope own = true) (hg : PDG (C.blk scope) tg sl g) (hsl : (sl.all fun i => (own.map (·.2)).contains i) = true)
    (ht : PDTs (C.blk scope) ifs ft) (he : PDE (C.blk scope) elt fe) (hs : ∀ env x, foldedSetIterable iter env x = pure x := by intro _ _; rfl) :
    PDL C (.ListComp elt [⟨tg, iter, ifs, 0⟩] scope pos) (lComp fi (own.map (·.2)) g ft fe) := by
  refine ⟨fun X Wx G tk => ?_⟩
  have hsl' : ∀ i ∈ sl, i ∈ own.map (·.2) := fun i hi => by
    have := List.all_eq_true.mp hsl i hi
    simpa using this
  refine PE_imp (pe_lc (own := own) (g := rdT X.K X.mg sl g) (tt := rdG X.K X.mg repB wX ft) (te := rdG X.K X.mg (repW X.K X.mg) wX fe) G.calm (by rw [G.N]; exact G.nd) (hi.run X Wx G tk) (by rw [G.N, G.sc]; exact blkOk_by ok) (fun s H c cl fp => hg.run _ (G.blk s H scope c cl fp))
    (fun s H c cl fp => ht.run _ wX (G.blk s H scope c cl fp) takes_no) (fun s H c cl fp => he.run _ wX (G.blk s H scope c cl fp) takes_no) (hs _)) fun σ H Q h => comp_read hsl' h
/-! ### statements -/
inductive SRes where
  | nx (env : Ev) (M : Store)
  | ret (w : W) (M : Store)
  | bk (env : Ev) (M : Store)
  | ct (env : Ev) (M : Store)
  | err (x : Exc) (env : Ev) (M : Store)
  | bad
abbrev DS := Ev → Store → SRes
def SPost (K : PySem.W.Frag) (mg : MG) (F : Hp) (ρ : List Addr) (H : Hp) (r : SRes) (De : Ends) (Wx : L2.WX) : Prop :=
  match r with
  | .nx env' M' => ∀ F' ρ' σ' H', Ext F ρ H F' ρ' H' → Rel K mg F' ρ' M' H' → RepS K mg F' ρ' σ' env' → De.nx σ' H'
  | .bk env' M' => ∀ F' ρ' σ' H', Ext F ρ H F' ρ' H' → Rel K mg F' ρ' M' H' → RepS K mg F' ρ' σ' env' → De.bk σ' H'
  | .ct env' M' => ∀ F' ρ' σ' H', Ext F ρ H F' ρ' H' → Rel K mg F' ρ' M' H' → RepS K mg F' ρ' σ' env' → De.ct σ' H'
  | .ret w M' => ∀ F' ρ' H' v, Ext F ρ H F' ρ' H' → Rel K mg F' ρ' M' H' → RepW K mg F' ρ' v w → De.rt v H'
  | .err x env' M' => ∀ F' ρ' σ' H' c d, Ext F ρ H F' ρ' H' → Rel K mg F' ρ' M' H' → RepS K mg F' ρ' σ' env' → RepX K mg F' H' c d x → Wx c d σ' H'
  | .bad => False
theorem SPost.mono {F F' : Hp} {ρ ρ' : List Addr} {H H' : Hp} {r : SRes} {De : Ends} {Wx : L2.WX} (x : Ext F ρ H F' ρ' H') (h : SPost K mg F ρ H r De Wx) : SPost K mg F' ρ' H' r De Wx := by
  cases r with
  | nx env' M' => exact fun F2 ρ2 σ2 H2 y R S => h F2 ρ2 σ2 H2 (x.trans y) R S
  | bk env' M' => exact fun F2 ρ2 σ2 H2 y R S => h F2 ρ2 σ2 H2 (x.trans y) R S
  | ct env' M' => exact fun F2 ρ2 σ2 H2 y R S => h F2 ρ2 σ2 H2 (x.trans y) R S
  | ret w M' => exact fun F2 ρ2 H2 v y R S => h F2 ρ2 H2 v (x.trans y) R S
  | err e env' M' => exact fun F2 ρ2 σ2 H2 c d y R S q => h F2 ρ2 σ2 H2 c d (x.trans y) R S q
  | bad => exact h
def rdS (K : PySem.W.Frag) (mg : MG) (Wx : L2.WX) (f : DS) : TS := fun De σ H => ∃ F ρ M env, Rel K mg F ρ M H ∧ RepS K mg F ρ σ env ∧ SPost K mg F ρ H (f env M) De Wx
structure PDS (C : Ctx) (st : Stmt) (f : DS) : Prop where
  run : ∀ X Wx, Good C X → Takes X Wx → PS X st (rdS X.K X.mg Wx f)
structure PDB (C : Ctx) (st : List Stmt) (f : DS) : Prop where
  run : ∀ X Wx, Good C X → Takes X Wx → PSs X st (rdS X.K X.mg Wx f)
theorem PS_imp {X : Cx} {e : Stmt} {t t' : TS} (h : PS X e t) (i : ∀ D σ H, t' D σ H → t D σ H) : PS X e t' := ⟨fun pins s σ H D I q => h.run pins s σ H D I (i D σ H q)⟩
theorem PSs_imp {X : Cx} {e : List Stmt} {t t' : TS} (h : PSs X e t) (i : ∀ D σ H, t' D σ H → t D σ H) : PSs X e t' := ⟨fun pins s σ H D I q => h.run pins s σ H D I (i D σ H q)⟩
/-- an expression, then a statement's end -/
def ofR {α : Type} (r : Res α) (env : Ev) (k : α → Store → SRes) : SRes :=
  match r with
  | .ok a M => k a M
  | .err x M => .err x env M
  | .bad => .bad
@[simp] theorem ofR_ok {α : Type} (a : α) (M : Store) (env : Ev) (k : α → Store → SRes) : ofR (.ok a M) env k = k a M := rfl
@[simp] theorem ofR_err {α : Type} (x : Exc) (M : Store) (env : Ev) (k : α → Store → SRes) : ofR (.err x M : Res α) env k = .err x env M := rfl
@[simp] theorem ofR_bad {α : Type} (env : Ev) (k : α → Store → SRes) : ofR (.bad : Res α) env k = .bad := rfl
theorem SPost.seq {α β : Type} {rep : RepT β α} {F : Hp} {ρ : List Addr} {H : Hp} {r : Res α} {env : Ev} {σ : St} {k : α → Store → SRes} {De : Ends} {Wx : L2.WX} (S : RepS K mg F ρ σ env) (h : SPost K mg F ρ H (ofR r env k) De Wx) :
    RPost K mg rep Wx σ F ρ H r (fun v H' => ∃ F' ρ' M' a, Ext F ρ H F' ρ' H' ∧ Rel K mg F' ρ' M' H' ∧ rep.r H F' ρ' H' v a ∧ SPost K mg F' ρ' H' (k a M') De Wx) := by
  cases r with
  | ok a M' => exact fun F2 ρ2 H2 v y R z => ⟨F2, ρ2, M', a, y, R, z, SPost.mono y h⟩
  | err e M' => exact fun F2 ρ2 H2 c d y R q => h F2 ρ2 σ H2 c d y R (S.ext y) q
  | bad => exact h
def SRes.then (r : SRes) (k : Ev → Store → SRes) : SRes :=
  match r with
  | .nx env M => k env M
  | r => r
@[simp] theorem SRes.then_nx (env : Ev) (M : Store) (k : Ev → Store → SRes) : (SRes.nx env M).then k = k env M := rfl
@[simp] theorem SRes.then_ret (w : W) (M : Store) (k : Ev → Store → SRes) : (SRes.ret w M).then k = .ret w M := rfl
@[simp] theorem SRes.then_bk (env : Ev) (M : Store) (k : Ev → Store → SRes) : (SRes.bk env M).then k = .bk env M := rfl
@[simp] theorem SRes.then_ct (env : Ev) (M : Store) (k : Ev → Store → SRes) : (SRes.ct env M).then k = .ct env M := rfl
@[simp] theorem SRes.then_err (x : Exc) (env : Ev) (M : Store) (k : Ev → Store → SRes) : (SRes.err x env M).then k = .err x env M := rfl
@[simp] theorem SRes.then_bad (k : Ev → Store → SRes) : SRes.bad.then k = .bad := rfl
section
variable {C : Ctx} {pos : Pos} {st : Stmt} {rest a b : List Stmt} {e c tg : Expr} {f : DE} {ft : DT} {fs gs : DS} {g : DG} {sl : List Nat}
def sNil : DS := fun env M => .nx env M
def sSeq (f g : DS) : DS := fun env M => (f env M).then g
theorem pb_nil : PDB C [] sNil := ⟨fun X Wx G tk => PSs_imp L2.pss_nil fun D σ H ⟨F, ρ, M, env, R, S, p⟩ => p F ρ σ H .refl R S⟩
theorem then_post {F : Hp} {ρ : List Addr} {H : Hp} {r : SRes} {k : DS} {De : Ends} {Wx : L2.WX} (h : SPost K mg F ρ H (r.then k) De Wx) : SPost K mg F ρ H r { De with nx := rdS K mg Wx k De } Wx := by
  cases r with
  | nx env' M' => exact fun F2 ρ2 σ2 H2 y R S => ⟨F2, ρ2, M', env', R, S, SPost.mono y h⟩
  | bk env' M' => exact h
  | ct env' M' => exact h
  | ret w M' => exact h
  | err e env' M' => exact h
  | bad => exact h
theorem pb_cons (h1 : PDS C st fs) (h2 : PDB C rest gs) : PDB C (st :: rest) (sSeq fs gs) :=
  ⟨fun X Wx G tk => PSs_imp (pss_cons (h1.run X Wx G tk) (h2.run X Wx G tk)) fun D σ H ⟨F, ρ, M, env, R, S, p⟩ => ⟨F, ρ, M, env, R, S, then_post p⟩⟩
theorem pb_one (h1 : PDS C st fs) : PDB C [st] fs := ⟨fun X Wx G tk => pss_one (h1.run X Wx G tk)⟩
theorem ps_pass : PDS C (.Pass pos) sNil := ⟨fun X Wx G tk => PS_imp L2.ps_pass fun D σ H ⟨F, ρ, M, env, R, S, p⟩ => p F ρ σ H .refl R S⟩
def sBk : DS := fun env M => .bk env M
def sCt : DS := fun env M => .ct env M
theorem ps_bk : PDS C (.Break pos) sBk := ⟨fun X Wx G tk => PS_imp L2.ps_break fun D σ H ⟨F, ρ, M, env, R, S, p⟩ => p F ρ σ H .refl R S⟩
theorem ps_ct : PDS C (.Continue pos) sCt := ⟨fun X Wx G tk => PS_imp L2.ps_continue fun D σ H ⟨F, ρ, M, env, R, S, p⟩ => p F ρ σ H .refl R S⟩
def sEx (f : DE) : DS := fun env M => ofR (f env M) env fun _ M1 => .nx env M1
theorem ps_ex (he : PDE C e f) (hs : ∀ env, swapsWith e none pos.line env = pure false := by intro _; rfl) : PDS C (.Expr e pos) (sEx f) :=
  ⟨fun X Wx G tk => PS_imp (ps_expr (he.run X Wx G tk) (hs _)) fun D σ H ⟨F, ρ, M, env, R, S, p⟩ => ⟨F, ρ, M, env, R, S, (SPost.seq S p).imp fun v H1 ⟨F1, ρ1, M1, w, x1, R1, r1, p1⟩ => p1 F1 ρ1 σ H1 .refl R1 (S.ext x1)⟩⟩
def sRt (f : DE) : DS := fun env M => ofR (f env M) env fun w M1 => .ret w M1
theorem ps_rt (he : PDE C e f) : PDS C (.Return (some e) pos) (sRt f) :=
  ⟨fun X Wx G tk => PS_imp (ps_ret (he.run X Wx G tk)) fun D σ H ⟨F, ρ, M, env, R, S, p⟩ => ⟨F, ρ, M, env, R, S, (SPost.seq S p).imp fun v H1 ⟨F1, ρ1, M1, w, x1, R1, r1, p1⟩ => p1 F1 ρ1 H1 v .refl R1 r1⟩⟩
def sRtN : DS := fun _ M => .ret (.d .non) M
theorem ps_rtn : PDS C (.Return none pos) sRtN := ⟨fun X Wx G tk => PS_imp ps_retN fun D σ H ⟨F, ρ, M, env, R, S, p⟩ => p F ρ H .non .refl R Rep.non⟩
def sIf (t : DT) (f g : DS) : DS := fun env M => ofR (t env M) env fun b M1 => if b = true then f env M1 else g env M1
theorem ps_if (hc : PDT C c ft) (ha : PDB C a fs) (hb : PDB C b gs) : PDS C (.If c a b pos) (sIf ft fs gs) := by
  refine ⟨fun X Wx G tk => PS_imp (L2.ps_if (hc.run X Wx G tk) (ha.run X Wx G tk) (hb.run X Wx G tk)) fun D σ H ⟨F, ρ, M, env, R, S, p⟩ => ?_⟩
  refine ⟨F, ρ, M, env, R, S, (SPost.seq S p).imp fun v H1 ⟨F1, ρ1, M1, w, x1, R1, r1, p1⟩ => ?_⟩
  subst r1
  cases v with
  | true => exact ⟨F1, ρ1, M1, env, R1, S.ext x1, p1⟩
  | false => exact ⟨F1, ρ1, M1, env, R1, S.ext x1, p1⟩
def sAs (f : DE) (g : DG) : DS := fun env M => ofR (f env M) env fun w M1 => match g w env M1 with | some p => .nx p.1 p.2 | none => .bad
theorem as_post {X : Cx} {Wx : L2.WX} {De : Ends} {σ : St} {H : Hp} (h : rdS X.K X.mg Wx (sAs f g) De σ H) : tAsg (rdG X.K X.mg (repW X.K X.mg) Wx f) (rdT X.K X.mg sl g) De σ H := by
  obtain ⟨F, ρ, M, env, R, S, p⟩ := h
  refine ⟨F, ρ, M, env, R, S, (SPost.seq S p).imp fun v H1 ⟨F1, ρ1, M1, w, x1, R1, r1, p1⟩ => ?_⟩
  refine ⟨F1, ρ1, M1, env, w, R1, S.ext x1, r1, ?_⟩
  cases e : g w env M1 with
  | none => rw [e] at p1; exact p1.elim
  | some q => rw [e] at p1; exact fun F2 ρ2 σ2 H2 y R2 S2 _ => p1 F2 ρ2 σ2 H2 y R2 S2
theorem ps_as (he : PDE C e f) (hg : PDG C tg sl g) (hs : ∀ env, swapsWithSole [tg] e pos.line env = pure false := by intro _; rfl) (hw : ∀ env, swappedStores [tg] e env = pure none := by intro _; rfl)
    (h1 : ∀ env, (assignEach [tg] env).map (·.2) = [assign tg env] := by intro _; rfl) : PDS C (.Assign [tg] e pos) (sAs f g) :=
  ⟨fun X Wx G tk => PS_imp (ps_asg (he.run X Wx G tk) (hg.run X G) (hs _) (hw _) (h1 _)) fun D σ H h => as_post h⟩
end
/-! ### loops -/
def loopF (g : DG) (fb : DS) : List D → Ev → Store → SRes
  | [], env, M => .nx env M
  | d :: r, env, M => match g (.d d) env M with
    | none => .bad
    | some p => match fb p.1 p.2 with
      | .nx env2 M2 => loopF g fb r env2 M2
      | .ct env2 M2 => loopF g fb r env2 M2
      | .bk env2 M2 => .nx env2 M2
      | .ret w M2 => .ret w M2
      | .err x env2 M2 => .err x env2 M2
      | .bad => .bad
def sFor (fi : DL) (g : DG) (fb : DS) : DS := fun env M => ofR (fi env M) env fun ds M1 => loopF g fb ds env M1
section
variable {C : Ctx} {pos : Pos} {body : List Stmt} {c tg iter : Expr} {fi : DL} {ft : DT} {fb : DS} {g : DG} {sl : List Nat}
theorem ps_fr (hi : PDI C tg iter fi) (hg : PDG C tg sl g) (hb : PDB C body fb) (hs : ∀ env x, foldedSetIterable iter env x = pure x := by intro _ _; rfl) : PDS C (.For tg iter body [] pos) (sFor fi g fb) := by
  refine ⟨fun X Wx G tk => PS_imp (ps_for G.pown G.calm (hi.run X Wx G tk) (hg.run X G) (hb.run X Wx G tk) (hs _)) fun De σ H ⟨F, ρ, M, env, R, S, p⟩ => ?_⟩
  refine ⟨F, ρ, M, env, R, S, (SPost.seq S p).imp fun J H1 ⟨F1, ρ1, M1, ds, x1, R1, itw, p1⟩ => ?_⟩
  refine ⟨fun i m σc Hc => m = ds.length - i ∧ i ≤ ds.length ∧ ∃ F' ρ' M' env', Ext F1 ρ1 H1 F' ρ' Hc ∧ Rel X.K X.mg F' ρ' M' Hc ∧ RepS X.K X.mg F' ρ' σc env' ∧ SPost X.K X.mg F' ρ' Hc (loopF g fb (ds.drop i) env' M') De Wx,
    ⟨ds.length, rfl, Nat.zero_le _, F1, ρ1, M1, env, .refl, R1, S.ext x1, by rw [List.drop_zero]; exact p1⟩, ?_⟩
  rintro i m σc Hc ⟨rfl, hi', F', ρ', M', env', xE, R', S', q⟩
  by_cases hlt : i < ds.length
  · refine .inr ⟨itw.go i Hc hlt (xE.sub.trans R'.sub), fun σn Hn => i + 1 ≤ ds.length ∧ ∃ F' ρ' M' env', Ext F1 ρ1 H1 F' ρ' Hn ∧ Rel X.K X.mg F' ρ' M' Hn ∧ RepS X.K X.mg F' ρ' σn env' ∧ SPost X.K X.mg F' ρ' Hn (loopF g fb (ds.drop (i + 1)) env' M') De Wx,
      fun σn Hn r => ⟨ds.length - (i + 1), by omega, rfl, r⟩, fun x H' hy => ?_⟩
    obtain ⟨F3, d, hd, x3, R3, rd⟩ := itw.yld i Hc x H' hlt (xE.sub.trans R'.sub) hy F' ρ' M' xE.sub R'
    have edrop : ds.drop i = d :: ds.drop (i + 1) := by
      rw [List.drop_eq_getElem_cons hlt]
      rw [List.getElem?_eq_getElem hlt] at hd
      rw [Option.some.inj hd]
    rw [edrop] at q
    refine ⟨F3, ρ', M', env', .d d, R3, S'.ext x3, rd, ?_⟩
    have q := SPost.mono x3 q
    simp only [loopF] at q
    cases eg : g (.d d) env' M' with
    | none => rw [eg] at q; exact q.elim
    | some pr =>
      rw [eg] at q
      intro F4 ρ4 σ4 H4 x4 R4 S4 _
      have q := SPost.mono x4 q
      refine ⟨F4, ρ4, pr.2, pr.1, R4, S4, ?_⟩
      have xx := (xE.trans x3).trans x4
      cases eb : fb pr.1 pr.2 with
      | nx env2 M2 =>
        simp only [eb] at q
        exact fun F5 ρ5 σ5 H5 x5 R5 S5 => ⟨by omega, F5, ρ5, M2, env2, xx.trans x5, R5, S5, SPost.mono x5 q⟩
      | ct env2 M2 =>
        simp only [eb] at q
        exact fun F5 ρ5 σ5 H5 x5 R5 S5 => ⟨by omega, F5, ρ5, M2, env2, xx.trans x5, R5, S5, SPost.mono x5 q⟩
      | bk env2 M2 =>
        simp only [eb] at q
        exact fun F5 ρ5 σ5 H5 x5 R5 S5 => q F5 ρ5 σ5 H5 x5 R5 S5
      | ret w M2 => simp only [eb] at q; exact q
      | err x' env2 M2 => simp only [eb] at q; exact q
      | bad => simp only [eb] at q; exact q
  · have ei : i = ds.length := by omega
    subst ei
    rw [List.drop_length] at q
    exact .inl ⟨itw.stop Hc (xE.sub.trans R'.sub), q F' ρ' σc Hc .refl R' S'⟩
def loopW (ft : DT) (fb : DS) : Nat → Ev → Store → SRes
  | 0, _, _ => .bad
  | n + 1, env, M => ofR (ft env M) env fun b M1 => if b = true then (match fb env M1 with
      | .nx env2 M2 => loopW ft fb n env2 M2
      | .ct env2 M2 => loopW ft fb n env2 M2
      | .bk env2 M2 => .nx env2 M2
      | .ret w M2 => .ret w M2
      | .err x env2 M2 => .err x env2 M2
      | .bad => .bad) else .nx env M1
theorem ps_wh (n : Nat) (hc : PDT C c ft) (hb : PDB C body fb) : PDS C (.While c body [] pos) (loopW ft fb n) := by
  refine ⟨fun X Wx G tk => PS_imp (ps_while G.pown (hc.run X Wx G tk) (hb.run X Wx G tk)) fun De σ H ⟨F, ρ, M, env, R, S, p⟩ => ?_⟩
  refine ⟨fun m σc Hc => ∃ F' ρ' M' env', Rel X.K X.mg F' ρ' M' Hc ∧ RepS X.K X.mg F' ρ' σc env' ∧ SPost X.K X.mg F' ρ' Hc (loopW ft fb m env' M') De Wx, ⟨n, F, ρ, M, env, R, S, p⟩, ?_⟩
  rintro m σc Hc ⟨F', ρ', M', env', R', S', q⟩
  cases m with
  | zero => exact q.elim
  | succ m =>
    simp only [loopW] at q
    refine ⟨F', ρ', M', env', R', S', (SPost.seq S' q).imp fun v H1 ⟨F1, ρ1, M1, w, x1, R1, r1, p1⟩ => ?_⟩
    have r1' : v = w := r1
    subst r1'
    cases v with
    | false => exact p1 F1 ρ1 σc H1 .refl R1 (S'.ext x1)
    | true =>
      simp only [if_true] at p1 ⊢
      refine ⟨fun σn Hn => ∃ F' ρ' M' env', Rel X.K X.mg F' ρ' M' Hn ∧ RepS X.K X.mg F' ρ' σn env' ∧ SPost X.K X.mg F' ρ' Hn (loopW ft fb m env' M') De Wx, fun σn Hn r => ⟨m, Nat.lt_succ_self _, r⟩, F1, ρ1, M1, env', R1, S'.ext x1, ?_⟩
      cases eb : fb env' M1 with
      | nx env2 M2 => simp only [eb] at p1; exact fun F5 ρ5 σ5 H5 x5 R5 S5 => ⟨F5, ρ5, M2, env2, R5, S5, SPost.mono x5 p1⟩
      | ct env2 M2 => simp only [eb] at p1; exact fun F5 ρ5 σ5 H5 x5 R5 S5 => ⟨F5, ρ5, M2, env2, R5, S5, SPost.mono x5 p1⟩
      | bk env2 M2 => simp only [eb] at p1; exact fun F5 ρ5 σ5 H5 x5 R5 S5 => p1 F5 ρ5 σ5 H5 x5 R5 S5
      | ret w M2 => simp only [eb] at p1; exact p1
      | err x' env2 M2 => simp only [eb] at p1; exact p1
      | bad => simp only [eb] at p1; exact p1
end
end PD
namespace PD
open PySem PySem.Spec PyProof.Rows L2
variable {K : PySem.W.Frag} {mg : MG}
section
variable {C : Ctx} {pos py apos cpos : Pos} {st : Stmt} {rest : List Stmt} {e o tg : Expr} {es : List Expr} {f fo : DE} {fl : DL} {g : DG} {sl : List Nat} {ga : DA} {fs : DS} {x y : Str}
/-! ### a comprehension to a name -/
/-- the readings of x = [..] once the new list is told as content, as a list that changes -/
theorem fz_read {X : Cx} {Wx : L2.WX} {i : Nat} {De : Ends} {σ : St} {H : Hp} (h : rdS X.K X.mg Wx (sAs (cFz fl) (gN i)) De σ H) : rdG X.K X.mg (repL X.K X.mg) Wx fl σ H (fun v H1 => gName i v σ H1 De.nx) := by
  obtain ⟨F, ρ, M, env, R, S, p⟩ := h
  refine ⟨F, ρ, M, env, R, S, ?_⟩
  have p : SPost X.K X.mg F ρ H (ofR (cFz fl env M) env fun w M1 => match gN i w env M1 with | some p => .nx p.1 p.2 | none => .bad) De Wx := p
  cases e : fl env M with
  | bad => simp only [cFz, e, Res.bind_bad, ofR_bad] at p; exact p.elim
  | err x M1 => simp only [cFz, e, Res.bind_err, ofR_err] at p; exact fun F2 ρ2 H2 c d y R2 q => p F2 ρ2 σ H2 c d y R2 (S.ext y) q
  | ok ds M1 =>
    simp only [cFz, e, Res.bind_ok, ofR_ok, gN] at p
    intro F1 ρ1 H1 v x1 R1 ⟨p', xs, hv, h0, h1, h2, h3, h4⟩
    subst hv
    have s1 := Sub.upd (o := HO.lst xs) h1
    refine p (upd F1 p' (.lst xs)) ρ1 _ H1 ⟨x1.sub.trans s1, x1.pre, x1.frame, x1.there, fun c o q => ?_, x1.newR⟩ (R1.tellF h1 h2 h3) (RepS.set ((S.ext x1).mono s1 (List.prefix_refl _)) (w := .d (.lst ds)) (Rep.lst (.of upd_same) (Reps.mono s1 h4)) i)
    by_cases hc : c = p'
    · subst hc; exact .inr (.inl h0)
    · rw [upd_ne hc] at q; exact x1.newF c o q
theorem mt_read {X : Cx} {Wx : L2.WX} {i : Nat} {De : Ends} {σ : St} {H : Hp} (h : rdS X.K X.mg Wx (sAs (cMt fl) (gN i)) De σ H) : rdG X.K X.mg (repL X.K X.mg) Wx fl σ H (fun v H1 => gName i v σ H1 De.nx) := by
  obtain ⟨F, ρ, M, env, R, S, p⟩ := h
  refine ⟨F, ρ, M, env, R, S, ?_⟩
  have p : SPost X.K X.mg F ρ H (ofR (cMt fl env M) env fun w M1 => match gN i w env M1 with | some p => .nx p.1 p.2 | none => .bad) De Wx := p
  cases e : fl env M with
  | bad => simp only [cMt, e, Res.bind_bad, ofR_bad] at p; exact p.elim
  | err x M1 => simp only [cMt, e, Res.bind_err, ofR_err] at p; exact fun F2 ρ2 H2 c d y R2 q => p F2 ρ2 σ H2 c d y R2 (S.ext y) q
  | ok ds M1 =>
    simp only [cMt, e, Res.bind_ok, ofR_ok, gN] at p
    intro F1 ρ1 H1 v x1 R1 ⟨p', xs, hv, h0, h1, h2, h3, h4⟩
    subst hv
    refine p F1 (ρ1 ++ [p']) _ H1 ⟨x1.sub, x1.pre.trans (List.prefix_append _ _), x1.frame, x1.there, x1.newF, fun c q => ?_⟩ (R1.tellM h1 h2 h3 h4) (RepS.set ((S.ext x1).mono (.refl _) (List.prefix_append _ _)) (w := .mt M1.length) ⟨p', ?_, rfl⟩ i)
    · rcases List.mem_append.mp q with q | q
      · exact x1.newR c q
      · simp at q; subst q; exact .inr h0
    · rw [← R1.len]; simp
/-- name = [..] on one line, the name a local: PDLc tells of the comprehension as pl_comp does -/
theorem ps_lcG {elt tg iter : Expr} {ifs : List Expr} {scope : Scope} {spos : Pos} {own : List (Str × Nat)} {fi : DL} {g : DG} {ft : DT} {fe : DE} {fs : DS} (i : Nat) (hy : C.N[i]? = some y) (hl : C.sc.names.lookup y = some .local) (hc : (py.line == pos.line) = true) (ha : (scope.names.any fun (n, k) => n == y && (k == .local || k == .cell)) = false)
    (hi : PDI C tg iter fi) (ok : blkC C.N C.sc scope own = true) (hg : PDG (C.blk scope) tg sl g) (hsl : (sl.all fun i => (own.map (·.2)).contains i) = true)
    (ht : PDTs (C.blk scope) ifs ft) (he : PDE (C.blk scope) elt fe)
    (hr : ∀ (X : Cx) (Wx : L2.WX) (De : Ends) (σ : St) (H : Hp), rdS X.K X.mg Wx fs De σ H → rdG X.K X.mg (repL X.K X.mg) Wx (lComp fi (own.map (·.2)) g ft fe) σ H (fun v H1 => gName i v σ H1 De.nx)) (hs : ∀ env x, foldedSetIterable iter env x = pure x := by intro _ _; rfl) :
    PDS C (.Assign [.Name y py] (.ListComp elt [⟨tg, iter, ifs, 0⟩] scope pos) spos) fs := by
  refine ⟨fun X Wx G tk => ?_⟩
  have hsl' : ∀ i ∈ sl, i ∈ own.map (·.2) := fun i hi => by
    have := List.all_eq_true.mp hsl i hi
    simpa using this
  have hk : X.env.scope.names.lookup y = some .local := by rw [G.sc]; exact hl
  refine ⟨fun pins s σ H De I h => ?_⟩
  refine (ps_setLc (own := own) (g := rdT X.K X.mg sl g) (tt := rdG X.K X.mg repB wX ft) (te := rdG X.K X.mg (repW X.K X.mg) wX fe) G.calm (by rw [G.N]; exact G.nd) (by rw [G.N]; exact hy) hk (sw_true (l := spos.line) I.ok.kind hk hc ha) (hi.run X Wx G tk) (by rw [G.N, G.sc]; exact blkOk_by ok) (fun s H c cl fp => hg.run _ (G.blk s H scope c cl fp))
    (fun s H c cl fp => ht.run _ wX (G.blk s H scope c cl fp) takes_no) (fun s H c cl fp => he.run _ wX (G.blk s H scope c cl fp) takes_no) (hs _)).run pins s σ H De I ?_
  exact comp_read hsl' (hr X Wx De σ H h)
theorem ps_lcF {elt tg iter : Expr} {ifs : List Expr} {scope : Scope} {spos : Pos} {own : List (Str × Nat)} {fi : DL} {g : DG} {ft : DT} {fe : DE} (i : Nat) (hy : C.N[i]? = some y) (hl : C.sc.names.lookup y = some .local) (hc : (py.line == pos.line) = true) (ha : (scope.names.any fun (n, k) => n == y && (k == .local || k == .cell)) = false)
    (hi : PDI C tg iter fi) (ok : blkC C.N C.sc scope own = true) (hg : PDG (C.blk scope) tg sl g) (hsl : (sl.all fun i => (own.map (·.2)).contains i) = true)
    (ht : PDTs (C.blk scope) ifs ft) (he : PDE (C.blk scope) elt fe) (hs : ∀ env x, foldedSetIterable iter env x = pure x := by intro _ _; rfl) :
    PDS C (.Assign [.Name y py] (.ListComp elt [⟨tg, iter, ifs, 0⟩] scope pos) spos) (sAs (cFz (lComp fi (own.map (·.2)) g ft fe)) (gN i)) := ps_lcG i hy hl hc ha hi ok hg hsl ht he (fun X Wx De σ H h => fz_read h) hs
theorem ps_lcM {elt tg iter : Expr} {ifs : List Expr} {scope : Scope} {spos : Pos} {own : List (Str × Nat)} {fi : DL} {g : DG} {ft : DT} {fe : DE} (i : Nat) (hy : C.N[i]? = some y) (hl : C.sc.names.lookup y = some .local) (hc : (py.line == pos.line) = true) (ha : (scope.names.any fun (n, k) => n == y && (k == .local || k == .cell)) = false)
    (hi : PDI C tg iter fi) (ok : blkC C.N C.sc scope own = true) (hg : PDG (C.blk scope) tg sl g) (hsl : (sl.all fun i => (own.map (·.2)).contains i) = true)
    (ht : PDTs (C.blk scope) ifs ft) (he : PDE (C.blk scope) elt fe) (hs : ∀ env x, foldedSetIterable iter env x = pure x := by intro _ _; rfl) :
    PDS C (.Assign [.Name y py] (.ListComp elt [⟨tg, iter, ifs, 0⟩] scope pos) spos) (sAs (cMt (lComp fi (own.map (·.2)) g ft fe)) (gN i)) := ps_lcG i hy hl hc ha hi ok hg hsl ht he (fun X Wx De σ H h => mt_read h) hs
/-- name = [..], the name a cell -/
theorem ps_asc {i : Nat} {elt : Expr} {gs : List Comprehension} {scope : Scope} {spos : Pos} (hl : C.sc.names.lookup y = some .cell) (he : PDE C (.ListComp elt gs scope pos) f) (hg : PDG C (.Name y py) sl g) :
    PDS C (.Assign [.Name y py] (.ListComp elt gs scope pos) spos) (sAs f g) := by
  refine ⟨fun X Wx G tk => PS_imp (ps_asg (he.run X Wx G tk) (hg.run X G) ?_ rfl rfl) fun D σ H h => as_post h⟩
  have hk : X.env.kindOf y = some .cell := by unfold Env.kindOf; rw [G.sc]; exact hl
  have e0 : (some NameKind.cell == some NameKind.local) = false := by decide
  show swapsWith (.ListComp elt gs scope pos) (some (.Name y py)) spos.line X.env = pure false
  unfold swapsWith
  simp only [hk, e0, Bool.and_false, Bool.false_and]
/-! ### several names at once -/
def setAll : List Nat → List W → Ev → Ev
  | i :: is, w :: ws, env => setAll is ws (env.set i (some w))
  | _, _, env => env
def sPar (is : List Nat) (ga : DA) : DS := fun env M => ofR (ga env M) env fun ws M1 => if ws.length = is.length then .nx (setAll is ws env) M1 else .bad
theorem ps_pr2 {a b : Expr} {px pt : Pos} {kt k2 pt2} (i j : Nat) (hi : C.N[i]? = some x) (hj : C.N[j]? = some y) (hij : (i == j) = false) (hx : C.sc.names.lookup x = some .local) (hy : C.sc.names.lookup y = some .local) (ha : PDA C [a, b] ga)
    (hw : ∀ env : Env, env.scope = C.sc → env.scope.kind = .function → swappedStores [.Tuple [.Name x px, .Name y py] kt pt] (.Tuple [a, b] k2 pt2) env = pure (some [x, y])) :
    PDS C (.Assign [.Tuple [.Name x px, .Name y py] kt pt] (.Tuple [a, b] k2 pt2) pos) (sPar [i, j] ga) := by
  refine ⟨fun X Wx G tk => ⟨fun pins s σ H De I h => ?_⟩⟩
  have hij' : i ≠ j := by simpa using hij
  refine (ps_par G.calm (by rw [G.N]; exact G.nd) (by rw [G.N]; exact hi) (by rw [G.N]; exact hj) hij' (by rw [G.sc]; exact hx) (by rw [G.sc]; exact hy) (ha.run X Wx G tk) (hw _ G.sc I.ok.kind)).run pins s σ H De I ?_
  obtain ⟨F, ρ, M, env, R, S, p⟩ := h
  refine ⟨F, ρ, M, env, R, S, (SPost.seq S p).imp fun vs H1 ⟨F1, ρ1, M1, ws, x1, R1, r1, p1⟩ => ?_⟩
  match ws, r1, p1 with
  | [w1, w2], .cons h1 (.cons h2 .nil), p1 => exact ⟨_, _, rfl, p1 F1 ρ1 _ H1 .refl R1 (RepS.set (RepS.set (S.ext x1) h1 i) h2 j)⟩
  | [], _, p1 => exact p1.elim
  | [_], _, p1 => exact p1.elim
  | _ :: _ :: _ :: _, _, p1 =>
    rename_i t1 t2
    have p2 : SPost X.K X.mg F1 ρ1 H1 (if (_ :: _ :: _ :: _ : List W).length = [i, j].length then _ else SRes.bad) De Wx := p1
    rw [if_neg (by simp)] at p2
    exact p2.elim
theorem ps_pr3 {z : Str} {a b c : Expr} {px pz pt : Pos} {kt k2 pt2} (i j l : Nat) (hi : C.N[i]? = some x) (hj : C.N[j]? = some y) (hl : C.N[l]? = some z) (hij : (i == j) = false) (hil : (i == l) = false) (hjl : (j == l) = false) (hx : C.sc.names.lookup x = some .local) (hy : C.sc.names.lookup y = some .local) (hz : C.sc.names.lookup z = some .local) (ha : PDA C [a, b, c] ga)
    (hw : ∀ env : Env, env.scope = C.sc → env.scope.kind = .function → swappedStores [.Tuple [.Name x px, .Name y py, .Name z pz] kt pt] (.Tuple [a, b, c] k2 pt2) env = pure (some [x, y, z])) :
    PDS C (.Assign [.Tuple [.Name x px, .Name y py, .Name z pz] kt pt] (.Tuple [a, b, c] k2 pt2) pos) (sPar [i, j, l] ga) := by
  refine ⟨fun X Wx G tk => ⟨fun pins s σ H De I h => ?_⟩⟩
  have hij' : i ≠ j := by simpa using hij
  have hil' : i ≠ l := by simpa using hil
  have hjl' : j ≠ l := by simpa using hjl
  refine (ps_par3 G.calm (by rw [G.N]; exact G.nd) (by rw [G.N]; exact hi) (by rw [G.N]; exact hj) (by rw [G.N]; exact hl) hij' hil' hjl' (by rw [G.sc]; exact hx) (by rw [G.sc]; exact hy) (by rw [G.sc]; exact hz) (ha.run X Wx G tk) (hw _ G.sc I.ok.kind)).run pins s σ H De I ?_
  obtain ⟨F, ρ, M, env, R, S, p⟩ := h
  refine ⟨F, ρ, M, env, R, S, (SPost.seq S p).imp fun vs H1 ⟨F1, ρ1, M1, ws, x1, R1, r1, p1⟩ => ?_⟩
  match ws, r1, p1 with
  | [w1, w2, w3], .cons h1 (.cons h2 (.cons h3 .nil)), p1 => exact ⟨_, _, _, rfl, p1 F1 ρ1 _ H1 .refl R1 (RepS.set (RepS.set (RepS.set (S.ext x1) h1 i) h2 j) h3 l)⟩
  | [], _, p1 => exact p1.elim
  | [_], _, p1 => exact p1.elim
  | [_, _], _, p1 => exact p1.elim
  | _ :: _ :: _ :: _ :: _, _, p1 =>
    have p2 : SPost X.K X.mg F1 ρ1 H1 (if (_ :: _ :: _ :: _ :: _ : List W).length = [i, j, l].length then _ else SRes.bad) De Wx := p1
    rw [if_neg (by simp)] at p2
    exact p2.elim
/-- .. where the model makes the tuple (a name is a cell) -/
def rdNs (K : PySem.W.Frag) (mg : MG) (is : List Nat) : TGs := fun vs σ H Q => ∃ F ρ M env ws, Rel K mg F ρ M H ∧ RepS K mg F ρ σ env ∧ RepWs K mg F ρ vs ws ∧ ws.length = is.length ∧ ∀ σ', RepS K mg F ρ σ' (setAll is ws env) → Q σ' H
structure PDN (C : Ctx) (tgs : List Expr) (is : List Nat) : Prop where
  run : ∀ X, Good C X → PGs X tgs (rdNs X.K X.mg is)
theorem pn_nil : PDN C [] [] := ⟨fun X G => PGs_imp L2.pgs_nil fun vs σ H Q ⟨F, ρ, M, env, ws, R, S, r, l, p⟩ => by
  cases ws with
  | nil => cases r; exact ⟨rfl, p σ S⟩
  | cons _ _ => simp at l⟩
theorem pn_cons {is : List Nat} (i : Nat) (hi : C.N[i]? = some x) (hx : locB C x = true) (h : PDN C es is) (hs : ∀ env, (assignEach (.Name x pos :: es) env).map (·.2) = assign (.Name x pos) env :: (assignEach es env).map (·.2) := by intro _; rfl) : PDN C (.Name x pos :: es) (i :: is) := by
  refine ⟨fun X G => ?_⟩
  obtain ⟨h1, h2⟩ := locB_ok G hx
  refine PGs_imp (L2.pgs_cons (pg_name (i := i) (by rw [G.N]; exact G.nd) (by rw [G.N]; exact hi) h1 h2) (h.run X G) (hs _)) fun vs σ H Q ⟨F, ρ, M, env, ws, R, S, r, l, p⟩ => ?_
  cases ws with
  | nil => simp at l
  | cons w ws =>
    cases r with
    | cons r1 r2 => exact ⟨_, _, rfl, F, ρ, M, env.set i (some w), ws, R, S.set r1 i, r2, by simpa using l, p⟩
theorem ps_prc {is : List Nat} {ts : List Expr} {kt k2 : Nat} {pt pt2 : Pos} {n : Nat} (ha : PDA C es ga) (hn : PDN C ts is) (hz : n ≤ 1000) (hln : is.length = n) (hw : ∀ env : Env, env.scope = C.sc → env.scope.kind = .function → swappedStores [.Tuple ts kt pt] (.Tuple es k2 pt2) env = pure none)
    (hl : ∀ env, (assignEach ts env).length = n := by intro _; rfl) (hst : ∀ env, (assignEach ts env).findIdx? (·.1) = none := by intro _; rfl)
    (hs : ∀ env, swapsWithSole [.Tuple ts kt pt] (.Tuple es k2 pt2) pos.line env = pure false := by intro _; rfl) (h1 : ∀ env, (assignEach [.Tuple ts kt pt] env).map (·.2) = [assign (.Tuple ts kt pt) env] := by intro _; rfl) :
    PDS C (.Assign [.Tuple ts kt pt] (.Tuple es k2 pt2) pos) (sPar is ga) := by
  refine ⟨fun X Wx G tk => ⟨fun pins s σ H De I h => ?_⟩⟩
  refine (ps_asg (pe_tup (ha.run X Wx G tk)) (pg_tup (n := n) G.calm (hn.run X G) (hl _) (hst _)) (hs _) (hw _ G.sc I.ok.kind) (h1 _)).run pins s σ H De I ?_
  obtain ⟨F, ρ, M, env, R, S, p⟩ := h
  refine ⟨F, ρ, M, env, R, S, (SPost.seq S p).imp fun vs H1 ⟨F1, ρ1, M1, ws, x1, R1, r1, p1⟩ => ?_⟩
  split at p1
  · rename_i c
    have l := Paired.length r1
    refine ⟨by rw [sizeLine_eq]; omega, fun p' hp => ⟨p', vs, rfl, .of upd_same, by omega, F1, ρ1, M1, env, ws, R1.newH hp _, S.ext x1, r1, c, fun σ' S' => p1 F1 ρ1 σ' _ (R1.extH hp _) (R1.newH hp _) S'⟩⟩
  · exact p1.elim
/-! ### lists that change -/
/-- o.append(e) as an expression -/
def cApp (fo : DE) (f : DE) : DE := fun env M => (fo env M).bind fun w M1 => match w with
  | .mt j => match M1[j]? with
    | some (some _) => (f env M1).bind fun v M2 => match v, M2[j]? with
      | .d y, some (some ds) => if ds.length < LIM then .ok (.d .non) (M2.set j (some (ds ++ [y]))) else .bad
      | _, _ => .bad
    | _ => .bad
  | _ => .bad
theorem pd_app (ho : PDE C o fo) (he : PDE C e f) (hbase : ∀ env, attributeBase o "append" env (eval o env) = eval o env := by intro _; rfl)
    (hfew : ∀ env, ((backTo cpos (starEach [e] env)).all (fun x => !x.1) && (backToKw cpos (keywordEach [] env)).all (fun x => x.1.isSome)
      && decide ([e].length + ([] : List Keyword).length + (if ([] : List Keyword).isEmpty then 0 else 1) < 30)) = true := by intro _; rfl)
    (hline : (apos.endLine == cpos.line) = true := by rfl) (hs : ∀ env, starEach [e] env = (false, eval e env) :: starEach [] env := by intro _; rfl) : PDE C (.Call (.Attribute o "append" apos) [e] [] cpos) (cApp fo f) := by
  refine ⟨fun X Wx G tk => PE_imp (pe_bm PySem.F.plainAttrs_list PySem.F.slot_list_append PySem.F.type_list_append mt_append (ho.run X Wx G tk) (L2.pa_cons (he.run X Wx G tk) L2.pa_nil (hs _)) (hbase _) (hfew _) hline (hs _) rfl) fun σ H Q ⟨F, ρ, M, env, R, S, p⟩ => ?_⟩
  refine ⟨F, ρ, M, env, R, S, (RPost.seq p).imp fun v H1 ⟨F1, ρ1, M1, w, x1, R1, r1, p1⟩ => ?_⟩
  cases w with
  | d y => exact p1.elim
  | mt j =>
    obtain ⟨a, ha, rfl⟩ := r1
    simp only at p1
    split at p1
    · rename_i d0 e0
      obtain ⟨_, xs0, hx0, _⟩ := R1.cell j a d0 ha e0
      refine ⟨.inl ⟨rfl, xs0, .of hx0⟩, ?_⟩
      refine ⟨F1, ρ1, M1, env, R1, S.ext x1, (RPost.seq p1).imp fun v H2 ⟨F2, ρ2, M2, w, x2, R2, r2, p2⟩ => ?_⟩
      split at p2
      · rename_i y ds e2
        split at p2
        · rename_i c
          have ha2 := pre_get x2.pre ha
          obtain ⟨_, xs, hx, rx⟩ := R2.cell j a ds ha2 e2
          refine ⟨a, xs, v, rfl, rfl, hx, by rw [rx.length, ← lim_line]; exact c, ?_⟩
          exact p2 F2 ρ2 _ .non (Rel.extSet ha2) (R2.set ha2 e2 (Reps.append rx (.cons r2 .nil))) Rep.non
        · exact p2.elim
      · exact p2.elim
    · exact p1.elim
/-- from here on the list at slot i is content -/
def sFrz (i : Nat) (fs : DS) : DS := fun env M => match env[i]? with
  | some (some (.mt j)) => match M[j]? with
    | some (some ds) => fs (env.set i (some (.d (.lst ds)))) (M.set j none)
    | _ => .bad
  | _ => .bad
theorem pb_frz {sts : List Stmt} (i : Nat) (h : PDB C sts fs) : PDB C sts (sFrz i fs) := by
  refine ⟨fun X Wx G tk => PSs_imp (h.run X Wx G tk) fun De σ H ⟨F, ρ, M, env, R, S, p⟩ => ?_⟩
  unfold sFrz at p
  split at p
  · rename_i j e1
    split at p
    · rename_i ds e2
      obtain ⟨v, hv, a, ha, rfl⟩ := S.2 i _ e1
      obtain ⟨hF, xs, hx, rx⟩ := R.cell j a ds ha e2
      have x1 := R.extFreeze (xs := xs) ha e2
      refine ⟨upd F a (.lst xs), ρ, M.set j none, env.set i (some (.d (.lst ds))), R.freeze ha e2 hx, ?_, SPost.mono x1 p⟩
      refine ⟨by rw [List.length_set]; exact S.1, fun k w e => ?_⟩
      by_cases hk : i = k
      · subst hk
        have hl : i < env.length := (List.getElem?_eq_some_iff.mp e1).1
        rw [List.getElem?_set_self hl] at e
        cases e
        exact ⟨.ref a, hv, Rep.lst (.of upd_same) (Reps.mono x1.sub rx)⟩
      · rw [List.getElem?_set_ne hk] at e
        obtain ⟨u, hu, ru⟩ := S.2 k w e
        exact ⟨u, hu, RepW.mono x1.sub (List.prefix_refl _) ru⟩
    · exact p.elim
  · exact p.elim
/-- x op= e -/
def sAug (i : Nat) (g : D → D → Option D) (f : DE) : DS := fun env M => match env[i]? with
  | some (some w0) => ofR (f env M) env fun w M1 => match cont M w0, cont M1 w with
    | some d0, some d => match w0, g d0 d with
      | .d _, some z => .nx (env.set i (some (.d z))) M1
      | _, _ => .bad
    | _, _ => .bad
  | _ => .bad
def IopD (C : Ctx) (op : Operator) (g : D → D → Option D) : Prop := ∀ X, Good C X → PIp X op (rD X g)
theorem ps_ag {px : Pos} {op : Operator} {g : D → D → Option D} (i : Nat) (hi : C.N[i]? = some x) (hx : locB C x = true) (ho : IopD C op g) (he : PDE C e f) : PDS C (.AugAssign (.Name x px) op e pos) (sAug i g f) := by
  refine ⟨fun X Wx G tk => ?_⟩
  obtain ⟨h1, h2⟩ := locB_ok G hx
  refine PS_imp (ps_aug (i := i) (by rw [G.N]; exact G.nd) (by rw [G.N]; exact hi) h1 (he.run X Wx G tk) (ho X G) h2) fun De σ H ⟨F, ρ, M, env, R, S, p⟩ => ?_
  unfold sAug at p
  split at p
  · rename_i w0 e0
    obtain ⟨v0, hv0, r0⟩ := S.2 i _ e0
    refine ⟨v0, hv0, F, ρ, M, env, R, S, (SPost.seq S p).imp fun v H1 ⟨F1, ρ1, M1, w, x1, R1, r1, p1⟩ => ?_⟩
    split at p1
    · rename_i d0 d c0 c1
      split at p1
      · rename_i z e2 _
        cases c0
        refine ⟨F1, ρ1, M1, d0, d, z, R1, RepC.of R1.sub (Rep.mono x1.sub r0), RepC.ofW R1 r1 c1, e2, fun F2 H2 u x2 R2 r2 => ?_⟩
        exact p1 F2 ρ1 _ H2 x2 R2 (((S.ext x1).ext x2).set (w := .d z) r2 i)
      · exact p1.elim
    · exact p1.elim
  · exact p.elim
theorem iop_ints {op : Operator} {g : D → D → Option D} {h : Int → Int → V}
    (ho : ∀ X, Good C X → OpR X (inplaceOp op) (rI0 h)) (hg : ∀ d e z, g d e = some z → ∃ i j, d = .int i ∧ e = .int j ∧ ∀ K mg F, Rep K mg F (h i j) z) : IopD C op g := by
  intro X G pins s σ H x y v u Q I rx ry ⟨F, ρ, M, dx, dy, dz, R, r1, r2, e, q⟩
  obtain ⟨i, j, rfl, rfl, z⟩ := hg _ _ _ e
  cases (show Rep X.K X.mg F x (.int i) from r1)
  cases (show Rep X.K X.mg F y (.int j) from r2)
  exact ho X G pins s σ H _ _ v u Q I rx ry ⟨i, j, rfl, rfl, q F H _ .refl R (z _ _ _)⟩
def iAdd : D → D → Option D
  | .int i, .int j => some (.int (i + j))
  | _, _ => none
theorem iod_add : IopD C .Add iAdd := iop_ints (fun X _ => iop_add) fun d e z h => by
  cases d <;> cases e <;> first | (cases h; exact ⟨_, _, rfl, rfl, fun _ _ _ => .int _⟩) | cases h
theorem iod_sub : IopD C .Sub opSub := iop_ints (fun X _ => iop_sub) fun d e z h => by
  cases d <;> cases e <;> first | (cases h; exact ⟨_, _, rfl, rfl, fun _ _ _ => .int _⟩) | cases h
end
/-! ### defs -/
def startE (n : Nat) (ws : List W) : Ev := ws.map some ++ List.replicate (n - ws.length) none
def finish (n : Nat) (w : W) (M : Store) : Res W := match w with
  | .d x => .ok (.d x) (M.take n)
  | .mt i => if i < n then .ok (.mt i) (M.take n) else match M[i]? with
    | some (some ds) => .ok (.mt n) (M.take n ++ [some ds])
    | _ => .bad
/-- the plain function of a body: np parameters, nn names -/
def mkFn (np nn : Nat) (B : DS) : Fn := fun ws M => if ws.length = np then (match B (startE nn ws) M with
  | .ret w M' => finish M.length w M'
  | .nx _ M' => finish M.length (.d .non) M'
  | .err x _ M' => .err x (M'.take M.length)
  | _ => .bad) else .bad
theorem mkFn_len (np nn : Nat) (B : DS) : lenOk np (mkFn np nn B) := fun ws M h => by unfold mkFn; rw [if_neg h]
theorem start_reps {F : Hp} {ρ : List Addr} {vs : List V} {ws : List W} (r : RepWs K mg F ρ vs ws) (N : List Str) : RepS K mg F ρ (start N vs) (startE N.length ws) := by
  have l := Paired.length r
  unfold L2.start startE
  rw [l]
  refine ⟨by simp [l], fun i w e => ?_⟩
  by_cases hi : i < ws.length
  · rw [List.getElem?_append_left (by simpa using hi), List.getElem?_map] at e
    rw [List.getElem?_append_left (by simpa [l] using hi), List.getElem?_map]
    rcases paired_get r i with ⟨_, h2⟩ | ⟨v, w', h1, h2, h⟩
    · rw [h2] at e; cases e
    · rw [h2] at e; cases e
      rw [h1]
      exact ⟨v, rfl, h⟩
  · rw [List.getElem?_append_right (by simpa using hi), List.getElem?_replicate] at e
    split at e <;> cases e
theorem Ext.takeM {F F' : Hp} {ρ ρ' : List Addr} {H H' : Hp} (x : Ext F ρ H F' ρ' H') : Ext F ρ H F' (ρ'.take ρ.length) H' := by
  have e : ρ'.take ρ.length = ρ := by
    obtain ⟨t, rfl⟩ := x.pre
    simp
  rw [e]
  exact ⟨x.sub, List.prefix_refl _, x.frame, x.there, x.newF, fun _ h => .inl h⟩
theorem finish_post {F F' : Hp} {ρ ρ' : List Addr} {H H' : Hp} {M M' : Store} {w : W} {v : V} {Q : VK} {E : XK} (R : Rel K mg F ρ M H) (x : Ext F ρ H F' ρ' H') (R' : Rel K mg F' ρ' M' H') (r : RepW K mg F' ρ' v w)
    (p : RPostF K mg F ρ H (finish M.length w M') Q E) : Q v H' := by
  have xt := x.takeM
  have Rt := R'.take ρ.length
  cases w with
  | d y =>
    have p : RPostF K mg F ρ H (.ok (.d y) (M'.take M.length)) Q E := p
    exact p F' _ H' v xt (by rw [← R.len]; exact Rt) r
  | mt i =>
    obtain ⟨a, ha, rfl⟩ := r
    simp only [finish] at p
    split at p
    · rename_i c
      refine p F' _ H' _ xt (by rw [← R.len]; exact Rt) ⟨a, ?_, rfl⟩
      rw [List.getElem?_take, if_pos (by rw [R.len]; exact c)]
      exact ha
    · rename_i c
      split at p
      · rename_i ds e
        obtain ⟨h1, xs, h2, h3⟩ := R'.cell i a ds ha e
        have na : a ∉ ρ'.take ρ.length := fun m => by
          obtain ⟨j, hj⟩ := List.getElem?_of_mem m
          have hjl : j < ρ.length := by
            have := (List.getElem?_eq_some_iff.mp hj).1
            rw [List.length_take] at this
            omega
          rw [List.getElem?_take, if_pos hjl] at hj
          obtain ⟨l1, g1⟩ := List.getElem?_eq_some_iff.mp hj
          obtain ⟨l2, g2⟩ := List.getElem?_eq_some_iff.mp ha
          have := (List.getElem_inj R'.nd).mp (g1.trans g2.symm)
          rw [← R.len] at c
          omega
        have hl : (ρ'.take ρ.length).length = M.length := by
          rw [List.length_take, ← R.len]
          have := x.pre.length_le
          omega
        refine p F' (ρ'.take ρ.length ++ [a]) H' _ ⟨xt.sub, xt.pre.trans (List.prefix_append _ _), xt.frame, xt.there, xt.newF, fun b hb => ?_⟩ (by rw [← R.len]; exact Rt.tellM h1 na h2 h3) ⟨a, ?_, rfl⟩
        · rcases List.mem_append.mp hb with q | q
          · exact xt.newR b q
          · simp at q; subst q
            exact x.newR b (List.mem_of_getElem? ha)
        · rw [List.getElem?_append_right (by rw [hl]; exact Nat.le_refl _), hl]; simp
      · exact p.elim
/-- THE RULE for a def by a plain function -/
theorem fn_ok {P : Program} {w : World} {base : Heap} {x : Str} {st : Stmt} {f : Addr} {fd : FuncData} {C : Ctx} {ps : List Str} {B : DS} {nn : Nat} (F : Fun K x x st f fd) (Sc : FnScope C.N ps (defScope st)) (hsc : C.sc = defScope st) (hfc : C.fnc = fun _ => true) (hn : C.N.length = nn)
    (hb : PDB C (defBody st) B)
    (fns : ∀ (X : Cx), X.prog = P → X.w = w → X.K = K → X.mg = mg → X.base = base → (∀ (i : Nat) y ps R, C.fns[i]? = some (y, ps, R) → FnIs X C.k y ps R) ∧ (∀ y ps R, C.hof.lookup y = some (ps, R) → FnIs X C.k y ps R))
    (cns : ∀ (i : Nat) x d, C.cns[i]? = some (x, d) → ∃ u v, mg x = some u ∧ RelV v u ∧ ∀ F, Rep K mg F v d) (blt : ∀ (i : Nat) x, C.blt[i]? = some x → mg x = none) (exs : ∀ r ∈ C.exs, ExcOk P w K mg base C.k r) (bfn : ∀ x id, (x, id) ∈ C.bfn → mg x = some (.builtin id)) :
    FnOk P w K mg base (L2.CX P w) (C.k + 2) f fd ps (spOf K mg ps.length (mkFn ps.length nn B)) := by
  refine F.okX Sc (fun vs H Q E ⟨F0, ρ, M, ws, l, R, r, p⟩ => by rw [← l]; exact Paired.length r) fun cdv A outer s H vs Q E hr ⟨F0, ρ, M, ws, l, R, r, p⟩ => ?_
  let X := cxOf (L2.CX P w) P w K mg base C.N x (defScope st) f cdv A outer s H E
  have hf := fns X rfl rfl rfl rfl rfl
  have G : Good C X := ⟨rfl, Sc.nd, hsc.symm, by rw [hfc]; rfl, rfl, hr, passes_of rfl, hf.1, cns, blt, hf.2, exs, fun _ => ⟨rfl, rfl⟩, bfn⟩
  refine ⟨_, hb.run X (fun cls d _ H => E cls d H) G (takes_of rfl rfl rfl rfl), F0, ρ, M, startE C.N.length ws, R, start_reps r C.N, ?_⟩
  unfold mkFn at p
  rw [if_pos l, ← hn] at p
  show SPost K mg F0 ρ H (B (startE C.N.length ws) M) { nx := fun _ H' => Q .non H', rt := Q } (fun cls d _ H => E cls d H)
  cases e : B (startE C.N.length ws) M with
  | nx env' M' =>
    rw [e] at p
    exact fun F' ρ' σ' H' y R' S' => finish_post (w := .d .non) (v := .non) R y R' Rep.non p
  | ret w' M' =>
    rw [e] at p
    exact fun F' ρ' H' v y R' r' => finish_post R y R' r' p
  | err x' env' M' =>
    rw [e] at p
    exact fun F' ρ' σ' H' c d y R' S' q => p F' _ H' c d y.takeM (by rw [← R.len]; exact R'.take _) q
  | bk env' M' => rw [e] at p; exact p.elim
  | ct env' M' => rw [e] at p; exact p.elim
  | bad => rw [e] at p; exact p.elim
/-! ### how plain arguments bind; a def as others see it -/
theorem binds_of {fd : FuncData} {ps : List Str} (kb : KB ps ps.length [] []) (pl : PlainPs fd ps) : Binds K fd ps [] := fun s us _ hl => by
  rw [List.append_nil] at hl ⊢
  have e := kb fd us [] pl hl rfl
  simp only [kwPerm, List.filterMap_nil, List.append_nil, List.zip_nil_left] at e
  exact .of_eq e
theorem fun_plain {x : Str} {st : Stmt} {f : Addr} {fd : FuncData} {ps : List Str} (F : Fun K x x st f fd) (a1 : (defArgs st).args.map (·.arg) = ps) (a2 : (defArgs st).posonlyargs = []) (a3 : (defArgs st).kwonlyargs = []) (a5 : (defArgs st).vararg = none) (a6 : (defArgs st).kwarg = none) : PlainPs fd ps := by
  obtain ⟨oc, od, kV, doc, pm, an, cdv, ct, osl, rfl, lk, hcd⟩ := F.ex
  exact ⟨a1, a2, a3, a5, a6, rfl⟩
/-- all that others want of a def, at a level -/
structure Def (P : Program) (w : World) (K : PySem.W.Frag) (mg : MG) (base : Heap) (k : Nat) (x : Str) (ps : List Str) (R : Fn) : Prop where
  ex : ∃ (st : Stmt) (f : Addr) (fd : FuncData), mg x = some (.ref f) ∧ Fun K x x st f fd ∧ FnOk P w K mg base (L2.CX P w) k f fd ps (spOf K mg ps.length R) ∧
    (defArgs st).args.map (·.arg) = ps ∧ (defArgs st).posonlyargs = [] ∧ (defArgs st).kwonlyargs = [] ∧ (defArgs st).defaults = [] ∧ (defArgs st).vararg = none ∧ (defArgs st).kwarg = none ∧ Binds K fd ps []
theorem Def.is {P : Program} {w : World} {base : Heap} {j k : Nat} {x : Str} {ps : List Str} {R : Fn} (d : Def P w K mg base j x ps R) (h : j ≤ k) (X : Cx) (e1 : X.prog = P) (e2 : X.w = w) (e3 : X.K = K) (e4 : X.mg = mg) (e5 : X.base = base) : FnIs X k x ps R := by
  subst e1 e2 e3 e4 e5
  obtain ⟨st, f, fd, h1, h2, h3, h4⟩ := d.ex
  exact ⟨st, f, fd, h1, h2, h3.mono h, h4⟩
/-- the rows of a table of defs -/
inductive Defs (P : Program) (w : World) (K : PySem.W.Frag) (mg : MG) (base : Heap) (k : Nat) : List (Str × List Str × Fn) → Prop
  | nil : Defs P w K mg base k []
  | cons {x : Str} {ps : List Str} {R : Fn} {r : List (Str × List Str × Fn)} {j : Nat} (d : Def P w K mg base j x ps R) (h : j ≤ k) (t : Defs P w K mg base k r) : Defs P w K mg base k ((x, ps, R) :: r)
theorem Defs.at {P : Program} {w : World} {base : Heap} {k : Nat} : ∀ {l : List (Str × List Str × Fn)}, Defs P w K mg base k l → ∀ (X : Cx), X.prog = P → X.w = w → X.K = K → X.mg = mg → X.base = base → ∀ (i : Nat) y ps R, l[i]? = some (y, ps, R) → FnIs X k y ps R
  | _, .nil, _, _, _, _, _, _, _, _, _, _, h => by simp at h
  | _, .cons d h t, X, e1, e2, e3, e4, e5, 0, y, ps, R, e => by
    simp at e
    obtain ⟨rfl, rfl, rfl⟩ := e
    exact d.is h X e1 e2 e3 e4 e5
  | _, .cons d h t, X, e1, e2, e3, e4, e5, i + 1, y, ps, R, e => t.at X e1 e2 e3 e4 e5 i y ps R (by simpa using e)
theorem Defs.look {P : Program} {w : World} {base : Heap} {k : Nat} : ∀ {l : List (Str × List Str × Fn)}, Defs P w K mg base k l → ∀ (X : Cx), X.prog = P → X.w = w → X.K = K → X.mg = mg → X.base = base → ∀ y ps R, l.lookup y = some (ps, R) → FnIs X k y ps R
  | _, .nil, _, _, _, _, _, _, _, _, _, h => by simp at h
  | _, .cons (x := x) d h t, X, e1, e2, e3, e4, e5, y, ps, R, e => by
    rw [List.lookup_cons] at e
    cases q : y == x with
    | true =>
      rw [q] at e
      have : y = x := by simpa using q
      subst this
      cases e
      exact d.is h X e1 e2 e3 e4 e5
    | false => rw [q] at e; exact t.look X e1 e2 e3 e4 e5 y ps R e
inductive Cns (mg : MG) (K : PySem.W.Frag) : List (Str × D) → Prop
  | nil : Cns mg K []
  | cons {x : Str} {d : D} {r : List (Str × D)} (h : ∃ u v, mg x = some u ∧ RelV v u ∧ ∀ F, Rep K mg F v d) (t : Cns mg K r) : Cns mg K ((x, d) :: r)
theorem Cns.at : ∀ {l : List (Str × D)}, Cns mg K l → ∀ (i : Nat) x d, l[i]? = some (x, d) → ∃ u v, mg x = some u ∧ RelV v u ∧ ∀ F, Rep K mg F v d
  | _, .nil, _, _, _, h => by simp at h
  | _, .cons h t, 0, x, d, e => by
    simp at e
    obtain ⟨rfl, rfl⟩ := e
    exact h
  | _, .cons h t, i + 1, x, d, e => t.at i x d (by simpa using e)
theorem cn_int {x : Str} {i : Int} {t : Tok} (h : mg x = some (.int i t)) : ∃ u v, mg x = some u ∧ RelV v u ∧ ∀ F, Rep K mg F v (.int i) := ⟨_, .int i, h, ⟨t, rfl⟩, fun _ => .int i⟩
inductive Nos (mg : MG) : List Str → Prop
  | nil : Nos mg []
  | cons {x : Str} {r : List Str} (h : mg x = none) (t : Nos mg r) : Nos mg (x :: r)
theorem Nos.at : ∀ {l : List Str}, Nos mg l → ∀ (i : Nat) x, l[i]? = some x → mg x = none
  | _, .nil, _, _, h => by simp at h
  | _, .cons h t, 0, x, e => by
    simp at e
    subst e
    exact h
  | _, .cons h t, i + 1, x, e => t.at i x (by simpa using e)
/-- names of a module's built-in functions -/
inductive Bifs (mg : MG) : List (Str × String) → Prop
  | nil : Bifs mg []
  | cons {x : Str} {id : String} {r : List (Str × String)} (h : mg x = some (.builtin id)) (t : Bifs mg r) : Bifs mg ((x, id) :: r)
theorem Bifs.at {mg : MG} : ∀ {l : List (Str × String)}, Bifs mg l → ∀ x id, (x, id) ∈ l → mg x = some (.builtin id)
  | _, .nil, _, _, h => nomatch h
  | _, .cons h t, x, id, m => by
    rcases List.mem_cons.mp m with e | e
    · cases e; exact h
    · exact t.at x id e
/-- the rows of a table of own classes -/
inductive Exs (P : Program) (w : World) (K : PySem.W.Frag) (mg : MG) (base : Heap) (k : Nat) : List ExcRow → Prop
  | nil : Exs P w K mg base k []
  | cons {r : ExcRow} {l : List ExcRow} (h : ExcOk P w K mg base k r) (t : Exs P w K mg base k l) : Exs P w K mg base k (r :: l)
theorem Exs.at {P : Program} {w : World} {base : Heap} {k : Nat} : ∀ {l : List ExcRow}, Exs P w K mg base k l → ∀ r ∈ l, ExcOk P w K mg base k r
  | _, .nil, _, h => nomatch h
  | _, .cons h t, r, m => by
    rcases List.mem_cons.mp m with e | e
    · rw [e]; exact h
    · exact t.at r e
/-- a def that stands, from its body -/
theorem def_mk {P : Program} {w : World} {base : Heap} {x : Str} {st : Stmt} {f : Addr} {fd : FuncData} {C : Ctx} {ps : List Str} {B : DS} {nn : Nat} (hm : mg x = some (.ref f)) (F : Fun K x x st f fd) (kb : KB ps ps.length [] [])
    (hst : ((defArgs st).args.map (·.arg) = ps ∧ (defArgs st).posonlyargs = [] ∧ (defArgs st).kwonlyargs = [] ∧ (defArgs st).defaults = []) ∧ (defArgs st).vararg = none ∧ (defArgs st).kwarg = none)
    (Sc : FnScope C.N ps (defScope st)) (hsc : C.sc = defScope st) (hfc : C.fnc = fun _ => true) (hn : C.N.length = nn)
    (hb : PDB C (defBody st) B) (fns : Defs P w K mg base C.k C.fns) (hof : Defs P w K mg base C.k C.hof) (cns : Cns mg K C.cns) (blt : Nos mg C.blt) (exs : Exs P w K mg base C.k C.exs := by exact .nil) (bfn : Bifs mg C.bfn := by exact .nil) : Def P w K mg base (C.k + 2) x ps (mkFn ps.length nn B) := by
  obtain ⟨⟨a1, a2, a3, a4⟩, a5, a6⟩ := hst
  refine ⟨st, f, fd, hm, F, fn_ok F Sc hsc hfc hn hb (fun X e1 e2 e3 e4 e5 => ⟨fns.at X e1 e2 e3 e4 e5, hof.look X e1 e2 e3 e4 e5⟩) cns.at blt.at exs.at bfn.at, a1, a2, a3, a4, a5, a6, binds_of kb (fun_plain F a1 a2 a3 a5 a6)⟩
end PD
namespace PD
open PySem PySem.Spec PyProof.Rows L2
variable {K : PySem.W.Frag} {mg : MG}
/-! ### rows of ints, sorted, each once -/
theorem ilt_or_ge (a b : Int) : a < b ∨ b ≤ a := by omega
def insR (x : List Int) : List (List Int) → List (List Int)
  | [] => [x]
  | y :: r => if x = y then y :: r else if HT.lexLt x y = true then x :: y :: r else y :: insR x r
def ssR (rows : List (List Int)) : List (List Int) := rows.foldr insR []
theorem lex_irr : ∀ x : List Int, HT.lexLt x x = false
  | [] => rfl
  | a :: r => by rw [HT.lexLt_cons, if_pos rfl]; exact lex_irr r
theorem lex_trans : ∀ {x y z : List Int}, HT.lexLt x y = true → HT.lexLt y z = true → HT.lexLt x z = true
  | [], [], _, h, _ => by cases h
  | [], _ :: _, [], _, h => by cases h
  | [], _ :: _, _ :: _, _, _ => rfl
  | _ :: _, [], _, h, _ => by cases h
  | _ :: _, _ :: _, [], _, h => by cases h
  | a :: r, b :: s, c :: t, h1, h2 => by
    rw [HT.lexLt_cons] at h1 h2 ⊢
    by_cases e1 : a = b
    · subst e1
      rw [if_pos rfl] at h1
      by_cases e2 : a = c
      · rw [if_pos e2] at h2 ⊢; exact lex_trans h1 h2
      · rw [if_neg e2] at h2 ⊢; exact h2
    · rw [if_neg e1] at h1
      have l1 := of_decide_eq_true h1
      by_cases e2 : b = c
      · subst e2; rw [if_neg e1]; exact h1
      · rw [if_neg e2] at h2
        have l2 := of_decide_eq_true h2
        rw [if_neg (by omega)]
        exact decide_eq_true (by omega)
theorem lex_tot : ∀ {x y : List Int}, x ≠ y → HT.lexLt x y = false → HT.lexLt y x = true
  | [], [], h, _ => absurd rfl h
  | [], _ :: _, _, h => by cases h
  | _ :: _, [], _, _ => rfl
  | a :: r, b :: s, h, h1 => by
    rw [HT.lexLt_cons] at h1 ⊢
    by_cases e : a = b
    · subst e
      rw [if_pos rfl] at h1 ⊢
      exact lex_tot (fun e => h (by rw [e])) h1
    · rw [if_neg e] at h1
      rw [if_neg (fun z => e z.symm)]
      have := of_decide_eq_false h1
      exact decide_eq_true (by omega)
theorem insR_mem {x z : List Int} : ∀ {l : List (List Int)}, z ∈ insR x l ↔ z = x ∨ z ∈ l
  | [] => by simp [insR]
  | y :: r => by
    unfold insR
    by_cases e : x = y
    · rw [if_pos e]; subst e; simp
    · rw [if_neg e]
      split
      · simp
      · simp only [List.mem_cons, insR_mem]
        constructor
        · rintro (h | h | h) <;> simp [h]
        · rintro (h | h | h) <;> simp [h]
theorem insR_sorted {x : List Int} : ∀ {l : List (List Int)}, l.Pairwise (fun a b => HT.lexLt a b = true) → (insR x l).Pairwise (fun a b => HT.lexLt a b = true)
  | [], _ => by simp [insR]
  | y :: r, h => by
    obtain ⟨h1, h2⟩ := List.pairwise_cons.mp h
    unfold insR
    by_cases e : x = y
    · rw [if_pos e]; exact h
    · rw [if_neg e]
      split
      · rename_i c
        refine List.pairwise_cons.mpr ⟨fun z hz => ?_, h⟩
        rcases List.mem_cons.mp hz with q | q
        · rw [q]; exact c
        · exact lex_trans c (h1 z q)
      · rename_i c
        refine List.pairwise_cons.mpr ⟨fun z hz => ?_, insR_sorted h2⟩
        rcases insR_mem.mp hz with q | q
        · rw [q]; exact lex_tot e (by simpa using c)
        · exact h1 z q
theorem ssR_mem {z : List Int} : ∀ {l : List (List Int)}, z ∈ ssR l ↔ z ∈ l
  | [] => by simp [ssR]
  | x :: r => by
    show z ∈ insR x (ssR r) ↔ _
    rw [insR_mem, ssR_mem, List.mem_cons]
theorem ssR_sorted : ∀ (l : List (List Int)), (ssR l).Pairwise (fun a b => HT.lexLt a b = true)
  | [] => .nil
  | x :: r => insR_sorted (ssR_sorted r)
theorem sorted_ext : ∀ {a b : List (List Int)}, a.Pairwise (fun a b => HT.lexLt a b = true) → b.Pairwise (fun a b => HT.lexLt a b = true) → (∀ z, z ∈ a ↔ z ∈ b) → a = b
  | [], [], _, _, _ => rfl
  | [], y :: s, _, _, h => by have := (h y).mpr (by simp); cases this
  | x :: r, [], _, _, h => by have := (h x).mp (by simp); cases this
  | x :: r, y :: s, ha, hb, h => by
    obtain ⟨a1, a2⟩ := List.pairwise_cons.mp ha
    obtain ⟨b1, b2⟩ := List.pairwise_cons.mp hb
    have no : ∀ {u v : List Int}, HT.lexLt u v = true → HT.lexLt v u = true → False := fun p q => by
      have := lex_trans p q
      rw [lex_irr] at this; cases this
    have e : x = y := by
      rcases List.mem_cons.mp ((h x).mp (by simp)) with q | q
      · exact q
      · rcases List.mem_cons.mp ((h y).mpr (by simp)) with q' | q'
        · exact q'.symm
        · exact (no (b1 x q) (a1 y q')).elim
    subst e
    congr 1
    refine sorted_ext a2 b2 fun z => ?_
    constructor
    · intro m
      rcases List.mem_cons.mp ((h z).mp (List.mem_cons_of_mem _ m)) with q | q
      · subst q; have := a1 _ m; rw [lex_irr] at this; cases this
      · exact q
    · intro m
      rcases List.mem_cons.mp ((h z).mpr (List.mem_cons_of_mem _ m)) with q | q
      · subst q; have := b1 _ m; rw [lex_irr] at this; cases this
      · exact q
theorem code_lex {B : Int} : ∀ {x y : List Int}, x.length = y.length → TS.Bd B x → TS.Bd B y → TS.code B x ≤ TS.code B y → x ≠ y → HT.lexLt x y = true
  | [], [], _, _, _, _, h => absurd rfl h
  | a :: r, b :: s, hl, hx, hy, hc, hn => by
    have hl' : r.length = s.length := by simpa using hl
    rw [HT.lexLt_cons]
    by_cases e : a = b
    · subst e
      rw [if_pos rfl]
      refine code_lex hl' hx.tail hy.tail ?_ fun z => hn (by rw [z])
      have := (TS.code_same (B := B) (d := a) hl'.symm)
      rcases PD.ilt_or_ge (TS.code B s) (TS.code B r) with q | q
      · have := this.mpr q; omega
      · exact q
    · rw [if_neg e]
      refine decide_eq_true ?_
      rcases PD.ilt_or_ge a b with q | q
      · exact q
      · have := TS.code_lt hl'.symm hy.tail hx.tail (show b < a by omega)
        omega
/-- the rows of a list of tuples of ints -/
def rowsD : List D → Option (List (List Int))
  | [] => some []
  | .tup ds :: r => match intsOf ds, rowsD r with
    | some ns, some rs => some (ns :: rs)
    | _, _ => none
  | _ => none
def rowD (ns : List Int) : D := .tup (ns.map .int)
theorem rowsD_map : ∀ (rs : List (List Int)), rowsD (rs.map rowD) = some rs
  | [] => rfl
  | ns :: rs => by
    rw [List.map_cons]
    show rowsD (.tup (ns.map .int) :: rs.map rowD) = _
    unfold rowsD
    rw [intsOf_map, rowsD_map rs]
theorem reps_rows {F : Hp} : ∀ {ds : List D} {xs : List V} {rs : List (List Int)}, Reps K mg F xs ds → rowsD ds = some rs →
    ∃ ks : List (Addr × List Int), xs = ks.map (fun p => V.ref p.1) ∧ rs = ks.map (·.2) ∧ ∀ p ∈ ks, SqT K F p.1 (p.2.map V.int)
  | [], _, _, .nil, e => by cases e; exact ⟨[], rfl, rfl, by simp⟩
  | d :: r, _, _, .cons h q, e => by
    cases d with
    | tup ds =>
      unfold rowsD at e
      cases e1 : intsOf ds with
      | none => rw [e1] at e; cases e
      | some ns =>
        cases e2 : rowsD r with
        | none => rw [e1, e2] at e; cases e
        | some rs =>
          rw [e1, e2] at e; cases e
          obtain ⟨ks, h1, h2, h3⟩ := reps_rows q e2
          cases h with
          | tup hs hr =>
            rename_i a xs
            refine ⟨(a, ns) :: ks, by rw [h1]; rfl, by rw [h2]; rfl, fun p hp => ?_⟩
            rcases List.mem_cons.mp hp with z | z
            · subst z
              rw [← reps_ints hr e1]; exact hs
            · exact h3 p z
    | _ => unfold rowsD at e; cases e
def ssOk (rs : List (List Int)) : Bool := rs.length < 64 && rs.all fun r => r.length == (rs.headD [0]).length && r.length != 0 && r.all fun i => decide (0 ≤ i)
def ssD (ds : List D) : Option (List D) := match rowsD ds with
  | some rs => if ssOk rs = true then some ((ssR rs).map rowD) else none
  | none => none
theorem bd_ex : ∀ rs : List (List Int), (∀ r ∈ rs, ∀ i ∈ r, 0 ≤ i) → ∃ B : Int, 0 < B ∧ ∀ r ∈ rs, TS.Bd B r := by
  have one : ∀ r : List Int, ∃ B : Int, 0 < B ∧ ∀ i ∈ r, i < B := by
    intro r
    induction r with
    | nil => exact ⟨1, by decide, by simp⟩
    | cons a r ih =>
      obtain ⟨B, h0, h⟩ := ih
      refine ⟨max B (a + 1), by omega, fun i hi => ?_⟩
      rcases List.mem_cons.mp hi with q | q
      · subst q; omega
      · have := h i q; omega
  intro rs
  induction rs with
  | nil => intro _; exact ⟨1, by decide, by simp⟩
  | cons r rs ih =>
    intro h
    obtain ⟨B, h0, hB⟩ := ih fun r' hr => h r' (List.mem_cons_of_mem _ hr)
    obtain ⟨B1, g0, gB⟩ := one r
    refine ⟨max B B1, by omega, fun r' hr i hi => ⟨h r' hr i hi, ?_⟩⟩
    rcases List.mem_cons.mp hr with q | q
    · subst q; have := gB i hi; omega
    · have := (hB r' q i hi).2; omega
def ssL : D → Option (List D)
  | .lst ds => ssD ds
  | _ => none
def lSS (f : DE) : DL := fun env M => (f env M).bind fun w M1 => match (cont M1 w).bind ssL with | some ds => .ok ds M1 | none => .bad
section
variable {C : Ctx} {pos p1 p2 p3 pos2 : Pos} {e : Expr} {f fa : DE} {x : Str}
theorem pl_ss (i j : Nat) (hi : C.blt[i]? = some "sorted") (hj : C.blt[j]? = some "set") (gi : glB C.sc "sorted" = true) (gj : glB C.sc "set" = true) (he : PDE C e f)
    (h1 : ∀ env, starEach [e] env = (false, eval e env) :: starEach [] env := by intro _; rfl)
    (h2 : ∀ env, starEach [.Call (.Name "set" p2) [e] [] pos2] env = (false, eval (.Call (.Name "set" p2) [e] [] pos2) env) :: starEach [] env := by intro _; rfl) :
    PDL C (.Call (.Name "sorted" p1) [.Call (.Name "set" p2) [e] [] pos2] [] pos) (lSS f) := by
  refine ⟨fun X Wx G tk => ?_⟩
  obtain ⟨g1, g2, g3⟩ := glB_gl (X := X) (x := "sorted") (by rw [G.sc]; exact gi)
  obtain ⟨k1, k2, k3⟩ := glB_gl (X := X) (x := "set") (by rw [G.sc]; exact gj)
  refine PE_imp (pe_callB (cr_sortedT G.calm) g1 (G.blt i _ hi) (by decide +kernel) (L2.pa_cons (pe_callTy (cr_setOfT G.calm (by have := room65 G; omega)) k1 (G.blt j _ hj) (by decide +kernel) (L2.pa_cons (he.run X Wx G tk) L2.pa_nil (h1 _)) k3 k2 (h1 _)) L2.pa_nil (h2 _)) g3 g2 (h2 _)) fun σ H Q ⟨F, ρ, M, env, R, S, p⟩ => ?_
  refine ⟨F, ρ, M, env, R, S, (RPost.seq p).imp fun v H1 ⟨F1, ρ1, M1, w, x1, R1, r1, p1⟩ => ?_⟩
  cases ec : cont M1 w with
  | none => simp only [ec, Option.bind_none] at p1; exact p1.elim
  | some d =>
    simp only [ec, Option.bind_some] at p1
    cases d with
    | lst ds =>
      obtain ⟨a, xs, rfl, hs, rr⟩ := RepC.ofW R1 r1 ec
      cases es : ssD ds with
      | none => simp only [ssL, es] at p1; exact p1.elim
      | some zs =>
        simp only [ssL, es] at p1
        unfold ssD at es
        cases er : rowsD ds with
        | none => rw [er] at es; cases es
        | some rs =>
          rw [er] at es
          simp only at es
          split at es
          · rename_i ok
            cases es
            obtain ⟨ks, rfl, rfl, hk⟩ := reps_rows rr er
            unfold ssOk at ok
            rw [Bool.and_eq_true] at ok
            obtain ⟨o1, o2⟩ := ok
            have o1 := of_decide_eq_true o1
            rw [List.length_map] at o1
            have o2 := List.all_eq_true.mp o2
            obtain ⟨B, hB0, hB⟩ := bd_ex (ks.map (·.2)) fun r hr i hi => by
              have := o2 r hr
              simp only [Bool.and_eq_true, List.all_eq_true, decide_eq_true_eq] at this
              exact this.2 i hi
            have hk1 : ∀ p ∈ ks, SqT X.K H1 p.1 (p.2.map V.int) := fun p hp => SqT.mono R1.sub (hk p hp)
            have hd : ∀ p ∈ ks, p.2.length = ((ks.map (·.2)).headD [0]).length ∧ p.2.length ≠ 0 := fun p hp => by
              have := o2 p.2 (List.mem_map_of_mem hp)
              simp only [Bool.and_eq_true] at this
              exact ⟨by simpa using this.1.1, by simpa using this.1.2⟩
            refine ⟨a, ks, rfl, hs, hk1, o1, fun sa L hsa hL hL2 => ?_⟩
            have hk2 : ∀ p ∈ L, SqT X.K (upd H1 sa (SetTO X.prog X.w sa L)) p.1 (p.2.map V.int) := fun p hp => SqT.mono (Sub.upd hsa) (hk1 p (hL p hp))
            refine ⟨sa, L, ((ks.map (·.2)).headD [0]).length, B, rfl, upd_same, hk2, ?_, fun p hp => ⟨(hd p (hL p hp)).1, hB _ (List.mem_map_of_mem (hL p hp))⟩, fun L' p' pm nd lt pw hp' => ?_⟩
            · cases ks with
              | nil => exact Nat.le_refl _
              | cons k ks =>
                have := (hd k (by simp)).2
                simp only [List.map_cons, List.headD_cons]
                omega
            · have hsort : (L'.map (·.2)).Pairwise (fun a b => HT.lexLt a b = true) := by
                have nd' := List.pairwise_map.mp nd
                refine List.pairwise_map.mpr ((pw.and nd').imp_of_mem fun {q r} hq hr hh => ?_)
                have mq := hL q (pm.mem_iff.mp hq)
                have mr := hL r (pm.mem_iff.mp hr)
                exact code_lex ((hd q mq).1.trans (hd r mr).1.symm) (hB _ (List.mem_map_of_mem mq)) (hB _ (List.mem_map_of_mem mr)) hh.1 hh.2
              have e : L'.map (·.2) = ssR (ks.map (·.2)) := by
                refine sorted_ext hsort (ssR_sorted _) fun z => ?_
                rw [ssR_mem]
                constructor
                · intro m
                  obtain ⟨q, hq, rfl⟩ := List.mem_map.mp m
                  exact List.mem_map_of_mem (hL q (pm.mem_iff.mp hq))
                · intro m
                  obtain ⟨q, hq, rfl⟩ := List.mem_map.mp m
                  obtain ⟨q', hq', e⟩ := List.mem_map.mp (hL2 q hq)
                  exact List.mem_map.mpr ⟨q', pm.mem_iff.mpr hq', e⟩
              rw [← e] at p1
              have R2 := R1.newH hsa (SetTO X.prog X.w sa L)
              have x2 := R1.extH hsa (SetTO X.prog X.w sa L)
              obtain ⟨f1, f2⟩ := R2.fresh hp'
              have hne : H1 p' = none := none_anti x2.there hp'
              refine p1 F1 ρ1 _ _ (x2.trans (R2.extH hp' _)) (R2.newH hp' _) ⟨p', _, rfl, hne, f1, f2, upd_same, ?_⟩
              have key : ∀ L2 : List (Addr × List Int), (∀ q ∈ L2, q ∈ ks) → Reps X.K X.mg F1 (L2.map fun q => V.ref q.1) ((L2.map (·.2)).map rowD) := by
                intro L2
                induction L2 with
                | nil => intro _; exact .nil
                | cons q L2 ih => intro hq; exact .cons (Rep.tup (hk q (hq q (by simp))) (Reps.ints _)) (ih fun r hr => hq r (List.mem_cons_of_mem _ hr))
              exact key L' fun q hq => hL q (pm.mem_iff.mp hq)
          · cases es
    | _ => simp only [ssL] at p1; exact p1.elim
/-! ### list(range(..)) -/
def lLR1 (f : DE) : DL := fun env M => (f env M).bind fun w M1 => match w with
  | .d (.int n) => if n ≤ 16777216 ∧ -16777216 ≤ n then .ok (rngD 0 n.toNat) M1 else .bad
  | _ => .bad
def lLR2 (f g : DE) : DL := fun env M => (f env M).bind fun w M1 => (g env M1).bind fun u M2 => match w, u with
  | .d (.int a), .d (.int b) => if (a ≤ 16777216 ∧ -16777216 ≤ a) ∧ b ≤ 16777216 ∧ -16777216 ≤ b ∧ (b - a).toNat ≤ 16777216 then .ok (rngD a (b - a).toNat) M2 else .bad
  | _, _ => .bad
theorem reps_rg {F : Hp} (a b : Int) : Reps K mg F (rgV a b) (rngD a (b - a).toNat) := by
  unfold rgV rngD
  generalize List.range (b - a).toNat = l
  induction l with
  | nil => exact .nil
  | cons i l ih => exact .cons (.int _) ih
theorem pl_lr1 (i j : Nat) (hi : C.blt[i]? = some "list") (hj : C.blt[j]? = some "range") (gi : glB C.sc "list" = true) (gj : glB C.sc "range" = true) (he : PDE C e f)
    (h1 : ∀ env, starEach [e] env = (false, eval e env) :: starEach [] env := by intro _; rfl)
    (h2 : ∀ env, starEach [.Call (.Name "range" p2) [e] [] pos2] env = (false, eval (.Call (.Name "range" p2) [e] [] pos2) env) :: starEach [] env := by intro _; rfl) :
    PDL C (.Call (.Name "list" p1) [.Call (.Name "range" p2) [e] [] pos2] [] pos) (lLR1 f) := by
  refine ⟨fun X Wx G tk => ?_⟩
  obtain ⟨g1, g2, g3⟩ := glB_gl (X := X) (x := "list") (by rw [G.sc]; exact gi)
  obtain ⟨k1, k2, k3⟩ := glB_gl (X := X) (x := "range") (by rw [G.sc]; exact gj)
  refine PE_imp (pe_listRg G.calm g1 (G.blt i _ hi) (prg_1 k1 (G.blt j _ hj) (he.run X Wx G tk) (h1 _)) (h2 _)) fun σ H Q ⟨F, ρ, M, env, R, S, p⟩ => ?_
  refine ⟨F, ρ, M, env, R, S, (RPost.seq p).imp fun v H1 ⟨F1, ρ1, M1, w, x1, R1, r1, p1⟩ => ?_⟩
  split at p1
  · rename_i n
    cases (show Rep X.K X.mg F1 v (.int n) from r1)
    split at p1
    · rename_i c
      refine ⟨n, rfl, ⟨by omega, by omega, by omega, by omega, by omega⟩, fun q hq => ?_⟩
      obtain ⟨f1, f2⟩ := R1.fresh hq
      refine p1 F1 ρ1 _ _ (R1.extH hq _) (R1.newH hq _) ⟨q, _, rfl, hq, f1, f2, upd_same, ?_⟩
      have := reps_rg (K := X.K) (mg := X.mg) (F := F1) 0 n
      rw [Int.sub_zero] at this
      exact this
    · exact p1.elim
  · exact p1.elim
theorem pl_lr2 {e2 : Expr} {f2 : DE} (i j : Nat) (hi : C.blt[i]? = some "list") (hj : C.blt[j]? = some "range") (gi : glB C.sc "list" = true) (gj : glB C.sc "range" = true) (he : PDE C e f) (he2 : PDE C e2 f2)
    (h1 : ∀ env, starEach [e, e2] env = (false, eval e env) :: starEach [e2] env := by intro _; rfl) (h3 : ∀ env, starEach [e2] env = (false, eval e2 env) :: starEach [] env := by intro _; rfl)
    (hp : ∀ env, (backTo pos2 (starEach [e2] env)).any (·.1) = false := by intro _; rfl)
    (h2 : ∀ env, starEach [.Call (.Name "range" p2) [e, e2] [] pos2] env = (false, eval (.Call (.Name "range" p2) [e, e2] [] pos2) env) :: starEach [] env := by intro _; rfl) :
    PDL C (.Call (.Name "list" p1) [.Call (.Name "range" p2) [e, e2] [] pos2] [] pos) (lLR2 f f2) := by
  refine ⟨fun X Wx G tk => ?_⟩
  obtain ⟨g1, g2, g3⟩ := glB_gl (X := X) (x := "list") (by rw [G.sc]; exact gi)
  obtain ⟨k1, k2, k3⟩ := glB_gl (X := X) (x := "range") (by rw [G.sc]; exact gj)
  refine PE_imp (pe_listRg G.calm g1 (G.blt i _ hi) (prg_2 k1 (G.blt j _ hj) (he.run X Wx G tk) (he2.run X Wx G tk) (h1 _) (h3 _) (hp _)) (h2 _)) fun σ H Q ⟨F, ρ, M, env, R, S, p⟩ => ?_
  refine ⟨F, ρ, M, env, R, S, (RPost.seq p).imp fun v H1 ⟨F1, ρ1, M1, w, x1, R1, r1, p1⟩ => ?_⟩
  refine ⟨F1, ρ1, M1, env, R1, S.ext x1, (RPost.seq p1).imp fun v2 H2 ⟨F2, ρ2, M2, w2, x2, R2, r2, p2⟩ => ?_⟩
  split at p2
  · rename_i a b _
    cases (show Rep X.K X.mg F1 v (.int a) from r1)
    cases (show Rep X.K X.mg F2 v2 (.int b) from r2)
    split at p2
    · rename_i c
      refine ⟨a, b, rfl, rfl, ⟨by omega, by omega, by omega, by omega, c.2.2.2⟩, fun q hq => ?_⟩
      obtain ⟨f1, f2⟩ := R2.fresh hq
      exact p2 F2 ρ2 _ _ (R2.extH hq _) (R2.newH hq _) ⟨q, _, rfl, hq, f1, f2, upd_same, reps_rg a b⟩
    · exact p2.elim
  · exact p2.elim
/-! ### o[::-1] -/
def revD : D → Option D
  | .tup ds => some (.tup ds.reverse)
  | .lst ds => some (.lst ds.reverse)
  | _ => none
section
variable {prog : Program} {w : World} {A : Around} {E : Value → Shared → Prop} {s : Shared}
theorem fm_some {α β : Type} (f : α → Option β) (g : α → β) : ∀ (l : List α), (∀ x ∈ l, f x = some (g x)) → l.filterMap f = l.map g
  | [], _ => rfl
  | x :: r, h => by
    rw [List.filterMap_cons, h x (by simp), List.map_cons, fm_some f g r fun y hy => h y (List.mem_cons_of_mem _ hy)]
theorem pick_rev (xs : Array Value) : ((List.range xs.size).filterMap fun (m : Nat) => xs[((xs.size : Int) - 1 + (m : Int) * (-1)).toNat]?) = xs.toList.reverse := by
  have e : (List.range xs.size).filterMap (fun (m : Nat) => xs[((xs.size : Int) - 1 + (m : Int) * (-1)).toNat]?) = (List.range xs.size).map fun m => xs.getD (xs.size - 1 - m) .none := by
    refine fm_some _ _ _ fun m hm => ?_
    have hl := List.mem_range.mp hm
    have : ((xs.size : Int) - 1 + (m : Int) * (-1)).toNat = xs.size - 1 - m := by omega
    rw [this, Array.getElem?_eq_getElem (by omega)]
    unfold Array.getD
    rw [dif_pos (by omega)]
    rfl
  rw [e]
  apply List.ext_getElem?
  intro i
  by_cases h : i < xs.size
  · rw [List.getElem?_map, List.getElem?_range h, List.getElem?_reverse (by simpa using h)]
    simp only [Option.map_some, Array.length_toList]
    rw [List.getElem?_eq_getElem (by rw [Array.length_toList]; omega)]
    unfold Array.getD
    rw [dif_pos (by omega)]
    rfl
  · rw [List.getElem?_eq_none (by simp; omega), List.getElem?_eq_none (by simp; omega)]
theorem sliceApplied_rev {sl : Addr} {vs : Value} {n : Nat} {Q : Int × Int × Nat → Shared → Prop} (hs : s.heap.IsSliceOf sl .none .none vs) (ps : IsPart vs (some (-1)))
    (h : Q ((n : Int) - 1, -1, n) s) : wpAny (model prog w) A (Builtin.Slice.sliceApplied (.ref sl) (pure (n : Int))) Q E s := by
    obtain ⟨os, hos, hcs, hds⟩ := id hs
    unfold Builtin.Slice.sliceApplied Builtin.Slice.sliceFields
    refine wpAny_bind (wpAny_bind (wpAny_field hos hds (x := .none) rfl (wpAny_bind (wpAny_field hos hds (x := .none) rfl (wpAny_bind (wpAny_field hos hds (x := vs) rfl (wpAny_pure ?_)))))))
    refine wpAny_bind (HT.slicePart_ ps ?_)
    show wpAny _ _ (if ((-1 : Int) == 0) = true then _ else _) _ _ s
    rw [if_neg (by decide)]
    refine wpAny_bind (HT.slicePart_ .none (wpAny_bind (HT.slicePart_ .none (wpAny_bind (wpAny_pure ?_)))))
    have e1 : Builtin.Slice.sliceAdjust none none (-1) (n : Int) = ((n : Int) - 1, -1) := rfl
    have e2 : Builtin.Slice.slicePlaces ((n : Int) - 1) (-1) (-1) = n := by
      unfold Builtin.Slice.slicePlaces
      rw [if_neg (by decide)]
      split
      · have : ((n : Int) - 1 - -1 - 1) / (- (-1)) + 1 = n := by
          rw [show (- (-1) : Int) = 1 from rfl, Int.ediv_one]; omega
        rw [this]; omega
      · omega
    show wpAny _ _ (match Builtin.Slice.sliceAdjust none none (-1) (n : Int) with | (lo, hi) => pure (lo, (-1 : Int), Builtin.Slice.slicePlaces lo hi (-1))) _ _ s
    rw [e1]
    show wpAny _ _ (pure ((n : Int) - 1, (-1 : Int), Builtin.Slice.slicePlaces ((n : Int) - 1) (-1) (-1))) _ _ s
    rw [e2]
    exact wpAny_pure h
theorem getItem_tuple_rev {t sl : Addr} {items : Array Value} {vs : Value} {Q : Value → Shared → Prop} (ht : IsTup s.heap t items) (hs : s.heap.IsSliceOf sl .none .none vs) (ps : IsPart vs (some (-1)))
    (h : Q (.ref s.heap.objs.size) { s with heap := s.heap.push { cls := .type "tuple", data := .seq items.toList.reverse.toArray } })
    (hsz : items.size ≤ sizeLine) : wpAny (model prog w) A (getItem (.ref t) (.ref sl)) Q E s := by
  have htake : sizeOk (.seq items.toList.reverse.toArray) := by
    show items.toList.reverse.toArray.size ≤ sizeLine
    rw [List.size_toArray, List.length_reverse, Array.length_toList]
    exact hsz
  obtain ⟨os, hos, hcs, hds⟩ := id hs
  have hTs : s.TypeIs (.ref sl) "slice" := ⟨os, hos, hcs⟩
  unfold getItem
  try with_reducible refine wpAny_holding ?_
  first | refine wpAny_bind (wpAny_pure ?_) | skip
  refine wpAny_bind (wpAny_sequenceKey ht.typeIs (by decide) ?_)
  refine wpAny_bind (wpAny_callSpecial?_slot (name := Str.ofString "__getitem__") ht.typeIs PyProof.Rows.slot_tuple_getitem
    (wpAny_call_entry PyProof.Rows.slot_tuple_getitem ht.typeIs PyProof.Rows.entry_tuple_getitem ?_ (PyProof.Rows.args_tuple_getitem _ _)))
  show wpAny _ _ (Builtin.Tuple.tupleItemsOf (.ref t) >>= _) _ _ s
  refine wpAny_bind (tupleItemsOf_ ht ?_)
  refine wpAny_bind (wpAny_typeOf hTs ?_)
  rw [if_pos (by decide)]
  refine wpAny_bind (sliceApplied_rev hs ps ?_)
  have hno : ¬ ((((items.size : Int) - 1) == 0 && (-1 : Int) == 1 && items.size == items.size) = true) := by
    rw [show ((-1 : Int) == 1) = false from rfl, Bool.and_false, Bool.false_and]
    exact Bool.false_ne_true
  show wpAny _ _ (if (((items.size : Int) - 1) == 0 && (-1 : Int) == 1 && items.size == items.size) = true then _ else _) _ _ s
  rw [if_neg hno, pick_rev]
  first
    | exact wpAny_bind (m := Builtin.Tuple.tupleExact _) (wpAny_newObj_type (wpAny_pure ⟨_, rfl, wpAny_pure h⟩) htake)
    | exact wpAny_bind (m := Builtin.Tuple.tupleExact _) (wpAny_newObj_type (wpAny_bind (wpAny_pure (wpAny_pure ⟨_, rfl, wpAny_pure h⟩))) htake)
    | exact wpAny_bind (wpAny_bind (m := Builtin.Tuple.tupleExact _) (wpAny_newObj_type (wpAny_pure (wpAny_pure ⟨_, rfl, wpAny_pure h⟩)) htake))
    | exact wpAny_bind (wpAny_bind (m := Builtin.Tuple.tupleExact _) (wpAny_newObj_type (wpAny_pure ⟨_, rfl, wpAny_pure h⟩) htake))
end
def tRevA (K : PySem.W.Frag) (te : TE) : TE := fun σ H Q => te σ H fun x H1 => ∃ a xs, x = .ref a ∧ ((SqL K H1 a xs ∧ ∀ p, H1 p = none → Q (.ref p) (upd H1 p (.lst xs.reverse))) ∨ (SqT K H1 a xs ∧ ∀ p, H1 p = none → Q (.ref p) (upd H1 p (.tup xs.reverse))))
theorem pe_revA {X : Cx} {te : TE} {k : Nat} {p1 p2 p3 pos : Pos} (he : PE X e te) : PE X (.Subscript e (.Slice none none (some (.UnaryOp .USub (.Constant (.int 1) k p1) p2)) p3) pos) (tRevA X.K te) := by
  refine ⟨fun pins s σ H Q I h => ?_⟩
  refine Subscript_ (thn (he.run pins s σ H _ I h) fun v s1 ⟨x, H1, I1, r1, q1⟩ => ?_)
  obtain ⟨a, xs, ex, q⟩ := q1
  subst ex
  cases r1
  have hst : PO X (some (.UnaryOp .USub (.Constant (.int 1) k p1) p2)) (tPart (tUn (rU fun i => .int (-i)) (tC (.int 1)))) := po_some (pe_un un_neg pe_int)
  refine wpAny_Slice (thn (po_none.run pins s1 σ H1 (fun o H2 => o = none ∧ H2 = H1) I1 ⟨rfl, rfl⟩) fun vl s2 ⟨l, H2, I2, pl, el, e2⟩ => ?_)
  subst el e2
  refine thn (po_none.run pins s2 σ H2 (fun o H3 => o = none ∧ H3 = H2) I2 ⟨rfl, rfl⟩) fun vu s3 ⟨u, H3, I3, pu, eu, e3⟩ => ?_
  subst eu e3
  refine thn (hst.run pins s3 σ H3 (fun o H4 => o = some (-1) ∧ H4 = H3) I3 ⟨1, rfl, -1, rfl, rfl, rfl⟩) fun vs s4 ⟨o, H4, I4, ps, eo, e4⟩ => ?_
  subst eo e4
  have I5 : Inv X pins σ H4 { s4 with heap := s4.heap.push { cls := .type "slice", data := .fields #[vl, vu, vs] } } := I4.kept (t' := s4.toks) fun b ob q => Heap.get?_push_of_some _ q
  show wpAny (model X.prog X.w) X.A (subscriptTail e (.Slice none none (some (.UnaryOp .USub (.Constant (.int 1) k p1) p2)) p3) (.ref a) (.ref s4.heap.objs.size)) (EP X pins σ Q) X.xe { s4 with heap := s4.heap.push { cls := .type "slice", data := .fields #[vl, vu, vs] } }
  rcases q with ⟨hx, q⟩ | ⟨hx, q⟩
  · obtain ⟨its, r, ht, hz⟩ := I5.list hx
    have hlen := r.length
    refine tail_any (ops := [.ref a, .ref s4.heap.objs.size]) ht.isList.typeIs (PySem.slot_list_getitem.lookup) ?_ (by with_unfolding_all rfl)
    refine wpAny_getItem_list_slice ht.isList (Heap.IsSliceOf.new _ vl vu vs) pl pu ps (by decide) ?_ (by rw [List.size_toArray]; omega)
    rw [PySem.W.krv_pick]
    refine ⟨.ref _, _, I5.laid (t' := s4.toks) (o := .lst xs.reverse) (fun b ob q => Heap.get?_push_of_some _ q) (Nat.le_refl _) ?_, rfl, q _ (I5.hok.fresh (Nat.le_refl _))⟩
    exact ⟨by rw [List.length_reverse]; exact hz, _, 0, r.reverse, Heap.get?_push_size _ rfl⟩
  · obtain ⟨its, r, ht, hz⟩ := I5.tuple hx
    have hlen := r.length
    cases pl
    cases pu
    refine tail_any (ops := [.ref a, .ref s4.heap.objs.size]) ht.typeIs (PyProof.Rows.slot_tuple_getitem.lookup) ?_ (by with_unfolding_all rfl)
    refine getItem_tuple_rev ht (Heap.IsSliceOf.new _ .none .none vs) ps ?_ (by rw [List.size_toArray]; omega)
    refine ⟨.ref _, _, I5.laid (t' := s4.toks) (o := .tup xs.reverse) (fun b ob q => Heap.get?_push_of_some _ q) (Nat.le_refl _) ?_, rfl, q _ (I5.hok.fresh (Nat.le_refl _))⟩
    exact ⟨by rw [List.length_reverse]; exact hz, its.reverse, r.reverse, IsTup.new _ _⟩
theorem pd_rev {a : Expr} {k : Nat} {p3 : Pos} (ha : PDE C a fa) : PDE C (.Subscript a (.Slice none none (some (.UnaryOp .USub (.Constant (.int 1) k p1) p2)) p3) pos) (cUn revD fa) := by
  refine ⟨fun X Wx G tk => PE_imp (pe_revA (ha.run X Wx G tk)) fun σ H Q ⟨F, ρ, M, env, R, S, p⟩ => ?_⟩
  refine ⟨F, ρ, M, env, R, S, (RPost.seq p).imp fun v H1 ⟨F1, ρ1, M1, w, x1, R1, r1, p1⟩ => ?_⟩
  cases e : cont M1 w with
  | none => rw [e] at p1; exact p1.elim
  | some d =>
    rw [e] at p1
    have r := RepC.ofW R1 r1 e
    cases d with
    | tup ds =>
      cases (show Rep X.K X.mg F1 v (.tup ds) from r) with
      | tup h1 q1 =>
        refine ⟨_, _, rfl, .inr ⟨SqT.mono R1.sub h1, fun p' hp => ?_⟩⟩
        obtain ⟨y1, y2, y3⟩ := R1.tup hp q1.reverse
        exact p1 _ ρ1 _ _ y1 y2 y3
    | lst ds =>
      obtain ⟨a', xs, rfl, h1, q1⟩ := r
      refine ⟨_, _, rfl, .inl ⟨h1, fun p' hp => ?_⟩⟩
      obtain ⟨y1, y2, y3⟩ := R1.lst hp q1.reverse
      exact p1 _ ρ1 _ _ y1 y2 y3
    | _ => exact p1.elim
/-! ### {k: v}, one pair of constants -/
theorem pd_dic1 {k v : Expr} {kk : L2.Key} {d : D} {vv : V} (hk : ∀ X : Cx, PE X k (tC (kV kk))) (hv : ∀ X : Cx, PE X v (tC vv)) (hd : ∀ K mg F, Rep K mg F vv d) : PDE C (.Dict [some k] [v] pos) (cK (.dic [(kk, d)])) := by
  refine ⟨fun X Wx G tk => PE_imp (pe_lk (pe_disp (pps_cons (hk X) (hv X) pps_nil) rfl rfl (by simp) (by simp))) fun σ H Q ⟨F, ρ, M, env, R, S, p⟩ p' hp => ?_⟩
  refine ⟨upd_same, [(kk, vv)], rfl, by simp, ?_⟩
  have e : upd (upd H p' (.dK [])) p' (.dK (mergeK [] [(kk, vv)])) = upd H p' (.dK [(kk, vv)]) := by
    funext b
    by_cases hb : b = p'
    · subst hb; rw [upd_same, upd_same]; rfl
    · rw [upd_ne hb, upd_ne hb, upd_ne hb]
  show ∃ a u, _ = V.ref a ∧ (upd (upd H p' (.dK [])) p' (.dK (mergeK [] [(kk, vv)]))) a = some u ∧ Mut (some u) ∧ ∀ od, Q _ (upd (upd (upd H p' (.dK [])) p' (.dK (mergeK [] [(kk, vv)]))) a (.frz od u))
  rw [e]
  refine ⟨_, _, rfl, upd_same, True.intro, fun od => ?_⟩
  rw [upd_upd]
  exact p _ ρ _ _ (R.extF hp _) (R.newF hp _) (Rep.dic upd_same (.cons (hd _ _ _) .nil))
end
end PD
namespace PD
open PySem PySem.Spec PyProof.Rows L2
variable {K : PySem.W.Frag} {mg : MG}
theorem bt_int : bootBuiltins "int" = some (.type "int") := by decide +kernel
theorem bt_str : bootBuiltins "str" = some (.type "str") := by decide +kernel
theorem bt_bool : bootBuiltins "bool" = some (.type "bool") := by decide +kernel
theorem bt_list : bootBuiltins "list" = some (.type "list") := by decide +kernel
theorem bt_tuple : bootBuiltins "tuple" = some (.type "tuple") := by decide +kernel
theorem bt_dict : bootBuiltins "dict" = some (.type "dict") := by decide +kernel
theorem bt_set : bootBuiltins "set" = some (.type "set") := by decide +kernel
theorem bt_len : bootBuiltins "len" = some (.builtin "len") := by decide +kernel
theorem bt_abs : bootBuiltins "abs" = some (.builtin "abs") := by decide +kernel
theorem bt_all : bootBuiltins "all" = some (.builtin "all") := by decide +kernel
theorem bt_any : bootBuiltins "any" = some (.builtin "any") := by decide +kernel
theorem bt_sum : bootBuiltins "sum" = some (.builtin "sum") := by decide +kernel
theorem bt_max : bootBuiltins "max" = some (.builtin "max") := by decide +kernel
theorem bt_min : bootBuiltins "min" = some (.builtin "min") := by decide +kernel
theorem bt_isinstance : bootBuiltins "isinstance" = some (.builtin "isinstance") := by decide +kernel
theorem lk_len : ∀ {l : List (Str × List Str × Fn)} {y : Str} {ps : List Str} {R : Fn}, (∀ z ∈ l, lenOk z.2.1.length z.2.2) → l.lookup y = some (ps, R) → lenOk ps.length R
  | [], _, _, _, _, h => by simp at h
  | (x, ps0, R0) :: r, y, ps, R, hl, h => by
    rw [List.lookup_cons] at h
    cases q : y == x with
    | true => rw [q] at h; cases h; exact hl (x, ps0, R0) (by simp)
    | false => rw [q] at h; exact lk_len (fun z hz => hl z (List.mem_cons_of_mem _ hz)) h
/-- a statement that is not come to -/
def sBad : DS := fun _ _ => .bad
theorem ps_bad {C : Ctx} {st : Stmt} : PDS C st sBad := by
  refine ⟨fun X Wx G tk => ?_⟩
  refine ⟨fun pins s σ H De I h => ?_⟩
  obtain ⟨F, ρ, M, env, R, S, p⟩ := h
  exact p.elim
def cBad : DE := fun _ _ => .bad
theorem pd_bad {C : Ctx} {e : Expr} : PDE C e cBad := by
  refine ⟨fun X Wx G tk => ?_⟩
  refine ⟨fun pins s σ H Q I h => ?_⟩
  obtain ⟨F, ρ, M, env, R, S, p⟩ := h
  exact p.elim
theorem def_bad {P : Program} {w : World} {base : Heap} {x : Str} {st : Stmt} {f : Addr} {fd : FuncData} {N ps : List Str} {k : Nat} (hm : mg x = some (.ref f)) (F : Fun K x x st f fd) (kb : KB ps ps.length [] [])
    (hst : ((defArgs st).args.map (·.arg) = ps ∧ (defArgs st).posonlyargs = [] ∧ (defArgs st).kwonlyargs = [] ∧ (defArgs st).defaults = []) ∧ (defArgs st).vararg = none ∧ (defArgs st).kwarg = none)
    (Sc : FnScope N ps (defScope st)) : Def P w K mg base (k + 2) x ps (fun _ _ => .bad) := by
  obtain ⟨⟨a1, a2, a3, a4⟩, a5, a6⟩ := hst
  refine ⟨st, f, fd, hm, F, ?_, a1, a2, a3, a4, a5, a6, binds_of kb (fun_plain F a1 a2 a3 a5 a6)⟩
  refine F.okX Sc (fun vs H Q E h => ?_) (fun cdv A outer s H vs Q E hr h => ?_)
  · obtain ⟨F0, ρ, M, ws, l, R, r, p⟩ := h
    exact p.elim
  · obtain ⟨F0, ρ, M, ws, l, R, r, p⟩ := h
    exact p.elim
theorem sw_of {ts : List Expr} {v : Expr} {r : Sem (Option (List Str))} {sc : Scope} (h : swappedStores ts v ⟨sc, 0, 0, [], Str.empty, none, .none, none, 0⟩ = r) : ∀ env : Env, env.scope = sc → env.scope.kind = .function → swappedStores ts v env = r := by
  intro env e _
  subst e
  exact h
theorem fn_mk {P : Program} {w : World} {base : Heap} {x : Str} {st : Stmt} {f : Addr} {fd : FuncData} {C : Ctx} {ps : List Str} {B : DS} {nn : Nat} (F : Fun K x x st f fd)
    (Sc : FnScope C.N ps (defScope st)) (hsc : C.sc = defScope st) (hfc : C.fnc = fun _ => true) (hn : C.N.length = nn)
    (hb : PDB C (defBody st) B) (fns : Defs P w K mg base C.k C.fns) (hof : Defs P w K mg base C.k C.hof) (cns : Cns mg K C.cns) (blt : Nos mg C.blt) (exs : Exs P w K mg base C.k C.exs := by exact .nil) (bfn : Bifs mg C.bfn := by exact .nil) : FnOk P w K mg base (L2.CX P w) (C.k + 2) f fd ps (spOf K mg ps.length (mkFn ps.length nn B)) :=
  fn_ok F Sc hsc hfc hn hb (fun X e1 e2 e3 e4 e5 => ⟨fns.at X e1 e2 e3 e4 e5, hof.look X e1 e2 e3 e4 e5⟩) cns.at blt.at exs.at bfn.at
def spLaw (K : PySem.W.Frag) : Sp := fun vs H Q _ => ∃ (a : Addr) (ns : List Int), vs = [.ref a] ∧ ns.length ≤ 63 ∧ SqL K H a (ns.map V.int) ∧ ∀ H', Q (.bl true) H'
theorem law_fn {P : Program} {w : World} {base : Heap} {f : Addr} {fd : FuncData} {ps : List Str} {k : Nat} {CX : CXT} {R : Fn} (hR : ∀ ns : List Int, ns.length ≤ 63 → ∃ M', R [.d (.lst (ns.map .int))] [] = .ok (.d (.bl true)) M')
    (F : FnOk P w K mg base CX k f fd ps (spOf K mg 1 R)) : FnOk P w K mg base CX k f fd ps (spLaw K) := by
  refine F.imp fun vs H Q E h => ?_
  obtain ⟨a, ns, rfl, hl, hs, q⟩ := h
  obtain ⟨M', e⟩ := hR ns hl
  refine ⟨H, [], [], [.d (.lst (ns.map .int))], rfl, ⟨.refl _, rfl, .nil, by simp, by simp⟩, .cons (Rep.lst hs (Reps.ints ns)) .nil, ?_⟩
  rw [e]
  intro F' ρ' H' v x R' r
  cases (show Rep K mg F' v (.bl true) from r)
  exact q H'
end PD
namespace PD
open PySem PySem.Spec PyProof.Rows L2
/-! ### what a plain function must answer -/
def Ok {α : Type} (r : Res α) (Q : α → Store → Prop) : Prop := match r with | .ok a M => Q a M | _ => False
@[simp] theorem Ok_ok {α : Type} {a : α} {M : Store} {Q : α → Store → Prop} : Ok (.ok a M) Q = Q a M := rfl
@[simp] theorem Ok_bad {α : Type} {Q : α → Store → Prop} : Ok (.bad : Res α) Q = False := rfl
@[simp] theorem Ok_bind {α β : Type} {r : Res α} {k : α → Store → Res β} {Q : β → Store → Prop} : Ok (r.bind k) Q = Ok r fun a M => Ok (k a M) Q := by cases r <;> rfl
theorem Ok.mono {α : Type} {r : Res α} {Q Q' : α → Store → Prop} (h : Ok r Q) (i : ∀ a M, Q a M → Q' a M) : Ok r Q' := by
  cases r with
  | ok a M => exact i a M h
  | err x M => exact h
  | bad => exact h
theorem Ok.ex {α : Type} {r : Res α} {Q : α → Store → Prop} (h : Ok r Q) : ∃ a M, r = .ok a M ∧ Q a M := by
  cases r with
  | ok a M => exact ⟨a, M, rfl, h⟩
  | err x M => exact h.elim
  | bad => exact h.elim
def OkS (r : SRes) (n : Ev → Store → Prop) (t : W → Store → Prop) : Prop := match r with | .nx e M => n e M | .ret w M => t w M | _ => False
@[simp] theorem OkS_nx {e : Ev} {M : Store} {n : Ev → Store → Prop} {t : W → Store → Prop} : OkS (.nx e M) n t = n e M := rfl
@[simp] theorem OkS_ret {w : W} {M : Store} {n : Ev → Store → Prop} {t : W → Store → Prop} : OkS (.ret w M) n t = t w M := rfl
@[simp] theorem OkS_bad {n : Ev → Store → Prop} {t : W → Store → Prop} : OkS .bad n t = False := rfl
@[simp] theorem OkS_then {r : SRes} {k : Ev → Store → SRes} {n : Ev → Store → Prop} {t : W → Store → Prop} : OkS (r.then k) n t = OkS r (fun e M => OkS (k e M) n t) t := by cases r <;> rfl
@[simp] theorem OkS_ofR {α : Type} {r : Res α} {env : Ev} {k : α → Store → SRes} {n : Ev → Store → Prop} {t : W → Store → Prop} : OkS (ofR r env k) n t = Ok r fun a M => OkS (k a M) n t := by cases r <;> rfl
theorem OkS.mono {r : SRes} {n n' : Ev → Store → Prop} {t t' : W → Store → Prop} (h : OkS r n t) (i : ∀ e M, n e M → n' e M) (j : ∀ w M, t w M → t' w M) : OkS r n' t' := by
  cases r with
  | nx e M => exact i e M h
  | ret w M => exact j w M h
  | _ => exact h
theorem OkS_seq {f g : DS} {env : Ev} {M : Store} {n : Ev → Store → Prop} {t : W → Store → Prop} (h : ∀ n' : Ev → Store → Prop, (∀ e M', OkS (g e M') n t → n' e M') → OkS (f env M) n' t) : OkS (sSeq f g env M) n t := by
  show OkS ((f env M).then g) n t
  rw [OkS_then]
  exact h _ fun e M' q => q
@[simp] theorem cont_mt (M : Store) (i : Nat) : cont M (.mt i) = match M[i]? with | some (some ds) => some (.lst ds) | _ => none := rfl
theorem Ok_fn {np nn : Nat} {B : DS} {ws : List W} {M : Store} {Q : W → Store → Prop} (hl : ws.length = np)
    (h : OkS (B (startE nn ws) M) (fun _ M' => Q (.d .non) (M'.take M.length)) (fun w M' => Ok (finish M.length w M') Q)) : Ok (mkFn np nn B ws M) Q := by
  unfold mkFn
  rw [if_pos hl]
  cases e : B (startE nn ws) M with
  | nx e' M' => rw [e] at h; exact h
  | ret w M' => rw [e] at h; exact h
  | _ => rw [e] at h; exact h.elim
theorem Ok_comp {env0 : Ev} {g : DG} {ft : DT} {fe : DE} {Q : List D → Store → Prop} (Inv : List D → Store → Prop) : ∀ (ds : List D) (M : Store) (ys : List D), Inv ys M →
    (∀ d ∈ ds, ∀ ys M, Inv ys M → ∃ p, g (.d d) env0 M = some p ∧ Ok (ft p.1 p.2) fun b M2 => (b = true → Ok (fe p.1 M2) fun w M3 => ∃ y, w = .d y ∧ Inv (ys ++ [y]) M3) ∧ (b = false → Inv ys M2)) →
    (∀ zs M', Inv (ys ++ zs) M' → Q zs M') → Ok (compL env0 g ft fe ds M) Q
  | [], M, ys, h0, _, hq => by
    unfold compL
    exact hq [] M (by rw [List.append_nil]; exact h0)
  | d :: r, M, ys, h0, hs, hq => by
    unfold compL
    obtain ⟨p, e, h1⟩ := hs d (by simp) ys M h0
    rw [e]
    obtain ⟨b, M2, e2, h2, h3⟩ := h1.ex
    simp only [e2]
    cases b with
    | true =>
      obtain ⟨w, M3, e3, y, rfl, h4⟩ := (h2 rfl).ex
      simp only [e3, Ok_bind]
      refine Ok_comp Inv r M3 (ys ++ [y]) h4 (fun d hd => hs d (List.mem_cons_of_mem _ hd)) fun zs M' hz => ?_
      rw [Ok_ok]
      exact hq (y :: zs) M' (by rw [List.append_assoc] at hz; exact hz)
    | false =>
      refine Ok_comp Inv r M2 ys (h3 rfl) (fun d hd => hs d (List.mem_cons_of_mem _ hd)) hq
/-- a comprehension that only reads -/
theorem comp_pure {env0 : Ev} {g : DG} {ft : DT} {fe : DE} {M : Store} (c : D → Bool) (f : D → D) : ∀ (ds : List D),
    (∀ d ∈ ds, ∃ env, g (.d d) env0 M = some (env, M) ∧ ft env M = .ok (c d) M ∧ (c d = true → fe env M = .ok (.d (f d)) M)) → compL env0 g ft fe ds M = .ok ((ds.filter c).map f) M
  | [], _ => rfl
  | d :: r, h => by
    unfold compL
    obtain ⟨env, e1, e2, e3⟩ := h d (by simp)
    have ih := comp_pure c f r fun d hd => h d (List.mem_cons_of_mem _ hd)
    simp only [e1, e2]
    cases hc : c d with
    | true => simp only [e3 hc, ih, Res.bind_ok, List.filter_cons, hc, if_true, List.map_cons]
    | false => simp only [ih, List.filter_cons, hc]; rfl
theorem OkS_loop {g : DG} {fb : DS} {n : Ev → Store → Prop} {t : W → Store → Prop} (Inv : List D → Ev → Store → Prop) : ∀ (ds : List D) (env : Ev) (M : Store), Inv ds env M →
    (∀ d r env M, Inv (d :: r) env M → ∃ p, g (.d d) env M = some p ∧ OkS (fb p.1 p.2) (Inv r) t) → (∀ env M, Inv [] env M → n env M) → OkS (loopF g fb ds env M) n t
  | [], env, M, h0, _, hn => hn env M h0
  | d :: r, env, M, h0, hs, hn => by
    unfold loopF
    obtain ⟨p, e, h1⟩ := hs d r env M h0
    rw [e]
    cases e2 : fb p.1 p.2 with
    | nx env2 M2 => rw [e2] at h1; simp only [e2]; exact OkS_loop Inv r env2 M2 h1 hs hn
    | ret w M2 => rw [e2] at h1; simp only [e2]; exact h1
    | _ => rw [e2] at h1; exact h1.elim
/-! ### the pool -/
def Pl (p : Nat) (M : Store) : Prop := ∃ a b c : Int, M[p]? = some (some [.int a, .int b, .int c])
structure Fr (p : Nat) (M M' : Store) : Prop where
  len : M'.length = M.length
  rest : ∀ i, i ≠ p → M'[i]? = M[i]?
  pl : Pl p M'
theorem Fr.refl {p : Nat} {M : Store} (h : Pl p M) : Fr p M M := ⟨rfl, fun _ _ => rfl, h⟩
theorem Fr.trans {p : Nat} {M M' M'' : Store} (a : Fr p M M') (b : Fr p M' M'') : Fr p M M'' := ⟨b.len.trans a.len, fun i h => (b.rest i h).trans (a.rest i h), b.pl⟩
theorem Pl.lt {p : Nat} {M : Store} (h : Pl p M) : p < M.length := by
  obtain ⟨a, b, c, e⟩ := h
  exact (List.getElem?_eq_some_iff.mp e).1
theorem Fr.set {p : Nat} {M : Store} (h : p < M.length) (a b c : Int) : Fr p M (M.set p (some [.int a, .int b, .int c])) :=
  ⟨by simp, fun i hi => List.getElem?_set_ne (Ne.symm hi), a, b, c, by rw [List.getElem?_set_self h]⟩
theorem Fr.take {p : Nat} {M M' : Store} (h : p < M.length) (len : M.length ≤ M'.length) (rest : ∀ i, i < M.length → i ≠ p → M'[i]? = M[i]?) (pl : Pl p M') : Fr p M (M'.take M.length) := by
  refine ⟨by rw [List.length_take]; omega, fun i hi => ?_, ?_⟩
  · rw [List.getElem?_take]
    split
    · rename_i c; exact rest i c hi
    · rename_i c; rw [List.getElem?_eq_none (by omega)]
  · obtain ⟨a, b, c, e⟩ := pl
    exact ⟨a, b, c, by rw [List.getElem?_take, if_pos h]; exact e⟩
/-! ### slices -/
@[simp] theorem cut_to (xs : List D) (n : Nat) : cutD xs none (some (n : Int)) = xs.take n := by
  unfold cutD
  rw [HT.sIx_none, HT.sIx_nat, List.drop_zero, Nat.sub_zero]
  rcases Nat.le_total n xs.length with h | h
  · rw [Nat.min_eq_left h]
  · rw [Nat.min_eq_right h, List.take_of_length_le (Nat.le_refl _), List.take_of_length_le h]
@[simp] theorem cut_from (xs : List D) (n : Nat) : cutD xs (some (n : Int)) none = xs.drop n := by
  unfold cutD
  rw [HT.sIx_none, HT.sIx_nat]
  rcases Nat.le_total n xs.length with h | h
  · rw [Nat.min_eq_left h, List.take_of_length_le (by rw [List.length_drop]; exact Nat.le_refl _)]
  · rw [Nat.min_eq_right h, List.drop_of_length_le (Nat.le_refl _), List.drop_of_length_le h, List.take_nil]
@[simp] theorem cut_from1 (xs : List D) (n : Nat) : cutD xs (some ((n : Int) + 1)) none = xs.drop (n + 1) := cut_from xs (n + 1)
theorem perm_out {α : Type} (xs ys : List α) (n : Nat) (h : n < xs.length) : (xs.take n ++ xs.drop (n + 1) ++ (ys ++ [xs[n]])).Perm (xs ++ ys) := by
  have e : xs = xs.take n ++ xs[n] :: xs.drop (n + 1) := by
    rw [← List.drop_eq_getElem_cons h, List.take_append_drop]
  have p1 : (xs.take n ++ xs.drop (n + 1) ++ (ys ++ [xs[n]])).Perm (xs.take n ++ xs[n] :: xs.drop (n + 1) ++ ys) := by
    simp only [List.append_assoc, List.cons_append]
    refine List.Perm.append_left _ ?_
    have : (xs.drop (n + 1) ++ (ys ++ [xs[n]])).Perm ([xs[n]] ++ (xs.drop (n + 1) ++ ys)) := by
      rw [← List.append_assoc]
      exact List.perm_append_comm
    exact this
  rw [← e] at p1
  exact p1
theorem OkS_k {r : SRes} {n : Ev → Store → Prop} {t : W → Store → Prop} (h : ∀ n' : Ev → Store → Prop, (∀ e M', n e M' → n' e M') → OkS r n' t) : OkS r n t := h n fun _ _ q => q
theorem Ok_k {α : Type} {r : Res α} {Q : α → Store → Prop} (h : ∀ Q' : α → Store → Prop, (∀ a M', Q a M' → Q' a M') → Ok r Q') : Ok r Q := h Q fun _ _ q => q
/-! ### equality of small things -/
@[simp] theorem eqD_int (a b : Int) : eqD (.int a) (.int b) = some (a == b) := by unfold eqD; simp only [toPy]; rw [if_pos ⟨rfl, rfl⟩]; rfl
@[simp] theorem eqD_bl (a b : Bool) : eqD (.bl a) (.bl b) = some (a == b) := by unfold eqD; simp only [toPy]; rw [if_pos ⟨rfl, rfl⟩]; rfl
@[simp] theorem eqD_nn : eqD (.lst []) (.lst []) = some true := rfl
@[simp] theorem eqD_in (a : Int) : eqD (.lst [.int a]) (.lst []) = some false := rfl
@[simp] theorem eqD_non : eqD (.lst [.non]) (.lst []) = some false := rfl
theorem mem_rngD {lo : Int} {n : Nat} {d : D} (h : d ∈ rngD lo n) : ∃ i : Nat, i < n ∧ d = .int (lo + i) := by
  simp only [rngD, List.mem_map, List.mem_range] at h
  obtain ⟨i, h1, h2⟩ := h
  exact ⟨i, h1, h2.symm⟩
theorem boolsOf_mapf {α : Type} (f : α → Bool) (l : List α) : boolsOf (l.map fun x => D.bl (f x)) = some (l.map f) := by
  have := boolsOf_map (l.map f)
  rw [List.map_map] at this
  exact this
theorem comp_all {env0 : Ev} {g : DG} {fe : DE} {M : Store} (f : D → D) (ds : List D)
    (h : ∀ d ∈ ds, ∃ env, g (.d d) env0 M = some (env, M) ∧ fe env M = .ok (.d (f d)) M) : compL env0 g tTrue fe ds M = .ok (ds.map f) M := by
  have := comp_pure (env0 := env0) (g := g) (ft := tTrue) (fe := fe) (M := M) (fun _ => true) f ds fun d hd => by
    obtain ⟨env, h1, h2⟩ := h d hd
    exact ⟨env, h1, rfl, fun _ => h2⟩
  rw [this, List.filter_eq_self.mpr (fun _ _ => rfl)]
mutual
def clean : D → Bool
  | .ty _ => false
  | .fn _ => false
  | .tup ds => decide (ds.length ≤ 65536) && cleans ds
  | _ => true
def cleans : List D → Bool
  | [] => true
  | d :: r => clean d && cleans r
end
theorem cleans_iff : ∀ {ds : List D}, cleans ds = true ↔ ∀ d ∈ ds, clean d = true
  | [] => by simp [cleans]
  | d :: r => by simp [cleans, cleans_iff (ds := r)]
theorem clean_tup {ds : List D} : clean (.tup ds) = true ↔ ds.length ≤ 65536 ∧ ∀ d ∈ ds, clean d = true := by
  show (decide (ds.length ≤ 65536) && cleans ds) = true ↔ _
  rw [Bool.and_eq_true, cleans_iff, decide_eq_true_iff]
theorem clean_lim {ds : List D} (h : clean (.tup ds) = true) : ds.length ≤ LIM := by
  have := (clean_tup.mp h).1
  unfold LIM
  omega
/-! ### places -/
@[simp] theorem at_nat {α : Type} (xs : List α) (i : Nat) : atI xs (i : Int) = xs[i]? := by
  unfold atI ixN
  rw [if_pos (by omega)]
  by_cases h : i < xs.length
  · rw [if_pos (by omega)]; rfl
  · rw [if_neg (by omega), List.getElem?_eq_none (by omega)]; rfl
@[simp] theorem at_nat1 {α : Type} (xs : List α) (i : Nat) : atI xs ((i : Int) + 1) = xs[i + 1]? := at_nat xs (i + 1)
@[simp] theorem at_0 {α : Type} (xs : List α) : atI xs 0 = xs[0]? := at_nat xs 0
@[simp] theorem at_1 {α : Type} (xs : List α) : atI xs 1 = xs[1]? := at_nat xs 1
@[simp] theorem at_2 {α : Type} (xs : List α) : atI xs 2 = xs[2]? := at_nat xs 2
@[simp] theorem at_3 {α : Type} (xs : List α) : atI xs 3 = xs[3]? := at_nat xs 3
@[simp] theorem at_4 {α : Type} (xs : List α) : atI xs 4 = xs[4]? := at_nat xs 4
@[simp] theorem at_5 {α : Type} (xs : List α) : atI xs 5 = xs[5]? := at_nat xs 5
@[simp] theorem cut_to1 (xs : List D) : cutD xs none (some 1) = xs.take 1 := cut_to xs 1
@[simp] theorem cut_from_1 (xs : List D) : cutD xs (some 1) none = xs.drop 1 := cut_from xs 1
theorem mem_rng {lo n : Nat} {d : D} (h : d ∈ rngD (lo : Int) n) : ∃ i : Nat, lo ≤ i ∧ i < lo + n ∧ d = .int (i : Int) := by
  obtain ⟨i, h1, h2⟩ := mem_rngD h
  exact ⟨lo + i, by omega, by omega, by rw [h2]; simp⟩
/-! ### all of .. -/
def allB {α : Type} (p : α → Bool) (l : List α) : Bool := l.all p
def anyB {α : Type} (p : α → Bool) (l : List α) : Bool := l.any p
theorem allB_iff {α : Type} {p : α → Bool} {l : List α} : allB p l = true ↔ ∀ x ∈ l, p x = true := by simp [allB]
theorem allB_no {α : Type} {p : α → Bool} {l : List α} : allB p l = false ↔ ∃ x ∈ l, p x = false := by simp [allB]
theorem anyB_iff {α : Type} {p : α → Bool} {l : List α} : anyB p l = true ↔ ∃ x ∈ l, p x = true := by simp [anyB]
@[simp] theorem gAll_map {α : Type} (f : α → Bool) (l : List α) : gAll [.lst (l.map fun x => .bl (f x))] = some (.bl (allB f l)) := by
  unfold gAll
  simp only [boolsOf_mapf, Option.map_some, List.all_map]
  rfl
@[simp] theorem gAny_map {α : Type} (f : α → Bool) (l : List α) : gAny [.lst (l.map fun x => .bl (f x))] = some (.bl (anyB f l)) := by
  unfold gAny
  simp only [boolsOf_mapf, Option.map_some, List.any_map]
  rfl
theorem allB_map {α β : Type} (p : β → Bool) (f : α → β) (l : List α) : allB p (l.map f) = allB (fun x => p (f x)) l := by
  unfold allB; rw [List.all_map]; rfl
theorem allB_congr {α : Type} {p q : α → Bool} {l : List α} (h : ∀ x ∈ l, p x = q x) : allB p l = allB q l := by
  rw [Bool.eq_iff_iff, allB_iff, allB_iff]
  exact ⟨fun a x hx => (h x hx) ▸ a x hx, fun a x hx => (h x hx).symm ▸ a x hx⟩
theorem mem_enum : ∀ {ds : List D} {k : Nat} {p : D}, p ∈ enumD k ds → ∃ (i : Int) (x : D), x ∈ ds ∧ p = .tup [.int i, x]
  | [], _, _, h => by simp [enumD] at h
  | d :: r, k, p, h => by
    unfold enumD at h
    rcases List.mem_cons.mp h with h | h
    · exact ⟨_, d, by simp, h⟩
    · obtain ⟨i, x, hx, e⟩ := mem_enum h
      exact ⟨i, x, List.mem_cons_of_mem _ hx, e⟩
/-- the first wrong place, if any -/
def badP (p : D → Bool) : D → Bool
  | .tup [_, x] => !p x
  | _ => false
def fstD : D → D
  | .tup [i, _] => i
  | _ => .non
theorem wrong_eq (p : D → Bool) : ∀ (ds : List D) (k : Nat), eqD (.lst ((((enumD k ds).filter (badP p)).map fstD).take 1)) (.lst []) = some (allB p ds)
  | [], _ => rfl
  | d :: r, k => by
    show eqD (.lst ((((D.tup [.int (k : Nat), d] :: enumD (k + 1) r).filter (badP p)).map fstD).take 1)) (.lst []) = some (p d && allB p r)
    rw [List.filter_cons]
    cases c : p d with
    | true =>
      rw [if_neg (by simp [badP, c])]
      exact wrong_eq p r (k + 1)
    | false =>
      rw [if_pos (by simp [badP, c]), List.map_cons, List.take_succ_cons, List.take_zero]
      exact eqD_in _
@[simp] theorem gAll_two (a b : Bool) : gAll [.lst [.bl a, .bl b]] = some (.bl (a && b)) := by simp [gAll, boolsOf]
theorem OkS_if {ft : DT} {f g : DS} {env : Ev} {M M1 : Store} {b : Bool} {n : Ev → Store → Prop} {t : W → Store → Prop} (h : ft env M = .ok b M1) (h1 : b = true → OkS (f env M1) n t) (h2 : b = false → OkS (g env M1) n t) : OkS (sIf ft f g env M) n t := by
  unfold sIf
  rw [h, OkS_ofR, Ok_ok]
  cases b with
  | true => rw [if_pos rfl]; exact h1 rfl
  | false => rw [if_neg (by decide)]; exact h2 rfl
theorem Ok_compT {env0 : Ev} {g : DG} {fe : DE} (P : D → Prop) (I : Store → Prop) : ∀ (ds : List D) (M : Store), I M →
    (∀ d ∈ ds, ∀ M, I M → ∃ p, g (.d d) env0 M = some p ∧ Ok (fe p.1 p.2) fun w M3 => ∃ y, w = .d y ∧ P y ∧ I M3) →
    Ok (compL env0 g tTrue fe ds M) fun zs M' => zs.length = ds.length ∧ (∀ z ∈ zs, P z) ∧ I M'
  | [], M, h0, _ => ⟨rfl, by simp, h0⟩
  | d :: r, M, h0, hs => by
    unfold compL
    obtain ⟨p, e, h1⟩ := hs d (by simp) M h0
    obtain ⟨w, M3, e3, y, rfl, hy, h4⟩ := h1.ex
    rw [e]
    simp only [tTrue, e3, Ok_bind]
    refine (Ok_compT P I r M3 h4 fun d hd => hs d (List.mem_cons_of_mem _ hd)).mono ?_
    rintro zs M' ⟨a1, a2, a3⟩
    rw [Ok_ok]
    refine ⟨by simp [a1], fun z hz => ?_, a3⟩
    rcases List.mem_cons.mp hz with q | q
    · rw [q]; exact hy
    · exact a2 z q
theorem ints_of {P : Int → Prop} : ∀ {zs : List D}, (∀ z ∈ zs, ∃ i, z = .int i ∧ P i) → ∃ ns : List Int, zs = ns.map .int ∧ ∀ n ∈ ns, P n
  | [], _ => ⟨[], rfl, by simp⟩
  | z :: r, h => by
    obtain ⟨i, rfl, hi⟩ := h z (by simp)
    obtain ⟨ns, rfl, hn⟩ := ints_of fun z hz => h z (List.mem_cons_of_mem _ hz)
    refine ⟨i :: ns, rfl, fun n hn' => ?_⟩
    rcases List.mem_cons.mp hn' with q | q
    · rw [q]; exact hi
    · exact hn n q
theorem cleans_append {a b : List D} : cleans (a ++ b) = (cleans a && cleans b) := by
  rw [Bool.eq_iff_iff, Bool.and_eq_true, cleans_iff, cleans_iff, cleans_iff]
  constructor
  · exact fun h => ⟨fun d hd => h d (List.mem_append_left _ hd), fun d hd => h d (List.mem_append_right _ hd)⟩
  · rintro ⟨h1, h2⟩ d hd
    rcases List.mem_append.mp hd with q | q
    · exact h1 d q
    · exact h2 d q
theorem cleans_sub {a b : List D} (h : cleans b = true) (s : ∀ d ∈ a, d ∈ b) : cleans a = true := cleans_iff.mpr fun d hd => cleans_iff.mp h d (s d hd)
theorem cleans_take {a : List D} (h : cleans a = true) (n : Nat) : cleans (a.take n) = true := cleans_sub h fun d hd => List.mem_of_mem_take hd
theorem cleans_drop {a : List D} (h : cleans a = true) (n : Nat) : cleans (a.drop n) = true := cleans_sub h fun d hd => List.mem_of_mem_drop hd
theorem cleans_rev {a : List D} (h : cleans a = true) : cleans a.reverse = true := cleans_sub h fun d hd => List.mem_reverse.mp hd
theorem cleans_cut {a : List D} (h : cleans a = true) (lo hi : Option Int) : cleans (cutD a lo hi) = true := cleans_sub h fun d hd => by
  unfold cutD at hd
  exact List.mem_of_mem_drop (List.mem_of_mem_take hd)
theorem cut_len (a : List D) (lo hi : Option Int) : (cutD a lo hi).length ≤ a.length := by
  unfold cutD
  rw [List.length_take, List.length_drop]
  omega
theorem cleans_map {f : D → D} {a : List D} (h : ∀ d ∈ a, clean (f d) = true) : cleans (a.map f) = true := cleans_iff.mpr fun d hd => by
  obtain ⟨x, hx, rfl⟩ := List.mem_map.mp hd
  exact h x hx
theorem cleans_ints (ns : List Int) : cleans (ns.map .int) = true := cleans_iff.mpr fun d hd => by
  obtain ⟨i, _, rfl⟩ := List.mem_map.mp hd
  rfl
theorem clean_tupB {ds : List D} : clean (.tup ds) = (decide (ds.length ≤ 65536) && cleans ds) := rfl
theorem Ok_compF {env0 : Ev} {g : DG} {ft : DT} {fe : DE} (I : Store → Prop) : ∀ (ds : List D) (M : Store), I M →
    (∀ d ∈ ds, ∀ M, I M → ∃ p, g (.d d) env0 M = some p ∧ Ok (ft p.1 p.2) fun _ M2 => I M2 ∧ fe p.1 M2 = .ok (.d d) M2) →
    Ok (compL env0 g ft fe ds M) fun zs M' => zs.Sublist ds ∧ I M'
  | [], M, h0, _ => ⟨.slnil, h0⟩
  | d :: r, M, h0, hs => by
    unfold compL
    obtain ⟨p, e, h1⟩ := hs d (by simp) M h0
    obtain ⟨b, M3, e3, h4, h5⟩ := h1.ex
    rw [e]
    have ih := Ok_compF I r M3 h4 fun d hd => hs d (List.mem_cons_of_mem _ hd)
    cases b with
    | true =>
      simp only [e3, h5, Ok_bind]
      refine ih.mono ?_
      rintro zs M' ⟨a1, a2⟩
      exact ⟨a1.cons₂ d, a2⟩
    | false =>
      simp only [e3]
      refine ih.mono ?_
      rintro zs M' ⟨a1, a2⟩
      exact ⟨a1.cons d, a2⟩
theorem boolsOf_true : ∀ {zs : List D}, (∀ z ∈ zs, z = .bl true) → boolsOf zs = some (zs.map fun _ => true)
  | [], _ => rfl
  | z :: r, h => by
    have e := h z (by simp)
    subst e
    have ih := boolsOf_true (zs := r) fun z hz => h z (List.mem_cons_of_mem _ hz)
    simp [boolsOf, ih]
theorem gAll_true {zs : List D} (h : ∀ z ∈ zs, z = .bl true) : gAll [.lst zs] = some (.bl true) := by
  unfold gAll
  simp only [boolsOf_true h, Option.map_some, List.all_map]
  congr 2
  rw [List.all_eq_true]
  intro _ _
  rfl
end PD
namespace PD
open PySem PySem.Spec PyProof.Rows L2
/-! ### rows of ints of any lengths, sorted -/
/-- v is a tuple of these ints -/
def IsRow (h : Heap) (v : Value) (ns : List Int) : Prop := ∃ (a : Addr) (items : Array Value), v = .ref a ∧ IsTup h a items ∧ IntsAre items.toList ns
theorem IsRow.keeps {h h' : Heap} {v : Value} {ns : List Int} (x : IsRow h v ns) (k : ∀ b o, h.get? b = some o → o.cls = .type "tuple" → h'.get? b = some o) : IsRow h' v ns := by
  obtain ⟨a, items, e, ⟨o, ho, hc, r⟩, i⟩ := x
  exact ⟨a, items, e, ⟨o, k _ _ ho hc, hc, r⟩, i⟩
section
variable {prog : Program} {w : World} {A : Around} {E : Value → Shared → Prop} {s : Shared}
theorem katlex_ints {b fin : Bool} {R : Bool} : ∀ {xs ys : List Value} {ns ms : List Int} {i : Nat}, IntsAre xs ns → IntsAre ys ms → fin = decide (ns.length < ms.length) → R = HT.lexLt ns ms →
    PySem.W.KatLex prog w A b fin (fun r s' => s' = s ∧ r = R) (xs.zip ys) i s
  | [], [], [], [], _, .nil, .nil, hf, hR => PySem.W.kat_nil ⟨rfl, by rw [hf, hR]; rfl⟩
  | [], _ :: _, [], _ :: _, _, .nil, .cons _ _ _, hf, hR => PySem.W.kat_nil ⟨rfl, by rw [hf, hR]; simp [HT.lexLt]⟩
  | _ :: _, [], _ :: _, [], _, .cons _ _ _, .nil, hf, hR => PySem.W.kat_nil ⟨rfl, by rw [hf, hR]; simp [HT.lexLt]⟩
  | _ :: xs, _ :: ys, n :: ns, m :: ms, i, .cons _ t hx, .cons _ u hy, hf, hR => by
    rw [HT.lexLt_cons] at hR
    rw [List.zip_cons_cons]
    refine PySem.W.kat_cons (SeqAt.EqAt.int_int n t m u prog w _ _ ?_)
    refine PySem.W.kat_go (fun e1 => ?_) (fun e1 => ?_)
    · have ex : n = m := by simpa using e1
      rw [if_pos ex] at hR
      exact PySem.W.kat_yes (katlex_ints hx hy (by rw [hf]; simp) hR)
    · have ex : ¬ n = m := by simpa using e1
      rw [if_neg ex] at hR
      exact PySem.W.kat_no (TS.oneLt_ints _ ⟨rfl, hR.symm⟩)
theorem rows_lt_t {b : Bool} {v u : Value} {ns ms : List Int} (hv : IsRow s.heap v ns) (hu : IsRow s.heap u ms) : wpAny (model prog w) A (keyLt' (tuples' b) v u) (fun r s' => s' = s ∧ r = HT.lexLt ns ms) (fun _ _ => False) s := by
  obtain ⟨a, xs, rfl, ⟨o, ho, hc, n, hd⟩, i⟩ := hv
  obtain ⟨a', ys, rfl, ⟨o', ho', hc', n', hd'⟩, i'⟩ := hu
  refine PySem.W.kat_lt ho hd ho' hd' ?_
  refine katlex_ints i i' ?_ rfl
  have z1 : xs.size = ns.length := by rw [← i.length]; simp
  have z2 : ys.size = ms.length := by rw [← i'.length]; simp
  rw [z1, z2]
theorem rows_lt_o {v u : Value} {ns ms : List Int} (hA : A.units < cLine) (hv : IsRow s.heap v ns) (hu : IsRow s.heap u ms) : wpAny (model prog w) A (keyLt' oneType' v u) (fun r s' => s' = s ∧ r = HT.lexLt ns ms) (fun _ _ => False) s := by
  obtain ⟨a, xs, rfl, hx, i⟩ := hv
  obtain ⟨a', ys, rfl, hy, i'⟩ := hu
  have tx := hx.typeIs
  obtain ⟨⟨cls, dd, data, sl⟩, ho, hc, n, hd⟩ := id hx
  obtain ⟨⟨cls2, dd2, data2, sl2⟩, ho2, hc2, n2, hd2⟩ := id hy
  simp only at hc hd hc2 hd2
  subst hc hd hc2 hd2
  rw [keyLt'_oneType, oneLt'_eq]
  simp only [if_true]
  refine wpAny_bind (wpAny_cRoomFor hA ?_)
  refine wpAny_bind (wpAny_callSpecialIfBound?_slot tx PySem.F.slot_tuple_lt (call_meets PySem.F.slot_tuple_lt ⟨_, ho, rfl⟩ PySem.F.entry_tuple_lt (PySem.F.args_tuple_lt_2 _ _) (HT.tuple_lt_ints a a' xs ys n n2 dd dd2 sl sl2 ns ms i i') ⟨ho, ho2, ?_⟩))
  exact wpAny_truthy_bool ⟨rfl, rfl⟩
theorem rows_lt_g {v u : Value} {ns ms : List Int} (hA : A.units < cLine) (hv : IsRow s.heap v ns) (hu : IsRow s.heap u ms) : wpAny (model prog w) A (keyLt' general' v u) (fun r s' => s' = s ∧ r = HT.lexLt ns ms) (fun _ _ => False) s := by
  obtain ⟨a, xs, rfl, hx, i⟩ := hv
  obtain ⟨a', ys, rfl, hy, i'⟩ := hu
  show wpAny (model prog w) A (oneLt' false (.ref a) (.ref a')) _ _ s
  exact PySem.W.kat_one _ _ (HT.lt_tupInts hx hy i i' hA ⟨rfl, rfl⟩)
theorem firsts_rows : ∀ (vs : List Value) (k : Value → List Int) {Q : List (Option Value) → Shared → Prop}, (∀ v ∈ vs, IsRow s.heap v (k v)) →
    (∀ fs : List (Option Value), Paired (fun v f => (k v = [] → f = none) ∧ (k v ≠ [] → ∃ x t, f = some (Value.int x t))) vs fs → Q fs s) → wpAny (model prog w) A (vs.mapM firstOfTuple') Q E s
  | [], _, _, _, h => by rw [List.mapM_nil]; exact wpAny_pure (h [] .nil)
  | v :: vs, k, Q, hv, h => by
    obtain ⟨a, items, e, ⟨o, ho, hc, n, hd⟩, i⟩ := hv v (by simp)
    rw [List.mapM_cons]
    refine wpAny_bind ?_
    rw [PySem.W.kas_first_eq, e]
    refine wpAny_bind (PySem.W.Looks.here (show PySem.W.Looks (model prog w) s.heap (typeOf (.ref a)) o.cls from (PySem.W.Looks.ld ho).andThen .now) ?_)
    rw [hc, if_neg (by first | decide | simp)]
    refine wpAny_bind (listItems_at ho hd (wpAny_pure ?_))
    refine wpAny_bind (firsts_rows vs k (Q := fun bs s' => wpAny (model prog w) A (pure (items[0]? :: bs)) Q E s') (fun v hm => hv v (List.mem_cons_of_mem _ hm)) fun fs pf => wpAny_pure (h _ (.cons ⟨fun hk => ?_, fun hk => ?_⟩ pf)))
    · rw [hk] at i
      have : items.toList = [] := by cases hh : items.toList with | nil => rfl | cons _ _ => rw [hh] at i; cases i
      have z : items.size = 0 := by rw [← Array.length_toList, this]; rfl
      exact Array.getElem?_eq_none (by omega)
    · cases hh : items.toList with
      | nil => rw [hh] at i; cases hk' : k v with | nil => exact absurd hk' hk | cons _ _ => rw [hk'] at i; cases i
      | cons x r =>
        rw [hh] at i
        cases hk' : k v with
        | nil => exact absurd hk' hk
        | cons m ms =>
          rw [hk'] at i
          cases i with
          | cons _ t _ =>
            refine ⟨m, t, ?_⟩
            rw [← Array.getElem?_toList, hh]
            rfl
theorem katTups_rows {h : Heap} : ∀ (vs : List Value) (k : Value → List Int), (∀ v ∈ vs, IsRow h v (k v) ∧ k v ≠ []) → ∃ fs, PySem.W.KatTups h vs fs ∧ fs.length = vs.length ∧ ∀ f ∈ fs, ∃ x t, f = Value.int x t
  | [], _, _ => ⟨[], .nil, rfl, by simp⟩
  | v :: vs, k, hv => by
    obtain ⟨⟨a, items, e, ⟨o, ho, hc, n, hd⟩, i⟩, hk⟩ := hv v (by simp)
    obtain ⟨fs, h1, h2, h3⟩ := katTups_rows vs k fun v hm => hv v (List.mem_cons_of_mem _ hm)
    cases hh : items.toList with
    | nil => rw [hh] at i; cases hk' : k v with | nil => exact absurd hk' hk | cons _ _ => rw [hk'] at i; cases i
    | cons x r =>
      rw [hh] at i
      cases hk' : k v with
      | nil => exact absurd hk' hk
      | cons m ms =>
        rw [hk'] at i
        cases i with
        | cons _ t _ =>
          refine ⟨.int m t :: fs, ?_, by simp [h2], fun f hf => ?_⟩
          · rw [e]
            exact PySem.W.KatTups.cons ho hc hd (by rw [← Array.getElem?_toList, hh]; rfl) h1
          · rcases List.mem_cons.mp hf with q | q
            · exact ⟨m, t, q⟩
            · exact h3 f q
theorem rows_kind {vs : List Value} {k : Value → List Int} (h2 : 2 ≤ vs.length) (hv : ∀ v ∈ vs, IsRow s.heap v (k v)) :
    ∃ κ, (κ = tuples' true ∨ κ = oneType' ∨ κ = general') ∧ ∀ (Q : SortKind → Shared → Prop) (E : Value → Shared → Prop), Q κ s → wpAny (model prog w) A (keyKind' vs.toArray) Q E s := by
  by_cases ha : ∀ v ∈ vs, k v ≠ []
  · obtain ⟨fs, h1, hl, h3⟩ := katTups_rows vs k fun v hm => ⟨hv v hm, ha v hm⟩
    refine ⟨tuples' true, .inl rfl, fun Q E hq => ?_⟩
    refine PySem.W.kat_kind (T := .type "int") h1 (by omega) (fun f hm => ?_) (by rfl) ?_
    · obtain ⟨x, t, rfl⟩ := h3 f hm
      exact PySem.W.Looks.now
    · have e : (Value.type "int" != Value.type "tuple") = true := by first | decide +kernel | rfl | decide
      rw [e]
      exact hq
  · obtain ⟨v₁, rest, rfl⟩ : ∃ v₁ rest, vs = v₁ :: rest := by
      match vs, h2 with
      | v₁ :: rest, _ => exact ⟨v₁, rest, rfl⟩
    have nall : ∀ fs : List (Option Value), Paired (fun v f => (k v = [] → f = none) ∧ (k v ≠ [] → ∃ x t, f = some (Value.int x t))) (v₁ :: rest) fs → ¬ ((fs.toArray.all fun x => x.isSome) = true) := by
      intro fs pf q
      apply ha
      intro v hm e
      obtain ⟨j, hj⟩ := List.getElem?_of_mem hm
      rcases paired_get pf j with ⟨q1, _⟩ | ⟨v', f, q1, q2, q3, _⟩
      · rw [hj] at q1; cases q1
      · rw [hj] at q1
        cases q1
        have hf := q3 e
        subst hf
        have q' : fs.all (fun x => x.isSome) = true := by simpa using q
        have := List.all_eq_true.mp q' none (List.mem_of_getElem? q2)
        cases this
    by_cases h1 : k v₁ = []
    · refine ⟨oneType', .inr (.inl rfl), fun Q E hq => ?_⟩
      rw [PyProof.Rows.kat_kind_eq, List.mapM_toArray, map_eq_pure_bind]
      refine wpAny_bind (wpAny_bind (firsts_rows _ k hv fun fs pf => wpAny_pure ?_))
      rw [if_neg (nall fs pf)]
      have h0 : ¬ (((fs.toArray[0]?).bind id).isSome = true) := by
        cases pf with
        | cons p q => rw [p.1 h1]; simp
      rw [if_neg h0]
      rw [oneTypeOnly'_eq, List.mapM_toArray, map_eq_pure_bind]
      refine wpAny_bind (wpAny_bind (wpAny_bind (PySem.W.kas_mapM (r := Value.type "tuple") _ (fun v hm Q' hq' => ?_) (wpAny_pure ?_))))
      · obtain ⟨a, items, e, ht, i⟩ := hv v hm
        rw [e]
        exact wpAny_typeOf ht.typeIs hq'
      · have hall : ((List.map (fun _ => Value.type "tuple") (v₁ :: rest)).toArray.all fun x => x == Value.type "tuple") = true := by
          simp only [List.all_toArray, List.all_map, List.all_eq_true]
          intro _ _
          rfl
        have h0 : (List.map (fun _ => Value.type "tuple") (v₁ :: rest)).toArray[0]? = some (Value.type "tuple") := by simp
        rw [h0]
        simp only [hall, if_true]
        exact wpAny_pure (wpAny_pure hq)
    · refine ⟨general', .inr (.inr rfl), fun Q E hq => ?_⟩
      rw [PyProof.Rows.kat_kind_eq, List.mapM_toArray, map_eq_pure_bind]
      refine wpAny_bind (wpAny_bind (firsts_rows _ k hv fun fs pf => wpAny_pure ?_))
      rw [if_neg (nall fs pf)]
      have h0 : ((fs.toArray[0]?).bind id).isSome = true := by
        cases pf with
        | cons p q =>
          obtain ⟨x, t, e⟩ := p.2 h1
          rw [e]; simp
      rw [if_pos h0]
      exact wpAny_pure hq
theorem rows_sortable {a : Addr} {vs : List Value} {k : Value → List Int} (hA : A.units < cLine) (h2 : 2 ≤ vs.length) (hv : ∀ v ∈ vs, IsRow s.heap v (k v)) (ha : ∀ o, s.heap.get? a = some o → o.cls ≠ .type "tuple") :
    SrtO.SortableO prog w A s a vs fun v u => HT.lexLt (k v) (k u) := by
  intro h' keep
  have hv' : ∀ v ∈ vs, IsRow h' v (k v) := fun v hm => (hv v hm).keeps fun b o e c => keep b o (fun z => by subst z; exact ha o e c) e
  obtain ⟨κ, hk, hq⟩ := rows_kind (prog := prog) (w := w) (A := A) (s := { s with heap := h' }) h2 hv'
  refine ⟨κ, hq, fun p q hp hq2 => ?_⟩
  rcases hk with rfl | rfl | rfl
  · exact rows_lt_t (hv' _ hp) (hv' _ hq2)
  · exact rows_lt_o hA (hv' _ hp) (hv' _ hq2)
  · exact rows_lt_g hA (hv' _ hp) (hv' _ hq2)
/-- sorted(l) of rows -/
theorem sorted_rows {l : Addr} {vs : List Value} {k : Value → List Int} {Q : Value → Shared → Prop} (hA : A.in1.in1.units < cLine) (hl : s.heap.IsList l vs.toArray) (hz : vs.length ≤ sizeLine) (hv : ∀ v ∈ vs, IsRow s.heap v (k v))
    (h : ∀ (h' : Heap) (d : Addr) (out : List Value), SrtO.Srtd (fun v u => HT.lexLt (k v) (k u)) out → SrtO.Stb (fun v u => HT.lexLt (k v) (k u)) out vs → (∀ b o, s.heap.get? b = some o → h'.get? b = some o) → s.heap.objs.size ≤ d → (∃ n, h'.get? d = some (seqObj "list" out.toArray n)) → Q (.ref d) { s with heap := h' }) :
    wpAny (model prog w) A (call (.builtin "sorted") [.ref l]) Q E s := by
  refine SrtO.sorted_ord (NtL.swo_lexL k) hl hz (fun h2 h₁ a ha kk => ?_) fun out hs hb => ?_
  · refine rows_sortable (s := { s with heap := h₁ }) (by exact hA) h2 (fun v hm => (hv v hm).keeps fun b o e _ => (kk b o e).2) fun o e => ?_
    have e' : some o = some (seqObj "list" vs.toArray 0) := e.symm.trans ha
    cases e'
    intro c
    exact absurd (Value.type.inj c) (by decide)
  · exact h _ _ out hs hb (fun b o e => sortedAll_old e) (Nat.le_succ _) (sortedAll_at s.heap vs out.toArray)
/-! sorted(t) of a tuple -/
theorem collect_tup {l : Addr} {vs : List Value} {Q : List Value → Shared → Prop} (hl : IsTup s.heap l vs.toArray)
    (h : Q vs { s with heap := (s.heap.push (seqObj "list" #[] 0)).update s.heap.objs.size (Obj.mapSeq (· ++ vs.toArray)) }) (hsz : vs.length ≤ sizeLine := by size_fits) :
    wpAny (model prog w) A (collect (.ref l)) Q E s := by
  obtain ⟨o, ho, hc, n, hd⟩ := id hl
  unfold collect
  refine wpAny_bind (wpAny_runValue (codeAny_builtin entry_proto_collect' ?_))
  show wpAny _ _ (do again (.builtin "list.__iadd__" ⟨[← newList [], .ref l], []⟩)) _ _ s
  refine wpAny_bind (wpAny_newList (wpAny_pure ⟨Code.quiet_builtin _ (by decide +kernel), codeAny_builtin entry_list_iadd' ?_⟩))
  show wpAny _ _ (Builtin.List.listExtendWith (.ref s.heap.objs.size) (.ref l) (.ref s.heap.objs.size)) _ _ { s with heap := s.heap.push (seqObj "list" #[] 0) }
  unfold Builtin.List.listExtendWith
  have q1 : (s.heap.push (seqObj "list" #[] 0)).get? l = some o := Heap.get?_push_of_some _ ho
  refine wpAny_bind (wpAny_typeOf (T := "tuple") ⟨o, q1, hc⟩ ?_)
  have q2 : (Value.type "tuple" == Value.type "tuple") = true := by rfl
  rw [if_pos (by rw [q2]; simp)]
  refine wpAny_bind (listItems_at q1 hd ?_)
  refine wpAny_bind (listItems_at (xs := #[]) (n := 0) (Heap.get?_push_size _ rfl) rfl ?_)
  rw [if_neg (by simp)]
  refine wpAny_bind (listUpdate_at (xs := #[]) (n := 0) (Heap.get?_push_size _ rfl) rfl ?_ (Nat.zero_le _) (by
    show (#[] ++ vs.toArray).size ≤ sizeLine + 1
    simp only [Array.size_append, List.size_toArray, List.length_nil]
    omega))
  refine wpAny_pure ?_
  show wpAny (model prog w) A (do
      let u ← load s.heap.objs.size
      match u.data with
      | .seq xs _ => pure xs.toList
      | _ => unsupported "internal:collect") Q E { s with heap := (s.heap.push (seqObj "list" #[] 0)).update s.heap.objs.size (Obj.mapSeq (· ++ vs.toArray)) }
  refine wpAny_bind (wpAny_load (get?_update_seq (Heap.get?_push_size _ rfl) _) ?_)
  show wpAny _ _ (pure ((#[] : Array Value) ++ vs.toArray).toList) Q E _
  rw [show ((#[] : Array Value) ++ vs.toArray).toList = vs by simp]
  exact wpAny_pure h
theorem sorted_ordT {l : Addr} {vs : List Value} {ltv : Value → Value → Bool} {Q : Value → Shared → Prop} (O : SrtO.Swo ltv) (hl : IsTup s.heap l vs.toArray) (hz : vs.length ≤ sizeLine)
    (hS : 2 ≤ vs.length → ∀ (h₁ : Heap) (a : Addr), h₁.get? a = some (seqObj "list" vs.toArray 0) → (∀ b o, s.heap.get? b = some o → b ≠ a ∧ h₁.get? b = some o) → SrtO.SortableO prog w A.in1.in1 { s with heap := h₁ } a vs ltv)
    (h : ∀ out : List Value, SrtO.Srtd ltv out → SrtO.Stb ltv out vs → Q (.ref (s.heap.objs.size + 1)) { s with heap := sortedAll s.heap vs out.toArray }) :
    wpAny (model prog w) A (call (.builtin "sorted") [.ref l]) Q E s := by
  refine Calls.call_function_entry kind_sorted plain_sorted entry_sorted (args_sorted1 _) ?_
  unfold Builtin.«sorted»
  refine wpAny_bind (m := checkCount "sorted" 1 1 _) (wpAny_pure ?_)
  refine wpAny_bind (collect_tup hl ?_ hz)
  refine wpAny_bind (wpAny_newList ?_ hz)
  have q1 : ((s.heap.push (seqObj "list" #[] 0)).update s.heap.objs.size (Obj.mapSeq (· ++ vs.toArray))).objs.size = s.heap.objs.size + 1 := by
    rw [Heap.size_update, size_push']
  have q2 : (((s.heap.push (seqObj "list" #[] 0)).update s.heap.objs.size (Obj.mapSeq (· ++ vs.toArray))).push (seqObj "list" vs.toArray 0)).get? (s.heap.objs.size + 1) = some (seqObj "list" vs.toArray 0) := by
    rw [← q1]
    exact Heap.get?_push_size _ rfl
  have q3 : ∀ b o, s.heap.get? b = some o → b ≠ s.heap.objs.size + 1 ∧ (((s.heap.push (seqObj "list" #[] 0)).update s.heap.objs.size (Obj.mapSeq (· ++ vs.toArray))).push (seqObj "list" vs.toArray 0)).get? b = some o := fun b o q => by
    have u : b < s.heap.objs.size := Heap.lt_size q
    refine ⟨Nat.ne_of_lt (Nat.lt_succ_of_lt u), Heap.get?_push_of_some _ ?_⟩
    rw [Heap.get?_update_ne _ _ _ _ (Nat.ne_of_lt u)]
    exact Heap.get?_push_of_some _ q
  show wpAny _ _ _ _ _ { s with heap := ((s.heap.push (seqObj "list" #[] 0)).update s.heap.objs.size (Obj.mapSeq (· ++ vs.toArray))).push (seqObj "list" vs.toArray 0) }
  rw [q1]
  refine wpAny_bind (wpAny_holding (wpAny_call_entry slot_list_sort ⟨_, q2, rfl⟩ entry_list_sort (SrtO.list_sort_ord O q2 hz (fun h2 => hS h2 _ _ q2 q3) fun out hs hb => ⟨_, rfl, ?_⟩) (args_list_sort _)))
  exact wpAny_pure ⟨_, rfl, h out hs hb⟩
theorem sorted_rowsT {l : Addr} {vs : List Value} {k : Value → List Int} {Q : Value → Shared → Prop} (hA : A.in1.in1.units < cLine) (hl : IsTup s.heap l vs.toArray) (hz : vs.length ≤ sizeLine) (hv : ∀ v ∈ vs, IsRow s.heap v (k v))
    (h : ∀ (h' : Heap) (d : Addr) (out : List Value), SrtO.Srtd (fun v u => HT.lexLt (k v) (k u)) out → SrtO.Stb (fun v u => HT.lexLt (k v) (k u)) out vs → (∀ b o, s.heap.get? b = some o → h'.get? b = some o) → s.heap.objs.size ≤ d → (∃ n, h'.get? d = some (seqObj "list" out.toArray n)) → Q (.ref d) { s with heap := h' }) :
    wpAny (model prog w) A (call (.builtin "sorted") [.ref l]) Q E s := by
  refine sorted_ordT (NtL.swo_lexL k) hl hz (fun h2 h₁ a ha kk => ?_) fun out hs hb => ?_
  · refine rows_sortable (s := { s with heap := h₁ }) (by exact hA) h2 (fun v hm => (hv v hm).keeps fun b o e _ => (kk b o e).2) fun o e => ?_
    have e' : some o = some (seqObj "list" vs.toArray 0) := e.symm.trans ha
    cases e'
    intro c
    exact absurd (Value.type.inj c) (by decide)
  · exact h _ _ out hs hb (fun b o e => sortedAll_old e) (Nat.le_succ _) (sortedAll_at s.heap vs out.toArray)
end
end PD
namespace PD
open PySem PySem.Spec PyProof.Rows L2
/-! ### .. as content -/
def insS (x : List Int) : List (List Int) → List (List Int)
  | [] => [x]
  | y :: r => if HT.lexLt y x = true then y :: insS x r else x :: y :: r
def srtR (rows : List (List Int)) : List (List Int) := rows.foldr insS []
theorem insS_perm (x : List Int) : ∀ l : List (List Int), (insS x l).Perm (x :: l)
  | [] => .refl _
  | y :: r => by
    unfold insS
    split
    · exact ((insS_perm x r).cons y).trans (.swap _ _ _)
    · exact .refl _
theorem srtR_perm : ∀ l : List (List Int), (srtR l).Perm l
  | [] => .refl _
  | x :: r => (insS_perm x (srtR r)).trans ((srtR_perm r).cons x)
/-- not descending -/
def Up (l : List (List Int)) : Prop := l.Pairwise fun a b => HT.lexLt b a = false
theorem insS_up {x : List Int} : ∀ {l : List (List Int)}, Up l → Up (insS x l)
  | [], _ => List.pairwise_singleton _ _
  | y :: r, h => by
    obtain ⟨h1, h2⟩ := List.pairwise_cons.mp h
    unfold insS
    split
    · rename_i c
      refine List.pairwise_cons.mpr ⟨fun z hz => ?_, insS_up h2⟩
      rcases List.mem_cons.mp ((insS_perm x r).mem_iff.mp hz) with q | q
      · rw [q]; exact NtL.lex_asym _ _ c
      · exact h1 z q
    · rename_i c
      have c : HT.lexLt y x = false := by simpa using c
      refine List.pairwise_cons.mpr ⟨fun z hz => ?_, h⟩
      rcases List.mem_cons.mp hz with q | q
      · rw [q]; exact c
      · exact NtL.lex_tr _ _ _ c (h1 z q)
theorem srtR_up : ∀ l : List (List Int), Up (srtR l)
  | [] => .nil
  | x :: r => insS_up (srtR_up r)
theorem up_uniq : ∀ {a b : List (List Int)}, Up a → Up b → a.Perm b → a = b
  | [], b, _, _, p => (List.Perm.eq_nil p.symm).symm
  | x :: a, [], _, _, p => absurd p.length_eq (by simp)
  | x :: a, y :: b, ha, hb, p => by
    obtain ⟨a1, a2⟩ := List.pairwise_cons.mp ha
    obtain ⟨b1, b2⟩ := List.pairwise_cons.mp hb
    have e : x = y := by
      rcases Classical.em (x = y) with e | ne
      · exact e
      · have hx : x ∈ b := by
          rcases List.mem_cons.mp (p.mem_iff.mp (List.mem_cons_self (a := x) (l := a))) with q | q
          · exact absurd q ne
          · exact q
        have hy : y ∈ a := by
          rcases List.mem_cons.mp (p.mem_iff.mpr (List.mem_cons_self (a := y) (l := b))) with q | q
          · exact absurd q.symm ne
          · exact q
        have c1 := b1 x hx
        have c2 := lex_tot ne c1
        rw [a1 y hy] at c2
        cases c2
    subst e
    rw [up_uniq a2 b2 (List.perm_cons x |>.mp p)]
theorem intsAre_inj : ∀ {vs : List Value} {ns ms : List Int}, IntsAre vs ns → IntsAre vs ms → ns = ms
  | [], _, _, .nil, .nil => rfl
  | _ :: _, _, _, .cons _ _ h, .cons _ _ h' => by rw [intsAre_inj h h']
theorem perm_map {α β : Type} {f : α → β} : ∀ {a b : List β}, a.Perm b → ∀ l : List α, b = l.map f → ∃ l' : List α, a = l'.map f ∧ l'.Perm l := by
  intro a b h
  induction h with
  | nil => intro ns e; exact ⟨[], rfl, by cases ns with | nil => exact .nil | cons _ _ => cases e⟩
  | cons x h ih =>
    intro ns e
    cases ns with
    | nil => cases e
    | cons n ns =>
      rw [List.map_cons] at e
      cases e
      obtain ⟨os, e1, p⟩ := ih ns rfl
      exact ⟨n :: os, by rw [e1]; rfl, .cons n p⟩
  | swap x y l =>
    intro ns e
    match ns, e with
    | n :: m :: ns, e =>
      rw [List.map_cons, List.map_cons] at e
      cases e
      exact ⟨m :: n :: ns, rfl, .swap _ _ _⟩
  | trans h1 h2 ih1 ih2 =>
    intro ns e
    obtain ⟨os, e1, p⟩ := ih2 ns e
    obtain ⟨qs, e2, q⟩ := ih1 os e1
    exact ⟨qs, e2, q.trans p⟩
def gSrt : List D → Option (List D)
  | [.lst ds] => match rowsD ds with
    | some rs => some ((srtR rs).map rowD)
    | none => none
  | [.tup ds] => match rowsD ds with
    | some rs => some ((srtR rs).map rowD)
    | none => none
  | _ => none
section
variable {C : Ctx}
theorem room_in1 {X : Cx} (G : Good C X) : X.A.in1.in1.units < cLine := by
  have := room65 G
  simp only [Around.in1_units]
  omega
theorem row_isRow {X : Cx} {pins : List (Addr × Obj)} {σ : St} {H : Hp} {s : Shared} {a : Addr} {ns : List Int} (I : Inv X pins σ H s) (h : SqT X.K H a (ns.map V.int)) : IsRow s.heap (.ref a) ns := by
  obtain ⟨its, r, ht, _⟩ := I.tuple h
  exact ⟨a, its.toArray, rfl, ht, by simpa using intsAre_of r⟩
theorem cl_sorted : CallL C (.builtin "sorted") gSrt := by
  intro X G pins s σ H vs us Q I r h
  obtain ⟨F, ρ, M, ds, dz, R, rc, e, q⟩ := h
  match ds, e with
  | [.lst ds], e =>
    obtain ⟨x, rfl, rx⟩ := one_of rc
    obtain ⟨a, xs, rfl, hs, rr⟩ := rx
    unfold gSrt at e
    cases er : rowsD ds with
    | none => simp only [er] at e; cases e
    | some rs =>
      simp only [er] at e
      cases e
      obtain ⟨ks, rfl, rfl, hk⟩ := reps_rows rr er
      obtain ⟨its, rv, hl, hz⟩ := I.list hs
      obtain ⟨u, rfl, ru⟩ := vals1 r
      obtain rfl : u = Value.ref a := ru
      have ei : its = ks.map fun p => Value.ref p.1 := refs_of_vals rv
      subst ei
      have hk1 : ∀ p ∈ ks, IsRow s.heap (.ref p.1) p.2 := fun p hp => row_isRow I (SqT.mono R.sub (hk p hp))
      -- the key of an address
      have one : ∀ p ∈ ks, ∀ q ∈ ks, p.1 = q.1 → p = q := fun p hp q' hq' e => by
        obtain ⟨_, i1, e1, t1, n1⟩ := hk1 p hp
        obtain ⟨_, i2, e2, t2, n2⟩ := hk1 q' hq'
        cases e1
        cases e2
        rw [e] at t1
        obtain ⟨o1, g1, _, _, d1⟩ := t1
        obtain ⟨o2, g2, _, _, d2⟩ := t2
        rw [g1] at g2
        cases g2
        rw [d1] at d2
        cases d2
        exact Prod.ext e (intsAre_inj n1 n2)
      let k : Value → List Int := fun v => match v with | .ref b => ((ks.find? fun p => p.1 == b).map (·.2)).getD [] | _ => []
      have hk2 : ∀ p ∈ ks, k (.ref p.1) = p.2 := fun p hp => by
        show ((ks.find? fun q => q.1 == p.1).map (·.2)).getD [] = p.2
        cases ef : ks.find? fun q => q.1 == p.1 with
        | none => have := List.find?_eq_none.mp ef p hp; simp at this
        | some q' =>
          have h1 := List.mem_of_find?_eq_some ef
          have h2 : q'.1 = p.1 := by simpa using List.find?_some ef
          rw [one q' h1 p hp h2]; rfl
      have hz' : (ks.map fun p => Value.ref p.1).length ≤ sizeLine := by
        rw [List.length_map] at hz ⊢; exact hz
      refine sorted_rows (k := k) (room_in1 G) hl.isList hz' (fun v hv => ?_) fun h' d out h1 h2 kp hd hn => ?_
      · obtain ⟨p, hp, rfl⟩ := List.mem_map.mp hv
        rw [hk2 p hp]
        exact hk1 p hp
      · obtain ⟨ks', rfl, pm⟩ := perm_map h2.perm ks rfl
        have hin : ∀ p ∈ ks', p ∈ ks := fun p hp => pm.mem_iff.mp hp
        have hup : Up (ks'.map (·.2)) := by
          have q1 := List.pairwise_map.mp h1
          refine List.pairwise_map.mpr (q1.imp_of_mem fun {p q} hp hq hh => ?_)
          have hh : HT.lexLt (k (.ref q.1)) (k (.ref p.1)) = false := hh
          rw [hk2 p (hin p hp), hk2 q (hin q hq)] at hh
          exact hh
        have e : ks'.map (·.2) = srtR (ks.map (·.2)) := up_uniq hup (srtR_up _) ((pm.map _).trans (srtR_perm _).symm)
        obtain ⟨n, hn⟩ := hn
        have hnn : H d = none := I.hok.fresh hd
        have hl2 : (ks'.map fun p => V.ref p.1).length ≤ sizeLine := by
          rw [List.length_map] at hz' ⊢
          rw [pm.length_eq]; exact hz'
        refine ⟨.ref d, upd H d (.lst (ks'.map fun p => V.ref p.1)), I.laid (t' := s.toks) kp hd ⟨hl2, _, n, vals_of_refs ks', hn⟩, rfl, q d _ hnn ?_⟩
        rw [← e]
        have key : ∀ L2 : List (Addr × List Int), (∀ q ∈ L2, q ∈ ks) → Reps X.K X.mg F (L2.map fun q => V.ref q.1) ((L2.map (·.2)).map rowD) := by
          intro L2
          induction L2 with
          | nil => intro _; exact .nil
          | cons q L2 ih => intro hq; exact .cons (Rep.tup (hk q (hq q (by simp))) (Reps.ints _)) (ih fun r hr => hq r (List.mem_cons_of_mem _ hr))
        exact key ks' hin
  | [.tup ds], e =>
    obtain ⟨x, rfl, rx⟩ := one_of rc
    obtain ⟨a, xs, rfl, hs0, rr⟩ : ∃ (a : Addr) (xs : List V), x = .ref a ∧ SqT X.K F a xs ∧ Reps X.K X.mg F xs ds := by
      cases rx with
      | tup h1 h2 => exact ⟨_, _, rfl, h1, h2⟩
    have hs := SqT.mono R.sub hs0
    unfold gSrt at e
    cases er : rowsD ds with
    | none => simp only [er] at e; cases e
    | some rs =>
      simp only [er] at e
      cases e
      obtain ⟨ks, rfl, rfl, hk⟩ := reps_rows rr er
      obtain ⟨its, rv, hl, hz⟩ := I.tuple hs
      obtain ⟨u, rfl, ru⟩ := vals1 r
      obtain rfl : u = Value.ref a := ru
      have ei : its = ks.map fun p => Value.ref p.1 := refs_of_vals rv
      subst ei
      have hk1 : ∀ p ∈ ks, IsRow s.heap (.ref p.1) p.2 := fun p hp => row_isRow I (SqT.mono R.sub (hk p hp))
      -- the key of an address
      have one : ∀ p ∈ ks, ∀ q ∈ ks, p.1 = q.1 → p = q := fun p hp q' hq' e => by
        obtain ⟨_, i1, e1, t1, n1⟩ := hk1 p hp
        obtain ⟨_, i2, e2, t2, n2⟩ := hk1 q' hq'
        cases e1
        cases e2
        rw [e] at t1
        obtain ⟨o1, g1, _, _, d1⟩ := t1
        obtain ⟨o2, g2, _, _, d2⟩ := t2
        rw [g1] at g2
        cases g2
        rw [d1] at d2
        cases d2
        exact Prod.ext e (intsAre_inj n1 n2)
      let k : Value → List Int := fun v => match v with | .ref b => ((ks.find? fun p => p.1 == b).map (·.2)).getD [] | _ => []
      have hk2 : ∀ p ∈ ks, k (.ref p.1) = p.2 := fun p hp => by
        show ((ks.find? fun q => q.1 == p.1).map (·.2)).getD [] = p.2
        cases ef : ks.find? fun q => q.1 == p.1 with
        | none => have := List.find?_eq_none.mp ef p hp; simp at this
        | some q' =>
          have h1 := List.mem_of_find?_eq_some ef
          have h2 : q'.1 = p.1 := by simpa using List.find?_some ef
          rw [one q' h1 p hp h2]; rfl
      have hz' : (ks.map fun p => Value.ref p.1).length ≤ sizeLine := by
        rw [List.length_map] at hz ⊢; exact hz
      refine sorted_rowsT (k := k) (room_in1 G) (by simpa using hl) hz' (fun v hv => ?_) fun h' d out h1 h2 kp hd hn => ?_
      · obtain ⟨p, hp, rfl⟩ := List.mem_map.mp hv
        rw [hk2 p hp]
        exact hk1 p hp
      · obtain ⟨ks', rfl, pm⟩ := perm_map h2.perm ks rfl
        have hin : ∀ p ∈ ks', p ∈ ks := fun p hp => pm.mem_iff.mp hp
        have hup : Up (ks'.map (·.2)) := by
          have q1 := List.pairwise_map.mp h1
          refine List.pairwise_map.mpr (q1.imp_of_mem fun {p q} hp hq hh => ?_)
          have hh : HT.lexLt (k (.ref q.1)) (k (.ref p.1)) = false := hh
          rw [hk2 p (hin p hp), hk2 q (hin q hq)] at hh
          exact hh
        have e : ks'.map (·.2) = srtR (ks.map (·.2)) := up_uniq hup (srtR_up _) ((pm.map _).trans (srtR_perm _).symm)
        obtain ⟨n, hn⟩ := hn
        have hnn : H d = none := I.hok.fresh hd
        have hl2 : (ks'.map fun p => V.ref p.1).length ≤ sizeLine := by
          rw [List.length_map] at hz' ⊢
          rw [pm.length_eq]; exact hz'
        refine ⟨.ref d, upd H d (.lst (ks'.map fun p => V.ref p.1)), I.laid (t' := s.toks) kp hd ⟨hl2, _, n, vals_of_refs ks', hn⟩, rfl, q d _ hnn ?_⟩
        rw [← e]
        have key : ∀ L2 : List (Addr × List Int), (∀ q ∈ L2, q ∈ ks) → Reps X.K X.mg F (L2.map fun q => V.ref q.1) ((L2.map (·.2)).map rowD) := by
          intro L2
          induction L2 with
          | nil => intro _; exact .nil
          | cons q L2 ih => intro hq; exact .cons (Rep.tup (hk q (hq q (by simp))) (Reps.ints _)) (ih fun r hr => hq r (List.mem_cons_of_mem _ hr))
        exact key ks' hin
end
theorem bt_sorted : bootBuiltins "sorted" = some (.builtin "sorted") := by decide +kernel
end PD
namespace PD
open PySem PySem.Spec PyProof.Rows L2
/-! ### set(xs) of a list of ints -/
abbrev fs0 (w : World) : Obj := { cls := .type "set", dict := none, data := .set #[] 0 (.fresh 0 0 (!w.params.followText "set-order")) }
abbrev hp1 (w : World) (h : Heap) : Heap := h.push (fs0 w)
section
variable {P : Program} {w : World} {A : Around} {E : Value → Shared → Prop} {s : Shared}
set_option maxHeartbeats 3200000 in
theorem set_of_listI {l : Addr} {xs : Array Value} (ns : List Int) {Q : Value → Shared → Prop} (nh : A.handled = none) (il : s.heap.IsList l xs) (ix : IntsAre xs.toList ns) (few : ns.length + 1 < scanBound)
    (fin : ∀ (g : Heap) (tk c : Nat), SetR w g s.heap.objs.size (fun j => decide (j ∈ ns)) c → c ≤ ns.length → (∀ b o, s.heap.get? b = some o → g.get? b = some o) → Q (.ref s.heap.objs.size) { s with heap := g, toks := tk }) :
    wpAny (model P w) A (call (.type "set") [.ref l]) Q E s := by
  have sz : xs.size = ns.length := by rw [← Array.length_toList]; exact IntsAre.length ix
  obtain ⟨c0, tl0, mro0⟩ := F.called_set.mro
  have k1 := F.called_set.made
  have k2 := F.called_set.sub
  refine wpAny_call (codeAny_of_tree ?_)
  show wpAny _ _ (callAny (.type "set") _) _ _ _
  refine wpAny_pure ⟨Code.quiet_builtin _ (by decide +kernel), codeAny_builtin F.entry_type_call ?_⟩
  rw [Around.under_plain (weight_type_call_type "set" [.ref l] []) rfl]
  have k3 := F.called_set.notType
  have k4 := F.called_set.canCreate
  have k5 := F.typeCall_set_1 (.ref l)
  repeat (any_goals (first | assumption | wp_step))
  refine codeAny_mono (code_set_led1 (.ref l) (E := E) (Q₁ := fun ob t => ob = .ref s.heap.objs.size ∧ t = { s with heap := hp1 w s.heap }) ⟨rfl, rfl⟩) fun r t hr => ?_
  cases r with
  | error e => exact hr
  | ok fl =>
    cases fl with
    | ret ob =>
      obtain ⟨rfl, rfl⟩ := hr
      have gS : (hp1 w s.heap).get? s.heap.objs.size = some (fs0 w) := Heap.get?_push_size _ rfl
      have tS : Shared.TypeIs { s with heap := hp1 w s.heap } (.ref s.heap.objs.size) "set" := ⟨_, gS, rfl⟩
      have k6 := F.called_set.init.lookup
      have k7 := F.called_set.init.bind (.ref s.heap.objs.size)
      repeat (any_goals (first | assumption | wp_step))
      refine codeAny_mono (codeAny_call_builtin (R := wants (fun r t => r = .none ∧ ∃ g tk c, t = { s with heap := g, toks := tk } ∧ SetR w g s.heap.objs.size (fun j => decide (j ∈ ns)) c ∧ c ≤ ns.length ∧
          (∀ b o, s.heap.get? b = some o → g.get? b = some o)) E) F.called_set.init.plain F.entry_set_init (check_set_init_1 tS ?_)) fun r₂ t₂ hr₂ => ?_
      · obtain ⟨⟨ocl, odi, oda, osl⟩, gl, hcl, nl, hdl⟩ := il
        simp only at hcl hdl
        subst hcl; subst hdl
        have gl' : (hp1 w s.heap).get? l = some { cls := .type "list", dict := odi, data := .seq xs nl, slots := osl } := Heap.get?_push_of_some _ gl
        have q1 := F.sub_list_set
        have q2 := F.sub_list_frozenset
        have q3 : (Value.type "list" == Value.type "dict") = false := by decide
        have il1 : (hp1 w s.heap).IsList l xs := ⟨_, gl', rfl, nl, rfl⟩
        unfold Builtin.«set.__init__» noKeywords Builtin.Frozenset.updateFrom
        generalize hPI : pyIter = PI
        wp_walk
        subst hPI
        refine wpAny_pyIter_list il1 ?_
        refine wpAny_bind (wpAny_runValue ?_)
        have lS : l < s.heap.objs.size := Heap.lt_size gl
        have nh3 : A.in1.in1.in1.handled = none := by simp [nh]
        have neI : l ≠ (hp1 w s.heap).objs.size := by
          rw [Heap.size_push]; exact Nat.ne_of_lt (Nat.lt_succ_of_lt lS)
        have outS : s.heap.objs.size ∉ [(hp1 w s.heap).objs.size, l] := by
          rw [Heap.size_push]; simp only [List.mem_cons, List.not_mem_nil, or_false, not_or]
          exact ⟨Nat.ne_of_lt (Nat.lt_succ_self _), Nat.ne_of_gt lS⟩
        have val : ∀ (i : Nat) (v : Value), xs[i]? = some v → ∃ k t, ns[i]? = some k ∧ v = .int k t := fun i v hv => by
          have hi : i < ns.length := by rw [← sz]; exact (Array.getElem?_eq_some_iff.mp hv).1
          obtain ⟨t, e⟩ := PyProof.Rows.IntsAre.int_at ix i v (by rw [Array.getElem?_toList]; exact hv)
          refine ⟨ns[i], t, List.getElem?_eq_getElem hi, ?_⟩
          rw [e, List.getD_eq_getElem?_getD, List.getElem?_eq_getElem hi] <;> rfl
        refine set_update_ints ((Walks.list nh3 _ l neI xs).toS) s.heap.objs.size outS ns sz few val (xs.size - 0) 0 _ (by omega) (Nat.zero_le _) ⟨⟨_, Heap.get?_push_size _ rfl, rfl, rfl⟩, (il1.push _)⟩ ?s0 ?sR
        case s0 =>
          exact ⟨0, Nat.le_refl 0, setR_new_at (show ((hp1 w s.heap).push { cls := .type "list_iterator", data := .fields #[.ref l, .int 0 0] }).get? s.heap.objs.size = some (fs0 w) from Heap.get?_push_of_some _ gS)⟩
        case sR =>
          intro t c hm hc hS
          obtain ⟨g, g2, d', tk', os'⟩ := t
          have eg : g2 = s.gens := hm.gens
          have ed : d' = s.drawn := hm.drawn
          have eo : os' = s.os := hm.os
          subst eg; subst ed; subst eo
          show wpAny _ _ _ _ _ _
          refine wpAny_pure ?_
          show wpAny _ _ (ret Value.none) _ _ _
          rw [sz] at hc
          refine wpAny_pure ⟨rfl, g, tk', c, rfl, hS, hc, fun b o e => ?_⟩
          have b0 : b < s.heap.objs.size := Heap.lt_size e
          refine hm.heap b o ?_ (Heap.get?_push_of_some _ (Heap.get?_push_of_some _ e))
          rw [Heap.size_push]
          simp only [List.mem_cons, List.not_mem_nil, or_false, not_or]
          exact ⟨Nat.ne_of_lt b0, Nat.ne_of_lt (Nat.lt_succ_of_lt b0)⟩
      · cases r₂ with
        | error e => exact hr₂
        | ok fl₂ =>
          cases fl₂ with
          | ret r =>
            obtain ⟨rfl, g, tk, c, rfl, hS, hc, kp⟩ := hr₂
            repeat (any_goals (first | assumption | wp_step))
            exact fin _ _ _ hS hc kp
          | _ => exact hr₂.elim
    | _ => exact hr.elim
end
/-- set(xs): a list of int tuples, or of ints -/
def rSet2 (X : Cx) : List V → Hp → VK → Prop := fun xs H Q => rSetOfT X.K X.prog X.w xs H Q ∨
  ∃ (l : Addr) (ns : List Int), xs = [V.ref l] ∧ SqL X.K H l (ns.map V.int) ∧ ns.length < 64 ∧ ∀ a c, H a = none → c ≤ ns.length → Q (.ref a) (upd H a (SetO X.w a (fun j => decide (j ∈ ns)) c))
theorem cr_set2 {X : Cx} (hc : X.calm = true) (hu : X.A.units + 64 < cLine) : CallR X (.type "set") (rSet2 X) := by
  intro pins s σ H xs us Q I r h
  rcases h with h | h
  · exact cr_setOfT hc hu pins s σ H xs us Q I r h
  · obtain ⟨l, ns, rfl, hl, hf, q⟩ := h
    rw [Vals.ref1 r]
    obtain ⟨its, rv, pl, hz⟩ := I.list hl
    have hn : H s.heap.objs.size = none := I.hok.fresh (Nat.le_refl _)
    have hsb : ns.length + 1 < scanBound := by unfold scanBound; omega
    refine set_of_listI (P := X.prog) (w := X.w) ns (I.ok.hd hc) pl.isList (by simpa using intsAre_of rv) hsb fun g tk c R hcl k => ?_
    exact ⟨.ref s.heap.objs.size, upd H s.heap.objs.size (SetO X.w s.heap.objs.size (fun j => decide (j ∈ ns)) c), I.laid (t' := tk) k (Nat.le_refl _) (setO_new R), rfl, q _ c hn hcl⟩
def rSorted2 (X : Cx) : List V → Hp → VK → Prop := fun xs H Q => rSortedT X.K X.prog X.w xs H Q ∨ rSortedSet X.w xs H Q
theorem cr_sorted2 {X : Cx} (hc : X.calm = true) : CallR X (.builtin "sorted") (rSorted2 X) := by
  intro pins s σ H xs us Q I r h
  rcases h with h | h
  · exact cr_sortedT hc pins s σ H xs us Q I r h
  · exact cr_sortedSet hc pins s σ H xs us Q I r h
/-! ### ints, sorted, each once -/
def insI (x : Int) : List Int → List Int
  | [] => [x]
  | y :: r => if x = y then y :: r else if x < y then x :: y :: r else y :: insI x r
def ssI (l : List Int) : List Int := l.foldr insI []
theorem insI_mem {x z : Int} : ∀ {l : List Int}, z ∈ insI x l ↔ z = x ∨ z ∈ l
  | [] => by simp [insI]
  | y :: r => by
    unfold insI
    by_cases e : x = y
    · rw [if_pos e]; subst e; simp
    · rw [if_neg e]
      split
      · simp
      · simp only [List.mem_cons, insI_mem]
        constructor
        · rintro (h | h | h) <;> simp [h]
        · rintro (h | h | h) <;> simp [h]
theorem insI_up {x : Int} : ∀ {l : List Int}, l.Pairwise (· < ·) → (insI x l).Pairwise (· < ·)
  | [], _ => by simp [insI]
  | y :: r, h => by
    obtain ⟨h1, h2⟩ := List.pairwise_cons.mp h
    unfold insI
    by_cases e : x = y
    · rw [if_pos e]; exact h
    · rw [if_neg e]
      split
      · rename_i c
        refine List.pairwise_cons.mpr ⟨fun z hz => ?_, h⟩
        rcases List.mem_cons.mp hz with q | q
        · rw [q]; exact c
        · have := h1 z q; omega
      · rename_i c
        refine List.pairwise_cons.mpr ⟨fun z hz => ?_, insI_up h2⟩
        rcases insI_mem.mp hz with q | q
        · rw [q]; omega
        · exact h1 z q
theorem ssI_mem {z : Int} : ∀ {l : List Int}, z ∈ ssI l ↔ z ∈ l
  | [] => by simp [ssI]
  | x :: r => by
    show z ∈ insI x (ssI r) ↔ _
    rw [insI_mem, ssI_mem, List.mem_cons]
theorem ssI_up : ∀ l : List Int, (ssI l).Pairwise (· < ·)
  | [] => .nil
  | x :: r => insI_up (ssI_up r)
theorem upI_ext : ∀ {a b : List Int}, a.Pairwise (· < ·) → b.Pairwise (· < ·) → (∀ z, z ∈ a ↔ z ∈ b) → a = b
  | [], [], _, _, _ => rfl
  | [], y :: s, _, _, h => by have := (h y).mpr (by simp); cases this
  | x :: r, [], _, _, h => by have := (h x).mp (by simp); cases this
  | x :: r, y :: s, ha, hb, h => by
    obtain ⟨a1, a2⟩ := List.pairwise_cons.mp ha
    obtain ⟨b1, b2⟩ := List.pairwise_cons.mp hb
    have e : x = y := by
      rcases List.mem_cons.mp ((h x).mp (by simp)) with q | q
      · exact q
      · rcases List.mem_cons.mp ((h y).mpr (by simp)) with q' | q'
        · exact q'.symm
        · have := b1 x q; have := a1 y q'; omega
    subst e
    congr 1
    refine upI_ext a2 b2 fun z => ⟨fun m => ?_, fun m => ?_⟩
    · rcases List.mem_cons.mp ((h z).mp (List.mem_cons_of_mem _ m)) with q | q
      · subst q; have := a1 _ m; omega
      · exact q
    · rcases List.mem_cons.mp ((h z).mpr (List.mem_cons_of_mem _ m)) with q | q
      · subst q; have := b1 _ m; omega
      · exact q
def ssX : D → Option (List D)
  | .lst ds => match intsOf ds with
    | some ns => if ns.length < 64 then some ((ssI ns).map .int) else none
    | none => ssD ds
  | _ => none
def lSX (f : DE) : DL := fun env M => (f env M).bind fun w M1 => match (cont M1 w).bind ssX with | some ds => .ok ds M1 | none => .bad
section
variable {C : Ctx} {pos p1 p2 pos2 : Pos} {e : Expr} {f : DE}
theorem pl_sx (i j : Nat) (hi : C.blt[i]? = some "sorted") (hj : C.blt[j]? = some "set") (gi : glB C.sc "sorted" = true) (gj : glB C.sc "set" = true) (he : PDE C e f)
    (h1 : ∀ env, starEach [e] env = (false, eval e env) :: starEach [] env := by intro _; rfl)
    (h2 : ∀ env, starEach [.Call (.Name "set" p2) [e] [] pos2] env = (false, eval (.Call (.Name "set" p2) [e] [] pos2) env) :: starEach [] env := by intro _; rfl) :
    PDL C (.Call (.Name "sorted" p1) [.Call (.Name "set" p2) [e] [] pos2] [] pos) (lSX f) := by
  refine ⟨fun X Wx G tk => ?_⟩
  obtain ⟨g1, g2, g3⟩ := glB_gl (X := X) (x := "sorted") (by rw [G.sc]; exact gi)
  obtain ⟨k1, k2, k3⟩ := glB_gl (X := X) (x := "set") (by rw [G.sc]; exact gj)
  refine PE_imp (pe_callB (cr_sorted2 G.calm) g1 (G.blt i _ hi) (by decide +kernel) (L2.pa_cons (pe_callTy (cr_set2 G.calm (by have := room65 G; omega)) k1 (G.blt j _ hj) (by decide +kernel) (L2.pa_cons (he.run X Wx G tk) L2.pa_nil (h1 _)) k3 k2 (h1 _)) L2.pa_nil (h2 _)) g3 g2 (h2 _)) fun σ H Q ⟨F, ρ, M, env, R, S, p⟩ => ?_
  refine ⟨F, ρ, M, env, R, S, (RPost.seq p).imp fun v H1 ⟨F1, ρ1, M1, w, x1, R1, r1, p1⟩ => ?_⟩
  cases ec : cont M1 w with
  | none => simp only [ec, Option.bind_none] at p1; exact p1.elim
  | some d =>
    simp only [ec, Option.bind_some] at p1
    cases d with
    | lst ds =>
      obtain ⟨a, xs, rfl, hs, rr⟩ := RepC.ofW R1 r1 ec
      cases ei : intsOf ds with
      | some ns =>
        simp only [ssX, ei] at p1
        by_cases hf : ns.length < 64
        · rw [if_pos hf] at p1
          have exs := reps_ints rr ei
          subst exs
          refine .inr ⟨a, ns, rfl, hs, hf, fun sa c hsa hc => .inr ⟨sa, _, c, rfl, upd_same, by omega, fun ms p' up mem len hp' => ?_⟩⟩
          have e : ms = ssI ns := upI_ext up (ssI_up _) fun z => by rw [mem, ssI_mem, decide_eq_true_iff]
          subst e
          have R2 := R1.newH hsa (SetO X.w sa (fun j => decide (j ∈ ns)) c)
          have x2 := R1.extH hsa (SetO X.w sa (fun j => decide (j ∈ ns)) c)
          obtain ⟨f1, f2⟩ := R2.fresh hp'
          exact p1 F1 ρ1 _ _ (x2.trans (R2.extH hp' _)) (R2.newH hp' _) ⟨p', _, rfl, none_anti x2.there hp', f1, f2, upd_same, Reps.ints _⟩
        · rw [if_neg hf] at p1; exact p1.elim
      | none =>
        cases es : ssD ds with
        | none => simp only [ssX, ei, es] at p1; exact p1.elim
        | some zs =>
          simp only [ssX, ei, es] at p1
          unfold ssD at es
          cases er : rowsD ds with
          | none => rw [er] at es; cases es
          | some rs =>
            rw [er] at es
            simp only at es
            split at es
            · rename_i ok
              cases es
              obtain ⟨ks, rfl, rfl, hk⟩ := reps_rows rr er
              unfold ssOk at ok
              rw [Bool.and_eq_true] at ok
              obtain ⟨o1, o2⟩ := ok
              have o1 := of_decide_eq_true o1
              rw [List.length_map] at o1
              have o2 := List.all_eq_true.mp o2
              obtain ⟨B, hB0, hB⟩ := bd_ex (ks.map (·.2)) fun r hr i hi => by
                have := o2 r hr
                simp only [Bool.and_eq_true, List.all_eq_true, decide_eq_true_eq] at this
                exact this.2 i hi
              have hk1 : ∀ p ∈ ks, SqT X.K H1 p.1 (p.2.map V.int) := fun p hp => SqT.mono R1.sub (hk p hp)
              have hd : ∀ p ∈ ks, p.2.length = ((ks.map (·.2)).headD [0]).length ∧ p.2.length ≠ 0 := fun p hp => by
                have := o2 p.2 (List.mem_map_of_mem hp)
                simp only [Bool.and_eq_true] at this
                exact ⟨by simpa using this.1.1, by simpa using this.1.2⟩
              refine .inl ⟨a, ks, rfl, hs, hk1, o1, fun sa L hsa hL hL2 => ?_⟩
              have hk2 : ∀ p ∈ L, SqT X.K (upd H1 sa (SetTO X.prog X.w sa L)) p.1 (p.2.map V.int) := fun p hp => SqT.mono (Sub.upd hsa) (hk1 p (hL p hp))
              refine .inl ⟨sa, L, ((ks.map (·.2)).headD [0]).length, B, rfl, upd_same, hk2, ?_, fun p hp => ⟨(hd p (hL p hp)).1, hB _ (List.mem_map_of_mem (hL p hp))⟩, fun L' p' pm nd lt pw hp' => ?_⟩
              · cases ks with
                | nil => exact Nat.le_refl _
                | cons k ks =>
                  have := (hd k (by simp)).2
                  simp only [List.map_cons, List.headD_cons]
                  omega
              · have hsort : (L'.map (·.2)).Pairwise (fun a b => HT.lexLt a b = true) := by
                  have nd' := List.pairwise_map.mp nd
                  refine List.pairwise_map.mpr ((pw.and nd').imp_of_mem fun {q r} hq hr hh => ?_)
                  have mq := hL q (pm.mem_iff.mp hq)
                  have mr := hL r (pm.mem_iff.mp hr)
                  exact code_lex ((hd q mq).1.trans (hd r mr).1.symm) (hB _ (List.mem_map_of_mem mq)) (hB _ (List.mem_map_of_mem mr)) hh.1 hh.2
                have e : L'.map (·.2) = ssR (ks.map (·.2)) := by
                  refine sorted_ext hsort (ssR_sorted _) fun z => ?_
                  rw [ssR_mem]
                  constructor
                  · intro m
                    obtain ⟨q, hq, rfl⟩ := List.mem_map.mp m
                    exact List.mem_map_of_mem (hL q (pm.mem_iff.mp hq))
                  · intro m
                    obtain ⟨q, hq, rfl⟩ := List.mem_map.mp m
                    obtain ⟨q', hq', e⟩ := List.mem_map.mp (hL2 q hq)
                    exact List.mem_map.mpr ⟨q', pm.mem_iff.mpr hq', e⟩
                rw [← e] at p1
                have R2 := R1.newH hsa (SetTO X.prog X.w sa L)
                have x2 := R1.extH hsa (SetTO X.prog X.w sa L)
                obtain ⟨f1, f2⟩ := R2.fresh hp'
                have hne : H1 p' = none := none_anti x2.there hp'
                refine p1 F1 ρ1 _ _ (x2.trans (R2.extH hp' _)) (R2.newH hp' _) ⟨p', _, rfl, hne, f1, f2, upd_same, ?_⟩
                have key : ∀ L2 : List (Addr × List Int), (∀ q ∈ L2, q ∈ ks) → Reps X.K X.mg F1 (L2.map fun q => V.ref q.1) ((L2.map (·.2)).map rowD) := by
                  intro L2
                  induction L2 with
                  | nil => intro _; exact .nil
                  | cons q L2 ih => intro hq; exact .cons (Rep.tup (hk q (hq q (by simp))) (Reps.ints _)) (ih fun r hr => hq r (List.mem_cons_of_mem _ hr))
                exact key L' fun q hq => hL q (pm.mem_iff.mp hq)
            · cases es
    | _ => simp only [ssX] at p1; exact p1.elim
end
end PD
namespace PD
open PySem PySem.Spec PyProof.Rows L2
/-! ### an int among a tuple's or a list's ints -/
theorem toPys_ints : ∀ ns : List Int, toPys (ns.map .int) = some (ns.map .int)
  | [] => rfl
  | n :: ns => by
    rw [List.map_cons]
    show (match toPy (.int n), toPys (ns.map .int) with | some p, some ps => some (p :: ps) | _, _ => none) = _
    rw [toPys_ints ns]; rfl
theorem lay_ints : ∀ ns : List Int, PyData.canLayAll0 (ns.map .int) = true ∧ PyData.depthAll (ns.map .int) = 0
  | [] => ⟨rfl, rfl⟩
  | n :: ns => by
    obtain ⟨h1, h2⟩ := lay_ints ns
    refine ⟨?_, ?_⟩
    · show (PyData.canLay0 (.int n) && PyData.canLayAll0 (ns.map .int)) = true
      rw [h1]; rfl
    · show max (PyData.depth (.int n)) (PyData.depthAll (ns.map .int)) = 0
      rw [h2]; rfl
theorem shaped_tup (ns : List Int) : SeqAt.shaped (.tuple (ns.map .int)) = true := by
  obtain ⟨h1, h2⟩ := lay_ints ns
  show (PyData.canLayAll0 (ns.map .int) && decide (PyData.depthAll (ns.map .int) + 1 ≤ 64)) = true
  rw [h1, h2]; rfl
theorem shaped_lst (ns : List Int) : SeqAt.shaped (.list (ns.map .int)) = true := by
  obtain ⟨h1, h2⟩ := lay_ints ns
  show (PyData.canLayAll0 (ns.map .int) && decide (PyData.depthAll (ns.map .int) + 1 ≤ 64)) = true
  rw [h1, h2]; rfl
theorem any_ints (a : Int) (ns : List Int) : (ns.map PyData.int).any (fun z => PyData.eqv z (.int a)) = decide (a ∈ ns) := by
  induction ns with
  | nil => rfl
  | cons n ns ih =>
    rw [List.map_cons, List.any_cons, ih]
    show ((n == a) || decide (a ∈ ns)) = _
    by_cases e : n = a
    · subst e; simp
    · have e' : ¬ a = n := fun z => e z.symm
      simp [e, e']
@[simp] theorem inD_tup (a : Int) (ns : List Int) : inD (.int a) (.tup (ns.map .int)) = some (decide (a ∈ ns)) := by
  unfold inD
  simp only [toPy, toPys_ints, Option.map_some]
  rw [if_pos ⟨rfl, shaped_tup ns⟩, any_ints]
@[simp] theorem inD_lst (a : Int) (ns : List Int) : inD (.int a) (.lst (ns.map .int)) = some (decide (a ∈ ns)) := by
  unfold inD
  simp only [toPy, toPys_ints, Option.map_some]
  rw [if_pos ⟨rfl, shaped_lst ns⟩, any_ints]
/-! ### bits -/
theorem bitNot_eq (x : Int) : Builtin.bitNot x = -x - 1 := by
  unfold Builtin.bitNot
  omega
theorem and_nat (a b : Nat) : Builtin.bitAnd (a : Int) (b : Int) = ((a &&& b : Nat) : Int) := by
  unfold Builtin.bitAnd
  rw [decide_eq_true (by omega : (0 : Int) ≤ a), decide_eq_true (by omega : (0 : Int) ≤ b)]
  simp
theorem or_nat (a b : Nat) : Builtin.bitOr (a : Int) (b : Int) = ((a ||| b : Nat) : Int) := by
  unfold Builtin.bitOr Builtin.bitAnd
  simp only [bitNot_eq]
  rw [decide_eq_false (by omega : ¬ (0 : Int) ≤ -(a : Int) - 1), decide_eq_false (by omega : ¬ (0 : Int) ≤ -(b : Int) - 1)]
  simp only []
  have e1 : (-(-(a : Int) - 1) - 1).toNat = a := by omega
  have e2 : (-(-(b : Int) - 1) - 1).toNat = b := by omega
  rw [e1, e2]
  omega
theorem shr_bit (m k : Nat) : (Builtin.bitAnd ((m : Int) / 2 ^ k) 1 == 1) = m.testBit k := by
  have e : (m : Int) / 2 ^ k = ((m / 2 ^ k : Nat) : Int) := by
    rw [Int.natCast_ediv]; simp
  rw [e]
  have := and_nat (m / 2 ^ k) 1
  rw [show ((1 : Nat) : Int) = 1 from rfl] at this
  rw [this, Nat.and_one_is_mod, Nat.testBit_eq_decide_div_mod_eq]
  rcases Nat.mod_two_eq_zero_or_one (m / 2 ^ k) with h | h
  · rw [h]; rfl
  · rw [h]; rfl
theorem shl_one (k : Nat) : (1 : Int) * 2 ^ k = ((2 ^ k : Nat) : Int) := by simp
/-! ### what comes by rests -/
def Edge (rs : List (List Int)) (a b : Int) : Prop := [a, b] ∈ rs
def ClosedS (rs : List (List Int)) (S : Int → Prop) : Prop := ∀ a b, Edge rs a b → S a → S b
/-- y comes from x: in each closed lot with x -/
def Reach (rs : List (List Int)) (x y : Int) : Prop := ∀ S, ClosedS rs S → S x → S y
theorem Reach.refl (rs : List (List Int)) (x : Int) : Reach rs x x := fun _ _ h => h
theorem Reach.trans {rs : List (List Int)} {x y z : Int} (a : Reach rs x y) (b : Reach rs y z) : Reach rs x z := fun S c h => b S c (a S c h)
theorem Reach.closed (rs : List (List Int)) (x : Int) : ClosedS rs (Reach rs x) := fun a b e h S c hx => c a b e (h S c hx)
theorem Reach.in_ {rs : List (List Int)} {many : Nat} (h : ∀ a b, Edge rs a b → (0 ≤ a ∧ a < many) ∧ (0 ≤ b ∧ b < many)) {x y : Int} (hx : 0 ≤ x ∧ x < many) (r : Reach rs x y) : 0 ≤ y ∧ y < many :=
  r (fun z => 0 ≤ z ∧ z < many) (fun a b e _ => (h a b e).2) hx
/-! ### all lots -/
def lotsR : Nat → List (List Int)
  | 0 => [[]]
  | n + 1 => lotsR n ++ (lotsR n).map (· ++ [(n : Int)])
theorem lotsR_len : ∀ n, (lotsR n).length = 2 ^ n
  | 0 => rfl
  | n + 1 => by
    rw [lotsR, List.length_append, List.length_map, lotsR_len n, Nat.pow_succ]; omega
theorem lotsR_in : ∀ (n : Nat) {l : List Int}, l ∈ lotsR n → (∀ x ∈ l, 0 ≤ x ∧ x < n) ∧ l.Pairwise (· < ·) ∧ l.length ≤ n
  | 0, l, h => by
    simp [lotsR] at h; subst h; simp
  | n + 1, l, h => by
    rw [lotsR] at h
    rcases List.mem_append.mp h with h | h
    · obtain ⟨h1, h2, h3⟩ := lotsR_in n h
      exact ⟨fun x hx => by have := h1 x hx; omega, h2, by omega⟩
    · obtain ⟨q, hq, rfl⟩ := List.mem_map.mp h
      obtain ⟨h1, h2, h3⟩ := lotsR_in n hq
      refine ⟨fun x hx => ?_, List.pairwise_append.mpr ⟨h2, by simp, fun a ha b hb => ?_⟩, by simp; omega⟩
      · rcases List.mem_append.mp hx with hx | hx
        · have := h1 x hx; omega
        · simp at hx; omega
      · simp at hb; have := h1 a ha; omega
theorem lotsR_all (p : Int → Bool) : ∀ n : Nat, ((List.range n).map fun i : Nat => (i : Int)).filter p ∈ lotsR n
  | 0 => by simp [lotsR]
  | n + 1 => by
    have ih := lotsR_all p n
    rw [List.range_succ, List.map_append, List.filter_append, lotsR]
    cases c : p n with
    | true =>
      refine List.mem_append_right _ (List.mem_map.mpr ⟨_, ih, ?_⟩)
      simp [c]
    | false =>
      refine List.mem_append_left _ ?_
      simpa [c] using ih
theorem nodup_len : ∀ {l m : List Int}, l.Nodup → (∀ x ∈ l, x ∈ m) → l.length ≤ m.length
  | [], _, _, _ => Nat.zero_le _
  | x :: l, m, h, s => by
    obtain ⟨h1, h2⟩ := List.nodup_cons.mp h
    have hx : x ∈ m := s x (by simp)
    have := nodup_len (l := l) (m := m.erase x) h2 fun y hy => (List.mem_erase_of_ne fun e => h1 (by rw [← e]; exact hy)).mpr (s y (List.mem_cons_of_mem _ hy))
    rw [List.length_erase_of_mem hx] at this
    have := List.length_pos_of_mem hx
    rw [List.length_cons]
    omega
theorem up_nodup {l : List Int} (h : l.Pairwise (· < ·)) : l.Nodup := h.imp fun h e => by omega
/-- one more, if something is new -/
theorem more_len {l m : List Int} (h : l.Nodup) (s : ∀ x ∈ l, x ∈ m) {y : Int} (hy : y ∈ m) (hn : y ∉ l) : l.length + 1 ≤ m.length := by
  have := nodup_len (l := y :: l) (m := m) (List.nodup_cons.mpr ⟨hn, h⟩) fun x hx => by
    rcases List.mem_cons.mp hx with q | q
    · rw [q]; exact hy
    · exact s x q
  simpa using this
theorem rng_len {l : List Int} {n : Nat} (h : l.Nodup) (s : ∀ x ∈ l, 0 ≤ x ∧ x < n) : l.length ≤ n := by
  have := nodup_len (l := l) (m := (List.range n).map fun i : Nat => (i : Int)) h fun x hx => by
    have := s x hx
    exact List.mem_map.mpr ⟨x.toNat, List.mem_range.mpr (by omega), by omega⟩
  simpa using this
/-- the row of what comes from b -/
noncomputable def reachL (rs : List (List Int)) (n : Nat) (b : Int) : List Int := ((List.range n).map fun i : Nat => (i : Int)).filter fun z => @decide (Reach rs b z) (Classical.propDecidable _)
theorem reachL_mem {rs : List (List Int)} {n : Nat} {b : Int} (hE : ∀ a c, Edge rs a c → (0 ≤ a ∧ a < n) ∧ (0 ≤ c ∧ c < n)) (hb : 0 ≤ b ∧ b < n) {z : Int} : z ∈ reachL rs n b ↔ Reach rs b z := by
  unfold reachL
  rw [List.mem_filter]
  constructor
  · exact fun h => @of_decide_eq_true _ (Classical.propDecidable _) h.2
  · intro h
    refine ⟨?_, @decide_eq_true _ (Classical.propDecidable _) h⟩
    have := h.in_ hE hb
    exact List.mem_map.mpr ⟨z.toNat, List.mem_range.mpr (by omega), by omega⟩
theorem reachL_up (rs : List (List Int)) (n : Nat) (b : Int) : (reachL rs n b).Pairwise (· < ·) := by
  unfold reachL
  refine (List.pairwise_map.mpr (List.pairwise_lt_range.imp fun h => ?_)).sublist List.filter_sublist
  omega
theorem reachL_lots (rs : List (List Int)) (n : Nat) (b : Int) : reachL rs n b ∈ lotsR n := lotsR_all _ n
end PD
namespace PD
open PySem PySem.Spec PyProof.Rows L2
mutual
def fromPy : PyData → D
  | .none => .non
  | .bool b => .bl b
  | .int i => .int i
  | .str x => .str x
  | .list xs => .lst (fromPys xs)
  | .tuple xs => .tup (fromPys xs)
  | .dict _ => .non
def fromPys : List PyData → List D
  | [] => []
  | x :: xs => fromPy x :: fromPys xs
end
mutual
theorem from_to : ∀ {d : D} {p : PyData}, toPy d = some p → fromPy p = d
  | .non, _, e => by cases e; rfl
  | .bl _, _, e => by cases e; rfl
  | .int _, _, e => by cases e; rfl
  | .str _, _, e => by cases e; rfl
  | .ty _, _, e => nomatch e
  | .fn _, _, e => nomatch e
  | .dic _, _, e => nomatch e
  | .tup ds, p, e => by
    unfold toPy at e
    cases e1 : toPys ds with
    | none => rw [e1] at e; cases e
    | some ps => rw [e1] at e; cases e; exact congrArg D.tup (froms_to e1)
  | .lst ds, p, e => by
    unfold toPy at e
    cases e1 : toPys ds with
    | none => rw [e1] at e; cases e
    | some ps => rw [e1] at e; cases e; exact congrArg D.lst (froms_to e1)
theorem froms_to : ∀ {ds : List D} {ps : List PyData}, toPys ds = some ps → fromPys ps = ds
  | [], _, e => by cases e; rfl
  | d :: ds, ps, e => by
    unfold toPys at e
    cases e1 : toPy d with
    | none => rw [e1] at e; cases e
    | some p =>
      cases e2 : toPys ds with
      | none => rw [e1, e2] at e; cases e
      | some qs =>
        rw [e1, e2] at e; cases e
        show fromPy p :: fromPys qs = d :: ds
        rw [from_to e1, froms_to e2]
end
end PD
namespace PD
open PySem PySem.Spec PyProof.Rows L2
/-! ### min, max of a list of alike data -/
def alikeOk (ps : List PyData) : Bool := ps.all (fun x => ps.all fun y => PySem.W.alike x y) && ps.all (fun x => match x with | .none => false | _ => true) && decide (PyData.depthAll ps ≤ 60)
theorem alikeOk_all {ps : List PyData} (h : alikeOk ps = true) : PySem.W.AlikeAll ps ∧ PyData.depthAll ps ≤ 60 := by
  unfold alikeOk at h
  rw [Bool.and_eq_true, Bool.and_eq_true] at h
  obtain ⟨⟨h1, h2⟩, h3⟩ := h
  refine ⟨⟨fun x hx y hy => List.all_eq_true.mp (List.all_eq_true.mp h1 x hx) y hy, fun x hx e => ?_⟩, of_decide_eq_true h3⟩
  have := List.all_eq_true.mp h2 x hx
  rw [e] at this; cases this
def gMinL : List D → Option D
  | [.lst es] => match toPys es with
    | some (x :: xs) => if alikeOk (x :: xs) = true then some (fromPy (PySem.W.minD x xs)) else none
    | _ => none
  | _ => none
def gMaxL : List D → Option D
  | [.lst es] => match toPys es with
    | some (x :: xs) => if alikeOk (x :: xs) = true then some (fromPy (PySem.W.maxD x xs)) else none
    | _ => none
  | _ => none
theorem toPys_get : ∀ {es : List D} {ps : List PyData} {i : Nat} {p : PyData}, toPys es = some ps → ps[i]? = some p → ∃ d, es[i]? = some d ∧ toPy d = some p
  | [], ps, i, p, h, hp => by cases h; simp at hp
  | d :: es, ps, i, p, h, hp => by
    unfold toPys at h
    cases e1 : toPy d with
    | none => rw [e1] at h; cases h
    | some q =>
      cases e2 : toPys es with
      | none => rw [e1, e2] at h; cases h
      | some qs =>
        rw [e1, e2] at h; cases h
        cases i with
        | zero => simp at hp; exact ⟨d, rfl, by rw [e1, hp]⟩
        | succ i =>
          obtain ⟨d', h1, h2⟩ := toPys_get (i := i) e2 (by simpa using hp)
          exact ⟨d', by simpa using h1, h2⟩
section
variable {C : Ctx}
theorem pick_ok {X : Cx} {pins : List (Addr × Obj)} {σ : St} {H : Hp} {s : Shared} {xs : List V} {its : List Value} {es : List D} {ps : List PyData} {as : List Addr} {F : Hp} (I : L2.Inv X pins σ H s) (rv : Vals xs its) (rr : Reps X.K X.mg F xs es) (ep : toPys es = some ps)
    (hr : ReadsAll s.heap its ps as) {i : Nat} {v : Value} (hv : its.toArray[i]? = some v) {m : PyData} {h' : Heap} {bs : List Addr} (rd : Reads h' v m bs) (hk : ∀ b o, s.heap.get? b = some o → h'.get? b = some o) : ∃ x, RelV x v ∧ Rep X.K X.mg F x (fromPy m) := by
  have hv' : its[i]? = some v := by simpa using hv
  obtain ⟨cs, r1, h1, h2, _⟩ := PySem.W.readsAll_at hr i v (by simpa using hv)
  have hp : ps[i]? = some (ps.getD i .none) := by
    rw [List.getD_eq_getElem?_getD, List.getElem?_eq_getElem h1]; rfl
  obtain ⟨d, hd, ed⟩ := toPys_get ep hp
  obtain ⟨x, hx, rx⟩ := Reps.get rr hd
  have e := (PyProof.Rows.reads_det (fun b o e _ => hk b o e) r1 rd).1
  refine ⟨x, ?_, ?_⟩
  · rcases paired_get rv i with ⟨q1, _⟩ | ⟨x', v', q1, q2, q3⟩
    · rw [hx] at q1; cases q1
    · rw [hx] at q1; rw [hv'] at q2
      cases q1; cases q2
      exact q3
  · rw [e, from_to ed]
    exact rx
theorem cb_minL : CallD C (.builtin "min") gMinL := by
  intro X G pins s σ H vs us Q I r h
  obtain ⟨F, ρ, M, ds, dz, R, rc, e, q⟩ := h
  match ds, e with
  | [.lst es], e =>
    obtain ⟨x, rfl, rx⟩ := one_of rc
    obtain ⟨a, xs, rfl, hs, rr⟩ := rx
    unfold gMinL at e
    simp only at e
    split at e
    · rename_i p ps ep
      split at e
      · rename_i ok
        cases e
        obtain ⟨ha, hdp⟩ := alikeOk_all ok
        obtain ⟨its, rv, hl, hz⟩ := I.list hs
        obtain ⟨u, rfl, ru⟩ := vals1 r
        obtain rfl : u = Value.ref a := ru
        obtain ⟨as, hr⟩ := Dp.readsAll I _ _ _ (dps_of (Reps.mono R.sub rr) ep) rv
        have hu := room65 G
        refine PySem.W.min_list_data (I.ok.hd G.calm) hl.isList (by simpa using hr) ha (by omega) fun i v h' tk bs hv rd hk => ?_
        obtain ⟨x, r1, r2⟩ := pick_ok I rv rr ep hr hv rd hk
        exact ⟨x, H, I.kept (t' := tk) hk, r1, q F H x .refl R r2⟩
      · cases e
    · cases e
theorem cb_maxL : CallD C (.builtin "max") gMaxL := by
  intro X G pins s σ H vs us Q I r h
  obtain ⟨F, ρ, M, ds, dz, R, rc, e, q⟩ := h
  match ds, e with
  | [.lst es], e =>
    obtain ⟨x, rfl, rx⟩ := one_of rc
    obtain ⟨a, xs, rfl, hs, rr⟩ := rx
    unfold gMaxL at e
    simp only at e
    split at e
    · rename_i p ps ep
      split at e
      · rename_i ok
        cases e
        obtain ⟨ha, hdp⟩ := alikeOk_all ok
        obtain ⟨its, rv, hl, hz⟩ := I.list hs
        obtain ⟨u, rfl, ru⟩ := vals1 r
        obtain rfl : u = Value.ref a := ru
        obtain ⟨as, hr⟩ := Dp.readsAll I _ _ _ (dps_of (Reps.mono R.sub rr) ep) rv
        have hu := room65 G
        refine PySem.W.max_list_data (I.ok.hd G.calm) hl.isList (by simpa using hr) ha (by omega) fun i v h' tk bs hv rd hk => ?_
        obtain ⟨x, r1, r2⟩ := pick_ok I rv rr ep hr hv rd hk
        exact ⟨x, H, I.kept (t' := tk) hk, r1, q F H x .refl R r2⟩
      · cases e
    · cases e
end
end PD
namespace PD
open PySem PySem.Spec PyProof.Rows L2
/-! ### a lot's mark -/
def markN : List Int → Nat
  | [] => 0
  | x :: r => 2 ^ x.toNat + markN r
theorem markN_mul : ∀ (l : List Int) (m : Nat), (∀ x ∈ l, (m : Int) ≤ x) → ∃ k, markN l = 2 ^ m * k
  | [], _, _ => ⟨0, rfl⟩
  | x :: r, m, h => by
    obtain ⟨k, e⟩ := markN_mul r m fun y hy => h y (List.mem_cons_of_mem _ hy)
    have hx := h x (by simp)
    refine ⟨2 ^ (x.toNat - m) + k, ?_⟩
    show 2 ^ x.toNat + markN r = _
    rw [e, Nat.mul_add, ← Nat.pow_add, show m + (x.toNat - m) = x.toNat by omega]
theorem markN_bit : ∀ {l : List Int}, l.Pairwise (· < ·) → (∀ x ∈ l, 0 ≤ x) → ∀ y : Nat, (markN l).testBit y = true ↔ (y : Int) ∈ l
  | [], _, _, y => by simp [markN]
  | x :: r, h, h0, y => by
    obtain ⟨h1, h2⟩ := List.pairwise_cons.mp h
    have hx := h0 x (by simp)
    obtain ⟨k, e⟩ := markN_mul r (x.toNat + 1) fun z hz => by have := h1 z hz; omega
    have ih := markN_bit h2 (fun z hz => h0 z (List.mem_cons_of_mem _ hz)) y
    have e2 : markN (x :: r) = markN r ||| 2 ^ x.toNat := by
      show 2 ^ x.toNat + markN r = _
      rw [e, Nat.add_comm]
      exact Nat.two_pow_add_eq_or_of_lt (by rw [Nat.pow_succ]; have := Nat.two_pow_pos x.toNat; omega) k
    rw [e2, Nat.testBit_or, Nat.testBit_two_pow, Bool.or_eq_true, decide_eq_true_iff, ih, List.mem_cons]
    constructor
    · rintro (q | q)
      · exact .inr q
      · exact .inl (by omega)
    · rintro (q | q)
      · exact .inr (by omega)
      · exact .inl q
theorem markN_lt {l : List Int} {n : Nat} (h : l.Pairwise (· < ·)) (h0 : ∀ x ∈ l, 0 ≤ x ∧ x < n) : markN l < 2 ^ n := by
  rcases Nat.lt_or_ge (markN l) (2 ^ n) with q | q
  · exact q
  · obtain ⟨i, hi, hb⟩ := Nat.exists_ge_and_testBit_of_ge_two_pow q
    have := (markN_bit h (fun x hx => (h0 x hx).1) i).mp hb
    have := h0 _ this
    omega
/-- what comes from any of a lot -/
def ReachS (rs : List (List Int)) (S : Int → Prop) (y : Int) : Prop := ∃ x, S x ∧ Reach rs x y
theorem ReachS.closed (rs : List (List Int)) (S : Int → Prop) : ClosedS rs (ReachS rs S) := fun a b e ⟨x, hx, h⟩ => ⟨x, hx, Reach.closed rs x a b e h⟩
theorem ReachS.least {rs : List (List Int)} {S T : Int → Prop} (c : ClosedS rs T) (h : ∀ x, S x → T x) {y : Int} (r : ReachS rs S y) : T y := by
  obtain ⟨x, hx, h2⟩ := r
  exact h2 T c (h x hx)
theorem lotsR_nodup : ∀ n, (lotsR n).Nodup
  | 0 => by simp [lotsR]
  | n + 1 => by
    rw [lotsR]
    refine List.nodup_append.mpr ⟨lotsR_nodup n, List.pairwise_map.mpr ((lotsR_nodup n).imp fun h e => h (List.append_cancel_right e)), fun a ha b hb e => ?_⟩
    obtain ⟨q, hq, rfl⟩ := List.mem_map.mp hb
    have h1 := (lotsR_in n ha).1 n (by rw [e]; simp)
    omega
theorem lotsR_iff {n : Nat} {l : List Int} : l ∈ lotsR n ↔ (∀ x ∈ l, 0 ≤ x ∧ x < n) ∧ l.Pairwise (· < ·) := by
  constructor
  · intro h
    obtain ⟨h1, h2, _⟩ := lotsR_in n h
    exact ⟨h1, h2⟩
  · rintro ⟨h1, h2⟩
    have e : l = ((List.range n).map fun i : Nat => (i : Int)).filter fun z => decide (z ∈ l) := by
      refine upI_ext h2 ((List.pairwise_map.mpr (List.pairwise_lt_range.imp fun h => by omega)).sublist List.filter_sublist) fun z => ?_
      rw [List.mem_filter, decide_eq_true_iff]
      constructor
      · intro hz
        have := h1 z hz
        exact ⟨List.mem_map.mpr ⟨z.toNat, List.mem_range.mpr (by omega), by omega⟩, hz⟩
      · exact fun h => h.2
    rw [e]
    exact lotsR_all _ n
end PD
namespace PD
open PySem PySem.Spec PyProof.Rows L2
/-! ### the least of (length, row) -/
def pairP (l : List Int) : PyData := .tuple [.int l.length, .tuple (l.map .int)]
def pairD (l : List Int) : D := .tup [.int l.length, rowD l]
theorem alike_ints : ∀ xs ys : List Int, PySem.W.alikeAll (xs.map PyData.int) (ys.map PyData.int) = true
  | [], _ => by rw [List.map_nil, PySem.W.alikeAll]
  | _ :: _, [] => by rw [List.map_nil, List.map_cons, PySem.W.alikeAll]
  | x :: xs, y :: ys => by
    rw [List.map_cons, List.map_cons, PySem.W.alikeAll, alike_ints xs ys]
    simp [PySem.W.alike]
theorem alike_tups (xs ys : List Int) : PySem.W.alike (.tuple (xs.map .int)) (.tuple (ys.map .int)) = true := by
  simp only [PySem.W.alike]
  exact alike_ints xs ys
theorem alike_pair (l m : List Int) : PySem.W.alike (pairP l) (pairP m) = true := by
  simp only [pairP, PySem.W.alike, PySem.W.alikeAll, alike_ints, Bool.and_self]
theorem pair_lt {l m : List Int} (h : l.length < m.length) : PySem.W.dataLt (pairP l) (pairP m) = true := by
  unfold pairP
  rw [PySem.W.dataLt_pair (by simp [PySem.W.alike]) (alike_tups l m)]
  have e : PyData.eqv (.int (l.length : Int)) (.int (m.length : Int)) = false := by
    show ((l.length : Int) == (m.length : Int)) = false
    simp; omega
  simp [e, PySem.W.dataLt_int]
  omega
theorem pair_nlt {l m : List Int} (h : l.length < m.length) : PySem.W.dataLt (pairP m) (pairP l) = false := by
  unfold pairP
  rw [PySem.W.dataLt_pair (by simp [PySem.W.alike]) (alike_tups m l)]
  have e : PyData.eqv (.int (m.length : Int)) (.int (l.length : Int)) = false := by
    show ((m.length : Int) == (l.length : Int)) = false
    simp; omega
  simp [e, PySem.W.dataLt_int]
  omega
theorem fold_least {c : List Int} : ∀ (os : List (List Int)) (a : List Int), (∀ o ∈ a :: os, o = c ∨ c.length < o.length) → c ∈ a :: os → (os.map pairP).foldl (fun a y => if PySem.W.dataLt y a then y else a) (pairP a) = pairP c
  | [], a, _, h => by
    simp at h; subst h; rfl
  | o :: os, a, hs, h => by
    rw [List.map_cons, List.foldl_cons]
    rcases hs a (by simp) with q | q
    · subst q
      have e : PySem.W.dataLt (pairP o) (pairP a) = false := by
        rcases hs o (by simp) with p | p
        · rw [p]; exact PySem.W.dataLt_self _
        · exact pair_nlt p
      rw [e]
      exact fold_least os a (fun o ho => hs o (by rcases List.mem_cons.mp ho with z | z <;> simp [z])) (by simp)
    · by_cases eo : o = c
      · subst eo
        rw [pair_lt q]
        exact fold_least os o (fun o' ho => hs o' (List.mem_cons_of_mem _ ho)) (by simp)
      · have hc : c ∈ os := by
          rcases List.mem_cons.mp h with z | z
          · rw [z] at q; omega
          · rcases List.mem_cons.mp z with z | z
            · exact absurd z.symm eo
            · exact z
        cases hb : PySem.W.dataLt (pairP o) (pairP a) with
        | true => exact fold_least os o (fun o' ho => hs o' (List.mem_cons_of_mem _ ho)) (List.mem_cons_of_mem _ hc)
        | false => exact fold_least os a (fun o' ho => hs o' (by rcases List.mem_cons.mp ho with z | z <;> simp [z])) (List.mem_cons_of_mem _ hc)
theorem toPy_pair (l : List Int) : toPy (pairD l) = some (pairP l) := by
  unfold pairD rowD
  simp only [toPy, toPys, toPys_ints, Option.map_some]
  rfl
theorem toPys_pairs : ∀ os : List (List Int), toPys (os.map pairD) = some (os.map pairP)
  | [] => rfl
  | o :: os => by
    rw [List.map_cons]
    show (match toPy (pairD o), toPys (os.map pairD) with | some p, some ps => some (p :: ps) | _, _ => none) = _
    rw [toPy_pair, toPys_pairs os]; rfl
theorem depth_pairs : ∀ os : List (List Int), PyData.depthAll (os.map pairP) ≤ 2
  | [] => Nat.zero_le _
  | o :: os => by
    have h := (lay_ints o).2
    have e : PyData.depth (pairP o) ≤ 2 := by
      show max 0 (max (PyData.depthAll (o.map .int) + 1) 0) + 1 ≤ 2
      rw [h]; decide
    show max (PyData.depth (pairP o)) (PyData.depthAll (os.map pairP)) ≤ 2
    have := depth_pairs os
    omega
theorem gMinL_pairs {os : List (List Int)} {c : List Int} (hs : ∀ o ∈ os, o = c ∨ c.length < o.length) (hc : c ∈ os) : gMinL [.lst (os.map pairD)] = some (pairD c) := by
  cases os with
  | nil => cases hc
  | cons a os =>
    have et : toPys ((a :: os).map pairD) = some (pairP a :: os.map pairP) := toPys_pairs (a :: os)
    simp only [gMinL, et]
    have ok : alikeOk (pairP a :: os.map pairP) = true := by
      unfold alikeOk
      rw [Bool.and_eq_true, Bool.and_eq_true]
      have hm : ∀ x ∈ pairP a :: os.map pairP, ∃ l, x = pairP l := fun x hx => by
        rcases List.mem_cons.mp hx with q | q
        · exact ⟨a, q⟩
        · obtain ⟨l, _, e⟩ := List.mem_map.mp q
          exact ⟨l, e.symm⟩
      refine ⟨⟨List.all_eq_true.mpr fun x hx => List.all_eq_true.mpr fun y hy => ?_, List.all_eq_true.mpr fun x hx => ?_⟩, decide_eq_true (Nat.le_trans (depth_pairs (a :: os)) (by decide))⟩
      · obtain ⟨l, rfl⟩ := hm x hx
        obtain ⟨m, rfl⟩ := hm y hy
        exact alike_pair l m
      · obtain ⟨l, rfl⟩ := hm x hx
        rfl
    rw [if_pos ok]
    have e : PySem.W.minD (pairP a) (os.map pairP) = pairP c := fold_least os a hs hc
    rw [e, from_to (toPy_pair c)]
/-! ### rows compared, a row among rows -/
theorem eqv_ints : ∀ a b : List Int, PyData.eqvAll (a.map .int) (b.map .int) = decide (a = b)
  | [], [] => rfl
  | [], _ :: _ => rfl
  | _ :: _, [] => rfl
  | x :: a, y :: b => by
    show ((x == y) && PyData.eqvAll (a.map .int) (b.map .int)) = _
    rw [eqv_ints a b, Bool.eq_iff_iff]
    simp
theorem toPy_row (l : List Int) : toPy (rowD l) = some (.tuple (l.map .int)) := by
  unfold rowD
  simp only [toPy, toPys_ints, Option.map_some]
@[simp] theorem eqD_row (a b : List Int) : eqD (rowD a) (rowD b) = some (decide (a = b)) := by
  unfold eqD
  rw [toPy_row, toPy_row]
  simp only []
  rw [if_pos ⟨shaped_tup a, shaped_tup b⟩]
  exact congrArg some (eqv_ints a b)
theorem toPys_rows : ∀ rs : List (List Int), toPys (rs.map rowD) = some (rs.map fun r => .tuple (r.map .int))
  | [] => rfl
  | r :: rs => by
    rw [List.map_cons]
    show (match toPy (rowD r), toPys (rs.map rowD) with | some p, some ps => some (p :: ps) | _, _ => none) = _
    rw [toPy_row, toPys_rows rs]; rfl
theorem lay_rows : ∀ rs : List (List Int), PyData.canLayAll0 (rs.map fun r => .tuple (r.map .int)) = true ∧ PyData.depthAll (rs.map fun r => .tuple (r.map .int)) ≤ 1
  | [] => ⟨rfl, Nat.zero_le _⟩
  | r :: rs => by
    obtain ⟨h1, h2⟩ := lay_rows rs
    obtain ⟨g1, g2⟩ := lay_ints r
    refine ⟨?_, ?_⟩
    · show (PyData.canLayAll0 (r.map .int) && PyData.canLayAll0 (rs.map fun r => .tuple (r.map .int))) = true
      rw [h1, g1]; rfl
    · show max (PyData.depthAll (r.map .int) + 1) (PyData.depthAll (rs.map fun r => .tuple (r.map .int))) ≤ 1
      rw [g2]; omega
theorem shaped_rows (rs : List (List Int)) : SeqAt.shaped (.list (rs.map fun r => .tuple (r.map .int))) = true := by
  obtain ⟨h1, h2⟩ := lay_rows rs
  show (PyData.canLayAll0 (rs.map fun r => .tuple (r.map .int)) && decide (PyData.depthAll (rs.map fun r => .tuple (r.map .int)) + 1 ≤ 64)) = true
  rw [h1, Bool.true_and]
  exact decide_eq_true (by omega)
theorem any_rows (a : List Int) (rs : List (List Int)) : (rs.map fun r => PyData.tuple (r.map .int)).any (fun z => PyData.eqv z (.tuple (a.map .int))) = decide (a ∈ rs) := by
  induction rs with
  | nil => rfl
  | cons r rs ih =>
    rw [List.map_cons, List.any_cons, ih]
    show (PyData.eqvAll (r.map .int) (a.map .int) || decide (a ∈ rs)) = _
    rw [eqv_ints, Bool.eq_iff_iff]
    simp
    constructor
    · rintro (h | h)
      · exact .inl h.symm
      · exact .inr h
    · rintro (h | h)
      · exact .inl h.symm
      · exact .inr h
@[simp] theorem inD_rows (a : List Int) (rs : List (List Int)) : inD (rowD a) (.lst (rs.map rowD)) = some (decide (a ∈ rs)) := by
  unfold inD
  rw [toPy_row]
  have e : toPy (.lst (rs.map rowD)) = some (.list (rs.map fun r => .tuple (r.map .int))) := by
    simp only [toPy, toPys_rows, Option.map_some]
  rw [e]
  simp only []
  rw [if_pos ⟨shaped_tup a, shaped_rows rs⟩, any_rows]
end PD
namespace PD
open PySem PySem.Spec PyProof.Rows L2
/-! ### sorted(set(xs)), xs a tuple of ints too -/
def rSet3 (X : Cx) : List V → Hp → VK → Prop := fun xs H Q => rSet2 X xs H Q ∨
  ∃ (l : Addr) (ns : List Int), xs = [V.ref l] ∧ SqT X.K H l (ns.map V.int) ∧ ns.length < 64 ∧ ∀ a c, H a = none → c ≤ ns.length → Q (.ref a) (upd H a (SetO X.w a (fun j => decide (j ∈ ns)) c))
theorem cr_set3 {X : Cx} (hc : X.calm = true) (hu : X.A.units + 64 < cLine) : CallR X (.type "set") (rSet3 X) := by
  intro pins s σ H xs us Q I r h
  rcases h with h | h
  · exact cr_set2 hc hu pins s σ H xs us Q I r h
  · obtain ⟨l, ns, rfl, hl, hf, q⟩ := h
    rw [Vals.ref1 r]
    obtain ⟨its, rv, pl, hz⟩ := I.tuple hl
    have hn : H s.heap.objs.size = none := I.hok.fresh (Nat.le_refl _)
    have hsb : ns.length + 1 < scanBound := by unfold scanBound; omega
    refine call_set_tupI (P := X.prog) (w := X.w) ns (I.ok.hd hc) pl (by simpa using intsAre_of rv) hsb fun g tk c R hcl k => ?_
    exact ⟨.ref s.heap.objs.size, upd H s.heap.objs.size (SetO X.w s.heap.objs.size (fun j => decide (j ∈ ns)) c), I.laid (t' := tk) k (Nat.le_refl _) (setO_new R), rfl, q _ c hn hcl⟩
def ssY : D → Option (List D)
  | .tup ds => match intsOf ds with
    | some ns => if ns.length < 64 then some ((ssI ns).map .int) else none
    | none => none
  | d => ssX d
def lSY (f : DE) : DL := fun env M => (f env M).bind fun w M1 => match (cont M1 w).bind ssY with | some ds => .ok ds M1 | none => .bad
section
variable {C : Ctx} {pos p1 p2 pos2 : Pos} {e : Expr} {f : DE}
theorem pl_sy (i j : Nat) (hi : C.blt[i]? = some "sorted") (hj : C.blt[j]? = some "set") (gi : glB C.sc "sorted" = true) (gj : glB C.sc "set" = true) (he : PDE C e f)
    (h1 : ∀ env, starEach [e] env = (false, eval e env) :: starEach [] env := by intro _; rfl)
    (h2 : ∀ env, starEach [.Call (.Name "set" p2) [e] [] pos2] env = (false, eval (.Call (.Name "set" p2) [e] [] pos2) env) :: starEach [] env := by intro _; rfl) :
    PDL C (.Call (.Name "sorted" p1) [.Call (.Name "set" p2) [e] [] pos2] [] pos) (lSY f) := by
  refine ⟨fun X Wx G tk => ?_⟩
  obtain ⟨g1, g2, g3⟩ := glB_gl (X := X) (x := "sorted") (by rw [G.sc]; exact gi)
  obtain ⟨k1, k2, k3⟩ := glB_gl (X := X) (x := "set") (by rw [G.sc]; exact gj)
  refine PE_imp (pe_callB (cr_sorted2 G.calm) g1 (G.blt i _ hi) (by decide +kernel) (L2.pa_cons (pe_callTy (cr_set3 G.calm (by have := room65 G; omega)) k1 (G.blt j _ hj) (by decide +kernel) (L2.pa_cons (he.run X Wx G tk) L2.pa_nil (h1 _)) k3 k2 (h1 _)) L2.pa_nil (h2 _)) g3 g2 (h2 _)) fun σ H Q ⟨F, ρ, M, env, R, S, p⟩ => ?_
  refine ⟨F, ρ, M, env, R, S, (RPost.seq p).imp fun v H1 ⟨F1, ρ1, M1, w, x1, R1, r1, p1⟩ => ?_⟩
  cases ec : cont M1 w with
  | none => simp only [ec, Option.bind_none] at p1; exact p1.elim
  | some d =>
    simp only [ec, Option.bind_some] at p1
    cases d with
    | lst ds =>
      obtain ⟨a, xs, rfl, hs, rr⟩ := RepC.ofW R1 r1 ec
      cases ei : intsOf ds with
      | some ns =>
        simp only [ssY, ssX, ei] at p1
        by_cases hf : ns.length < 64
        · rw [if_pos hf] at p1
          have exs := reps_ints rr ei
          subst exs
          refine .inl (.inr ⟨a, ns, rfl, hs, hf, fun sa c hsa hc => .inr ⟨sa, _, c, rfl, upd_same, by omega, fun ms p' up mem len hp' => ?_⟩⟩)
          have e : ms = ssI ns := upI_ext up (ssI_up _) fun z => by rw [mem, ssI_mem, decide_eq_true_iff]
          subst e
          have R2 := R1.newH hsa (SetO X.w sa (fun j => decide (j ∈ ns)) c)
          have x2 := R1.extH hsa (SetO X.w sa (fun j => decide (j ∈ ns)) c)
          obtain ⟨f1, f2⟩ := R2.fresh hp'
          exact p1 F1 ρ1 _ _ (x2.trans (R2.extH hp' _)) (R2.newH hp' _) ⟨p', _, rfl, none_anti x2.there hp', f1, f2, upd_same, Reps.ints _⟩
        · rw [if_neg hf] at p1; exact p1.elim
      | none =>
        cases es : ssD ds with
        | none => simp only [ssY, ssX, ei, es] at p1; exact p1.elim
        | some zs =>
          simp only [ssY, ssX, ei, es] at p1
          unfold ssD at es
          cases er : rowsD ds with
          | none => rw [er] at es; cases es
          | some rs =>
            rw [er] at es
            simp only at es
            split at es
            · rename_i ok
              cases es
              obtain ⟨ks, rfl, rfl, hk⟩ := reps_rows rr er
              unfold ssOk at ok
              rw [Bool.and_eq_true] at ok
              obtain ⟨o1, o2⟩ := ok
              have o1 := of_decide_eq_true o1
              rw [List.length_map] at o1
              have o2 := List.all_eq_true.mp o2
              obtain ⟨B, hB0, hB⟩ := bd_ex (ks.map (·.2)) fun r hr i hi => by
                have := o2 r hr
                simp only [Bool.and_eq_true, List.all_eq_true, decide_eq_true_eq] at this
                exact this.2 i hi
              have hk1 : ∀ p ∈ ks, SqT X.K H1 p.1 (p.2.map V.int) := fun p hp => SqT.mono R1.sub (hk p hp)
              have hd : ∀ p ∈ ks, p.2.length = ((ks.map (·.2)).headD [0]).length ∧ p.2.length ≠ 0 := fun p hp => by
                have := o2 p.2 (List.mem_map_of_mem hp)
                simp only [Bool.and_eq_true] at this
                exact ⟨by simpa using this.1.1, by simpa using this.1.2⟩
              refine .inl (.inl ⟨a, ks, rfl, hs, hk1, o1, fun sa L hsa hL hL2 => ?_⟩)
              have hk2 : ∀ p ∈ L, SqT X.K (upd H1 sa (SetTO X.prog X.w sa L)) p.1 (p.2.map V.int) := fun p hp => SqT.mono (Sub.upd hsa) (hk1 p (hL p hp))
              refine .inl ⟨sa, L, ((ks.map (·.2)).headD [0]).length, B, rfl, upd_same, hk2, ?_, fun p hp => ⟨(hd p (hL p hp)).1, hB _ (List.mem_map_of_mem (hL p hp))⟩, fun L' p' pm nd lt pw hp' => ?_⟩
              · cases ks with
                | nil => exact Nat.le_refl _
                | cons k ks =>
                  have := (hd k (by simp)).2
                  simp only [List.map_cons, List.headD_cons]
                  omega
              · have hsort : (L'.map (·.2)).Pairwise (fun a b => HT.lexLt a b = true) := by
                  have nd' := List.pairwise_map.mp nd
                  refine List.pairwise_map.mpr ((pw.and nd').imp_of_mem fun {q r} hq hr hh => ?_)
                  have mq := hL q (pm.mem_iff.mp hq)
                  have mr := hL r (pm.mem_iff.mp hr)
                  exact code_lex ((hd q mq).1.trans (hd r mr).1.symm) (hB _ (List.mem_map_of_mem mq)) (hB _ (List.mem_map_of_mem mr)) hh.1 hh.2
                have e : L'.map (·.2) = ssR (ks.map (·.2)) := by
                  refine sorted_ext hsort (ssR_sorted _) fun z => ?_
                  rw [ssR_mem]
                  constructor
                  · intro m
                    obtain ⟨q, hq, rfl⟩ := List.mem_map.mp m
                    exact List.mem_map_of_mem (hL q (pm.mem_iff.mp hq))
                  · intro m
                    obtain ⟨q, hq, rfl⟩ := List.mem_map.mp m
                    obtain ⟨q', hq', e⟩ := List.mem_map.mp (hL2 q hq)
                    exact List.mem_map.mpr ⟨q', pm.mem_iff.mpr hq', e⟩
                rw [← e] at p1
                have R2 := R1.newH hsa (SetTO X.prog X.w sa L)
                have x2 := R1.extH hsa (SetTO X.prog X.w sa L)
                obtain ⟨f1, f2⟩ := R2.fresh hp'
                have hne : H1 p' = none := none_anti x2.there hp'
                refine p1 F1 ρ1 _ _ (x2.trans (R2.extH hp' _)) (R2.newH hp' _) ⟨p', _, rfl, hne, f1, f2, upd_same, ?_⟩
                have key : ∀ L2 : List (Addr × List Int), (∀ q ∈ L2, q ∈ ks) → Reps X.K X.mg F1 (L2.map fun q => V.ref q.1) ((L2.map (·.2)).map rowD) := by
                  intro L2
                  induction L2 with
                  | nil => intro _; exact .nil
                  | cons q L2 ih => intro hq; exact .cons (Rep.tup (hk q (hq q (by simp))) (Reps.ints _)) (ih fun r hr => hq r (List.mem_cons_of_mem _ hr))
                exact key L' fun q hq => hL q (pm.mem_iff.mp hq)
            · cases es
    | tup ds =>
      cases ei : intsOf ds with
      | none => simp only [ssY, ei] at p1; exact p1.elim
      | some ns =>
        simp only [ssY, ei] at p1
        by_cases hf : ns.length < 64
        · rw [if_pos hf] at p1
          cases (show Rep X.K X.mg F1 v (.tup ds) from RepC.ofW R1 r1 ec) with
          | tup hs rr =>
            have exs := reps_ints rr ei
            subst exs
            refine .inr ⟨_, ns, rfl, SqT.mono R1.sub hs, hf, fun sa c hsa hc => .inr ⟨sa, _, c, rfl, upd_same, by omega, fun ms p' up mem len hp' => ?_⟩⟩
            have e : ms = ssI ns := upI_ext up (ssI_up _) fun z => by rw [mem, ssI_mem, decide_eq_true_iff]
            subst e
            have R2 := R1.newH hsa (SetO X.w sa (fun j => decide (j ∈ ns)) c)
            have x2 := R1.extH hsa (SetO X.w sa (fun j => decide (j ∈ ns)) c)
            obtain ⟨f1, f2⟩ := R2.fresh hp'
            exact p1 F1 ρ1 _ _ (x2.trans (R2.extH hp' _)) (R2.newH hp' _) ⟨p', _, rfl, none_anti x2.there hp', f1, f2, upd_same, Reps.ints _⟩
        · rw [if_neg hf] at p1; exact p1.elim
    | _ => simp only [ssY, ssX] at p1; exact p1.elim
end
end PD
namespace PD
open PySem PySem.Spec PyProof.Rows L2
/-! ### comprehensions over ints -/
theorem set_get {env : Ev} {k : Nat} (hk : k < env.length) (w : Option W) : (env.set k w)[k]? = some w := List.getElem?_set_self hk
theorem comp_ints {env0 : Ev} {k : Nat} {ft : DT} {M : Store} (c : Int → Bool) (hk : k < env0.length) : ∀ (l : List Int), (∀ x ∈ l, ft (env0.set k (some (.d (.int x)))) M = .ok (c x) M) →
    compL env0 (gN k) ft (cVar k) (l.map .int) M = .ok ((l.filter c).map .int) M
  | [], _ => rfl
  | x :: r, h => by
    have ih := comp_ints c hk r fun y hy => h y (List.mem_cons_of_mem _ hy)
    have h0 := h x (by simp)
    rw [List.map_cons]
    unfold compL
    simp only [gN, h0]
    cases hc : c x with
    | true =>
      simp only [cVar, set_get hk, ih, Res.bind_ok, List.filter_cons, hc, if_true, List.map_cons]
    | false => simp only [ih, List.filter_cons, hc]; rfl
theorem comp_intsF {env0 : Ev} {k : Nat} {fe : DE} {M : Store} (f : Int → D) : ∀ (l : List Int), (∀ x ∈ l, fe (env0.set k (some (.d (.int x)))) M = .ok (.d (f x)) M) →
    compL env0 (gN k) tTrue fe (l.map .int) M = .ok (l.map f) M
  | [], _ => rfl
  | x :: r, h => by
    have ih := comp_intsF f r fun y hy => h y (List.mem_cons_of_mem _ hy)
    have h0 := h x (by simp)
    rw [List.map_cons]
    unfold compL
    simp only [gN, tTrue, h0, ih, Res.bind_ok, List.map_cons]
theorem comp_rows {env0 : Ev} {k : Nat} {ft : DT} {M : Store} (c : List Int → Bool) (hk : k < env0.length) : ∀ (l : List (List Int)), (∀ x ∈ l, ft (env0.set k (some (.d (rowD x)))) M = .ok (c x) M) →
    compL env0 (gN k) ft (cVar k) (l.map rowD) M = .ok ((l.filter c).map rowD) M
  | [], _ => rfl
  | x :: r, h => by
    have ih := comp_rows c hk r fun y hy => h y (List.mem_cons_of_mem _ hy)
    have h0 := h x (by simp)
    rw [List.map_cons]
    unfold compL
    simp only [gN, h0]
    cases hc : c x with
    | true =>
      simp only [cVar, set_get hk, ih, Res.bind_ok, List.filter_cons, hc, if_true, List.map_cons]
    | false => simp only [ih, List.filter_cons, hc]; rfl
theorem comp_rowsF {env0 : Ev} {k : Nat} {ft : DT} {fe : DE} {M : Store} (c : List Int → Bool) (f : List Int → D) : ∀ (l : List (List Int)), (∀ x ∈ l, ft (env0.set k (some (.d (rowD x)))) M = .ok (c x) M ∧ (c x = true → fe (env0.set k (some (.d (rowD x)))) M = .ok (.d (f x)) M)) →
    compL env0 (gN k) ft fe (l.map rowD) M = .ok ((l.filter c).map f) M
  | [], _ => rfl
  | x :: r, h => by
    have ih := comp_rowsF c f r fun y hy => h y (List.mem_cons_of_mem _ hy)
    obtain ⟨h0, h1⟩ := h x (by simp)
    rw [List.map_cons]
    unfold compL
    simp only [gN, h0]
    cases hc : c x with
    | true => simp only [h1 hc, ih, Res.bind_ok, List.filter_cons, hc, if_true, List.map_cons]
    | false => simp only [ih, List.filter_cons, hc]; rfl
theorem comp_intsC {env0 : Ev} {k : Nat} {ft : DT} {fe : DE} {M : Store} (c : Int → Bool) (f : Int → D) : ∀ (l : List Int), (∀ x ∈ l, ft (env0.set k (some (.d (.int x)))) M = .ok (c x) M ∧ (c x = true → fe (env0.set k (some (.d (.int x)))) M = .ok (.d (f x)) M)) →
    compL env0 (gN k) ft fe (l.map .int) M = .ok ((l.filter c).map f) M
  | [], _ => rfl
  | x :: r, h => by
    have ih := comp_intsC c f r fun y hy => h y (List.mem_cons_of_mem _ hy)
    obtain ⟨h0, h1⟩ := h x (by simp)
    rw [List.map_cons]
    unfold compL
    simp only [gN, h0]
    cases hc : c x with
    | true => simp only [h1 hc, ih, Res.bind_ok, List.filter_cons, hc, if_true, List.map_cons]
    | false => simp only [ih, List.filter_cons, hc]; rfl
end PD
namespace PD
open PySem PySem.Spec PyProof.Rows L2
/-! ### o[i], o[j] = (a, b) -/
theorem ps_asw {C : Ctx} {pos : Pos} {tg e : Expr} {f : DE} {g : DG} {sl : List Nat} (he : PDE C e f) (hg : PDG C tg sl g) (hw : ∀ env : Env, env.scope = C.sc → env.scope.kind = .function → swappedStores [tg] e env = pure none)
    (hs : ∀ env, swapsWithSole [tg] e pos.line env = pure false := by intro _; rfl)
    (h1 : ∀ env, (assignEach [tg] env).map (·.2) = [assign tg env] := by intro _; rfl) : PDS C (.Assign [tg] e pos) (sAs f g) :=
  ⟨fun X Wx G tk => ⟨fun pins s σ H De I h => (ps_asg (he.run X Wx G tk) (hg.run X G) (hs _) (hw _ G.sc I.ok.kind) (h1 _)).run pins s σ H De I (as_post h)⟩⟩
end PD
set_option maxHeartbeats 4000000
namespace PD
open PySem PySem.Spec PyProof.Rows L2
/-! ### tuple * 0, tuple * 1 -/
theorem tuple_mul1 (l : Addr) (items : Array Value) (n : Nat) (dd : Option Addr) (sl : Array (Option Value)) (x : Int) (u : Tok) (c0 : (decide (x < -(2 ^ 63)) || decide (x ≥ 2 ^ 63)) = false) (c1 : (items.isEmpty || x == 1) = true) :
    Meets (Builtin.«tuple.__mul__» ⟨[.ref l, .int x u], []⟩) (fun _ R s => s.heap.get? l = some { cls := .type "tuple", dict := dd, data := .seq items n, slots := sl } ∧
      R (.ok (.ret (Value.ref l))) s) :=
  .of_wp fun prog w A R s h => by
    obtain ⟨hp, g, d, tk, os⟩ := s
    obtain ⟨hl, h⟩ := h
    have f1 := AutoSeq1.idx_int
    wp_walk using wpAny_loadPart' hl
    repeat (first
      | (refine wpAny_ite_false (decide_eq_false (by rw [c0]; exact Bool.false_ne_true)) ?_; wp_walk using wpAny_loadPart' hl)
      | (refine wpAny_ite_true (decide_eq_true c1) ?_; wp_walk using wpAny_loadPart' hl))
    exact ⟨_, rfl, h⟩
theorem tuple_mul0 (l : Addr) (items : Array Value) (n : Nat) (dd : Option Addr) (sl : Array (Option Value)) (x : Int) (u : Tok) (c0 : (decide (x < -(2 ^ 63)) || decide (x ≥ 2 ^ 63)) = false) (c1 : (items.isEmpty || x == 1) = false) (c2 : (decide (x ≤ 0) || items.isEmpty) = true) :
    Meets (Builtin.«tuple.__mul__» ⟨[.ref l, .int x u], []⟩) (fun _ R s => s.heap.get? l = some { cls := .type "tuple", dict := dd, data := .seq items n, slots := sl } ∧
      R (.ok (.ret (Value.ref s.heap.objs.size))) { s with heap := s.heap.push { cls := Value.type "tuple", data := Data.seq #[] }, toks := s.toks }) :=
  .of_wp fun prog w A R s h => by
    obtain ⟨hp, g, d, tk, os⟩ := s
    obtain ⟨hl, h⟩ := h
    have f1 := AutoSeq1.idx_int
    wp_walk using wpAny_loadPart' hl
    repeat (first
      | (refine wpAny_ite_false (decide_eq_false (by rw [c0]; exact Bool.false_ne_true)) ?_; wp_walk using wpAny_loadPart' hl)
      | (refine wpAny_ite_false (decide_eq_false (by rw [c1]; exact Bool.false_ne_true)) ?_; wp_walk using wpAny_loadPart' hl)
      | (refine wpAny_ite_true (decide_eq_true c2) ?_; wp_walk using wpAny_loadPart' hl))
    exact ⟨_, rfl, h⟩
def rRepT1 (K : PySem.W.Frag) : R2 := fun x y H Q => ∃ l k xs, x = .ref l ∧ y = .int k ∧ SqT K H l xs ∧ xs ≠ [] ∧ ((k = 1 ∧ Q (.ref l) H) ∨ (k = 0 ∧ ∀ p, H p = none → Q (.ref p) (upd H p (.tup []))))
section
variable {X : Cx}
theorem op_repT1 : OpR X (binaryOp .Mult) (rRepT1 X.K) := by
  intro pins s σ H x y v u Q I rx ry h
  obtain ⟨l, k, xs, rfl, rfl, hT, hne, q⟩ := h
  cases rx
  obtain ⟨t, rfl⟩ := ry
  obtain ⟨its, r, ⟨⟨cls, dd, data, sl⟩, ho, hc, n, hd⟩, hs⟩ := I.tuple hT
  simp only at hc hd
  subst hc hd
  have hle : its.length = xs.length := r.length.symm
  have hn : its ≠ [] := fun e => hne (by
    rw [e] at hle
    exact List.eq_nil_of_length_eq_zero hle.symm)
  have hi : its.toArray.isEmpty = false := by
    cases its with
    | nil => exact absurd rfl hn
    | cons a b => rfl
  rcases q with ⟨rfl, q⟩ | ⟨rfl, q⟩
  · refine wpAny_binaryOp_repeat_ref (T := "tuple") (U := "int") (by decide) ⟨_, ho, rfl⟩ (fun s' => typeIs_int s' 1 t) noFill_tuple_mul F.fills_int_mul F.slot_int_rmul repeat_tuple F.slot_int_index.lookup
      (call_meets F.slot_int_rmul (typeIs_int s 1 t) F.entry_int_rmul (F.args_int_rmul_2 _ _) (int_rmul_tuple 1 t l its.toArray n dd sl)
        ⟨ho, rfl, ⟨_, ho, rfl⟩, call_meets F.slot_tuple_mul ⟨_, ho, rfl⟩ F.entry_tuple_mul (F.args_tuple_mul_2 _ _) (tuple_mul1 l its.toArray n dd sl 1 t (by decide) (by simp)) ⟨ho, ?_⟩⟩)
    exact ⟨.ref l, _, I, rfl, q⟩
  · refine wpAny_binaryOp_repeat_ref (T := "tuple") (U := "int") (by decide) ⟨_, ho, rfl⟩ (fun s' => typeIs_int s' 0 t) noFill_tuple_mul F.fills_int_mul F.slot_int_rmul repeat_tuple F.slot_int_index.lookup
      (call_meets F.slot_int_rmul (typeIs_int s 0 t) F.entry_int_rmul (F.args_int_rmul_2 _ _) (int_rmul_tuple 0 t l its.toArray n dd sl)
        ⟨ho, rfl, ⟨_, ho, rfl⟩, call_meets F.slot_tuple_mul ⟨_, ho, rfl⟩ F.entry_tuple_mul (F.args_tuple_mul_2 _ _) (tuple_mul0 l its.toArray n dd sl 0 t (by decide) (by rw [hi]; rfl) (by simp)) ⟨ho, ?_⟩⟩)
    refine ⟨.ref s.heap.objs.size, _, I.laid (t' := s.toks) (o := .tup []) (fun b ob q => Heap.get?_push_of_some _ q) (Nat.le_refl _) ?_, rfl, q _ (I.hok.fresh (Nat.le_refl _))⟩
    exact ⟨by rw [sizeLine_eq]; simp, [], .nil, IsTup.new _ _⟩
end
def opMul2 : D → D → Option D
  | .tup xs, .int k => if xs ≠ [] ∧ 0 ≤ k ∧ k ≤ 1000 ∧ xs.length ≤ 1000 then some (.tup (List.replicate k.toNat xs).flatten) else none
  | d, e => opMul d e
theorem od_mul2 {C : Ctx} : OpD C (binaryOp .Mult) opMul2 := by
  intro X G pins s σ H x y v u Q I rx ry ⟨F, ρ, M, dx, dy, dz, R, r1, r2, e, q⟩
  have gen := fun e2 : opMul dx dy = some dz => od_mul X G pins s σ H x y v u Q I rx ry ⟨F, ρ, M, dx, dy, dz, R, r1, r2, e2, q⟩
  cases dx with
  | tup ds =>
    cases dy with
    | int k =>
      simp only [opMul2] at e
      split at e
      · rename_i c
        obtain ⟨c1, c2, c3, c4⟩ := c
        by_cases h2 : 2 ≤ k
        · exact gen (by simp only [opMul]; rw [if_pos ⟨c1, h2, c3, c4⟩]; exact e)
        · cases e
          cases (show Rep X.K X.mg F y (.int k) from r2)
          cases (show Rep X.K X.mg F x (.tup ds) from r1) with
          | tup h1 q1 =>
            have l1 := q1.length
            refine op_repT1 pins s σ H _ _ v u Q I rx ry ⟨_, k, _, rfl, rfl, SqT.mono R.sub h1, fun z => c1 ?_, ?_⟩
            · rw [z] at l1
              cases ds with
              | nil => rfl
              | cons _ _ => simp at l1
            · have h01 : k = 0 ∨ k = 1 := by omega
              rcases h01 with rfl | rfl
              · refine .inr ⟨rfl, fun p hp => ?_⟩
                obtain ⟨y1, y2, y3⟩ := R.tup hp (.nil)
                exact q _ _ _ y1 y2 y3
              · refine .inl ⟨rfl, q F H _ .refl R ?_⟩
                have e1 : (List.replicate (1 : Int).toNat ds).flatten = ds := by simp
                rw [e1]
                exact r1
      · cases e
    | _ => exact gen e
  | _ => exact gen e
end PD
namespace PD
open PySem PySem.Spec PyProof.Rows L2
/-! ### sum of a tuple -/
theorem sumT_raw {prog : Program} {w : World} {A : Around} {E : Value → Shared → Prop} {s : Shared} {l : Addr} {its : List Value} {ns : List Int} {Q : Value → Shared → Prop} (hh : A.handled = none) (hl : s.heap.IsTuple l its.toArray) (hi : IntsAre its ns)
    (h : ∀ h' tk t', (∀ b o, s.heap.get? b = some o → h'.get? b = some o) → Q (.int ns.sum t') { s with heap := h', toks := tk }) : wpAny (model prog w) A (call (.builtin "sum") [.ref l]) Q E s := by
  obtain ⟨xs, e⟩ := hi.allInts.items
  have hn : numsOf (intItems xs).toList = ns := by rw [← e]; exact hi.numsOf
  rw [nums_intItems] at hn
  rw [e] at hl
  refine PySem.W.ktm_sumG hh hl fun h' tk t' hk => ?_
  have := h h' tk t' hk
  rw [preSum_eq, List.take_of_length_le (by simp), hn]; exact this
def rSumT (K : PySem.W.Frag) : List V → Hp → VK → Prop := fun vs H Q => ∃ (a : Addr) (ns : List Int), vs = [V.ref a] ∧ SqT K H a (ns.map V.int) ∧ Q (.int ns.sum) H
theorem cr_sumT {X : Cx} (hc : X.calm = true) : CallR X (.builtin "sum") (rSumT X.K) := by
  intro pins s σ H vs us Q I r h
  obtain ⟨a, ns, rfl, hs, q⟩ := h
  obtain ⟨its, rv, hl, _⟩ := I.tuple hs
  rw [Vals.ref1 r]
  exact sumT_raw (I.ok.hd hc) (show s.heap.IsTuple a its.toArray from hl) rv.ints fun h' tk t' hk => ⟨.int _, H, I.kept hk, ⟨_, rfl⟩, q⟩
def gSum2 : List D → Option D
  | [.lst ds] => (intsOf ds).map fun bs => .int bs.sum
  | [.tup ds] => (intsOf ds).map fun bs => .int bs.sum
  | _ => none
theorem cb_sum2 {C : Ctx} : CallD C (.builtin "sum") gSum2 := by
  intro X G pins s σ H xs us Q I rv ⟨F, ρ, M, ds, dz, R, r, e, q⟩
  match ds, e with
  | [.lst es], e => exact cb_sum X G pins s σ H xs us Q I rv ⟨F, ρ, M, _, dz, R, r, e, q⟩
  | [.tup es], e =>
    simp only [gSum2] at e
    cases e1 : intsOf es with
    | none => rw [e1] at e; cases e
    | some bs =>
      rw [e1] at e; cases e
      obtain ⟨x, rfl, rx⟩ : ∃ x, xs = [x] ∧ Rep X.K X.mg F x (.tup es) := by
        cases r with
        | cons h t => cases t; exact ⟨_, rfl, h⟩
      cases rx with
      | tup h1 q1 =>
        have z := reps_ints q1 e1
        subst z
        exact cr_sumT G.calm pins s σ H _ us Q I rv ⟨_, bs, rfl, SqT.mono R.sub h1, q F H _ .refl R (.int _)⟩
end PD
namespace PD
open PySem PySem.Spec PyProof.Rows L2
/-! ### max and min of ints -/
theorem alikeOk_ints (ns : List Int) : alikeOk (ns.map .int) = true := by
  unfold alikeOk
  rw [Bool.and_eq_true, Bool.and_eq_true]
  refine ⟨⟨List.all_eq_true.mpr fun x hx => List.all_eq_true.mpr fun y hy => ?_, List.all_eq_true.mpr fun x hx => ?_⟩, decide_eq_true (by rw [(lay_ints ns).2]; decide)⟩
  · obtain ⟨i, _, rfl⟩ := List.mem_map.mp hx
    obtain ⟨j, _, rfl⟩ := List.mem_map.mp hy
    simp [PySem.W.alike]
  · obtain ⟨i, _, rfl⟩ := List.mem_map.mp hx
    rfl
theorem maxD_ints : ∀ (ns : List Int) (a : Int), ∃ m ∈ a :: ns, (∀ x ∈ a :: ns, x ≤ m) ∧ PySem.W.maxD (.int a) (ns.map .int) = .int m
  | [], a => ⟨a, by simp, by simp, rfl⟩
  | n :: ns, a => by
    have e : PySem.W.maxD (.int a) ((n :: ns).map .int) = PySem.W.maxD (if a < n then .int n else .int a) (ns.map .int) := by
      unfold PySem.W.maxD
      rw [List.map_cons, List.foldl_cons]
      simp [PySem.W.dataLt_int]
    rw [e]
    by_cases c : a < n
    · rw [if_pos c]
      obtain ⟨m, h1, h2, h3⟩ := maxD_ints ns n
      refine ⟨m, List.mem_cons_of_mem _ h1, fun x hx => ?_, h3⟩
      rcases List.mem_cons.mp hx with q | q
      · have := h2 n (by simp); omega
      · exact h2 x q
    · rw [if_neg c]
      obtain ⟨m, h1, h2, h3⟩ := maxD_ints ns a
      refine ⟨m, ?_, fun x hx => ?_, h3⟩
      · rcases List.mem_cons.mp h1 with q | q
        · simp [q]
        · exact List.mem_cons_of_mem _ (List.mem_cons_of_mem _ q)
      · rcases List.mem_cons.mp hx with q | q
        · exact h2 x (by simp [q])
        · rcases List.mem_cons.mp q with q | q
          · have := h2 a (by simp); omega
          · exact h2 x (List.mem_cons_of_mem _ q)
theorem minD_ints : ∀ (ns : List Int) (a : Int), ∃ m ∈ a :: ns, (∀ x ∈ a :: ns, m ≤ x) ∧ PySem.W.minD (.int a) (ns.map .int) = .int m
  | [], a => ⟨a, by simp, by simp, rfl⟩
  | n :: ns, a => by
    have e : PySem.W.minD (.int a) ((n :: ns).map .int) = PySem.W.minD (if n < a then .int n else .int a) (ns.map .int) := by
      unfold PySem.W.minD
      rw [List.map_cons, List.foldl_cons]
      simp [PySem.W.dataLt_int]
    rw [e]
    by_cases c : n < a
    · rw [if_pos c]
      obtain ⟨m, h1, h2, h3⟩ := minD_ints ns n
      refine ⟨m, List.mem_cons_of_mem _ h1, fun x hx => ?_, h3⟩
      rcases List.mem_cons.mp hx with q | q
      · have := h2 n (by simp); omega
      · exact h2 x q
    · rw [if_neg c]
      obtain ⟨m, h1, h2, h3⟩ := minD_ints ns a
      refine ⟨m, ?_, fun x hx => ?_, h3⟩
      · rcases List.mem_cons.mp h1 with q | q
        · simp [q]
        · exact List.mem_cons_of_mem _ (List.mem_cons_of_mem _ q)
      · rcases List.mem_cons.mp hx with q | q
        · exact h2 x (by simp [q])
        · rcases List.mem_cons.mp q with q | q
          · have := h2 a (by simp); omega
          · exact h2 x (List.mem_cons_of_mem _ q)
theorem gMaxL_ints {ns : List Int} (h : ns ≠ []) : ∃ m ∈ ns, (∀ x ∈ ns, x ≤ m) ∧ gMaxL [.lst (ns.map .int)] = some (.int m) := by
  cases ns with
  | nil => exact absurd rfl h
  | cons a ns =>
    obtain ⟨m, h1, h2, h3⟩ := maxD_ints ns a
    refine ⟨m, h1, h2, ?_⟩
    have et : toPys ((a :: ns).map D.int) = some (.int a :: ns.map .int) := toPys_ints _
    simp only [gMaxL, et]
    have := alikeOk_ints (a :: ns)
    rw [List.map_cons] at this
    rw [if_pos this, h3]
    rfl
theorem gMinL_ints {ns : List Int} (h : ns ≠ []) : ∃ m ∈ ns, (∀ x ∈ ns, m ≤ x) ∧ gMinL [.lst (ns.map .int)] = some (.int m) := by
  cases ns with
  | nil => exact absurd rfl h
  | cons a ns =>
    obtain ⟨m, h1, h2, h3⟩ := minD_ints ns a
    refine ⟨m, h1, h2, ?_⟩
    have et : toPys ((a :: ns).map D.int) = some (.int a :: ns.map .int) := toPys_ints _
    simp only [gMinL, et]
    have := alikeOk_ints (a :: ns)
    rw [List.map_cons] at this
    rw [if_pos this, h3]
    rfl
end PD
namespace PD
open PySem PySem.Spec PyProof.Rows L2
/-! ### o.count(e), o a list of ints that is content -/
def cCnt (fo : DE) (f : DE) : DE := fun env M => (fo env M).bind fun w M1 => match w with
  | .d (.lst ds) => match intsOf ds with
    | some ns => (f env M1).bind fun v M2 => match v with
      | .d (.int k) => .ok (.d (.int (ns.count k : Nat))) M2
      | _ => .bad
    | none => .bad
  | _ => .bad
section
variable {C : Ctx} {o e : Expr} {fo f : DE} {apos cpos : Pos}
theorem pd_cnt (ho : PDE C o fo) (he : PDE C e f) (hbase : ∀ env, attributeBase o "count" env (eval o env) = eval o env := by intro _; rfl)
    (hfew : ∀ env, ((backTo cpos (starEach [e] env)).all (fun x => !x.1) && (backToKw cpos (keywordEach [] env)).all (fun x => x.1.isSome)
      && decide ([e].length + ([] : List Keyword).length + (if ([] : List Keyword).isEmpty then 0 else 1) < 30)) = true := by intro _; rfl)
    (hline : (apos.endLine == cpos.line) = true := by rfl) (hs : ∀ env, starEach [e] env = (false, eval e env) :: starEach [] env := by intro _; rfl) : PDE C (.Call (.Attribute o "count" apos) [e] [] cpos) (cCnt fo f) := by
  refine ⟨fun X Wx G tk => PE_imp (pe_bm PySem.F.plainAttrs_list PySem.F.slot_list_count PySem.F.type_list_count mt_lcount (ho.run X Wx G tk) (L2.pa_cons (he.run X Wx G tk) L2.pa_nil (hs _)) (hbase _) (hfew _) hline (hs _) rfl) fun σ H Q ⟨F, ρ, M, env, R, S, p⟩ => ?_⟩
  refine ⟨F, ρ, M, env, R, S, (RPost.seq p).imp fun v H1 ⟨F1, ρ1, M1, w, x1, R1, r1, p1⟩ => ?_⟩
  cases w with
  | mt j => exact p1.elim
  | d y =>
    cases y with
    | lst ds =>
      cases (show Rep X.K X.mg F1 v (.lst ds) from r1) with
      | lst h1 q1 =>
        simp only at p1
        cases ei : intsOf ds with
        | none => simp only [ei] at p1; exact p1.elim
        | some ns =>
          simp only [ei] at p1
          have exs := reps_ints q1 ei
          subst exs
          refine ⟨.inl ⟨rfl, _, SqL.mono R1.sub h1⟩, ?_⟩
          refine ⟨F1, ρ1, M1, env, R1, S.ext x1, (RPost.seq p1).imp fun v H2 ⟨F2, ρ2, M2, w, x2, R2, r2, p2⟩ => ?_⟩
          split at p2
          · rename_i k
            cases (show Rep X.K X.mg F2 v (.int k) from r2)
            exact ⟨_, ns, k, rfl, rfl, SqL.mono (x2.sub.trans R2.sub) h1, p2 F2 ρ2 H2 _ .refl R2 (.int _)⟩
          · exact p2.elim
    | _ => exact p1.elim
end
/-! ### sorted(list of alike data) -/
def sortOk (ps : List PyData) : Bool := alikeOk ps && (ps.all (fun x => match x with | .tuple (_ :: _) => true | _ => false) || ps.all fun x => match x with | .none => false | .tuple _ => false | _ => true) && decide (ps.length ≤ 16777216)
def srtP (ps : List PyData) : List PyData := ps.mergeSort (PySem.W.dataLe false id)
def gSrtD : List D → Option (List D)
  | [.lst es] => match toPys es with
    | some ps => if sortOk ps = true then some ((srtP ps).map fromPy) else none
    | none => none
  | _ => none
theorem sortOk_all {ps : List PyData} (h : sortOk ps = true) : PySem.W.AllAlike ps ∧ PySem.W.Sortable ps ∧ PyData.depthAll ps ≤ 60 ∧ ps.length ≤ sizeLine := by
  unfold sortOk at h
  rw [Bool.and_eq_true, Bool.and_eq_true, Bool.or_eq_true] at h
  obtain ⟨⟨h1, h2⟩, h3⟩ := h
  obtain ⟨a1, a2⟩ := alikeOk_all h1
  refine ⟨fun d hd d' hd' => a1.1 d hd d' hd', ?_, a2, by rw [sizeLine_eq]; exact of_decide_eq_true h3⟩
  rcases h2 with h2 | h2
  · refine .inl fun d hd => ?_
    have := List.all_eq_true.mp h2 d hd
    split at this
    · exact ⟨_, _, rfl⟩
    · cases this
  · refine .inr fun d hd => ?_
    have := List.all_eq_true.mp h2 d hd
    split at this
    · cases this
    · cases this
    · rename_i h4 h5
      exact ⟨fun e => h4 e, fun xs e => h5 xs e⟩
section
variable {C : Ctx}
theorem depth_le {ps : List PyData} : ∀ {p : PyData}, p ∈ ps → p.depth ≤ PyData.depthAll ps := by
  induction ps with
  | nil => intro p h; cases h
  | cons q ps ih =>
    intro p h
    show _ ≤ max (PyData.depth q) (PyData.depthAll ps)
    rcases List.mem_cons.mp h with z | z
    · rw [z]; omega
    · have := ih z; omega
theorem each_reads {h : Heap} {vs : List Value} {ps : List PyData} {as : List Addr} (hr : ReadsAll h vs ps as) (hl : vs.length = ps.length) : PySem.W.EachIs (fun v b => ∃ as, Reads h v b as) vs ps := by
  refine PySem.W.EachIs.of_zip hl fun p hp => ?_
  obtain ⟨i, hi, e⟩ := List.getElem_of_mem hp
  have h1 : i < vs.length := by rw [List.length_zip] at hi; omega
  have h2 : i < ps.length := by omega
  rw [List.getElem_zip] at e
  obtain ⟨bs, r, _⟩ := PySem.W.readsAll_at hr i vs[i] (List.getElem?_eq_getElem h1)
  refine ⟨bs, ?_⟩
  rw [← e]
  rw [List.getD_eq_getElem?_getD, List.getElem?_eq_getElem h2] at r
  exact r
theorem vals_each {X : Cx} {F : Hp} : ∀ {xs : List V} {its : List Value} {es : List D} {ps : List PyData}, Vals xs its → Reps X.K X.mg F xs es → toPys es = some ps → PySem.W.EachIs (fun v p => ∃ x, RelV x v ∧ Rep X.K X.mg F x (fromPy p)) its ps
  | _, _, [], _, .nil, .nil, e => by cases e; exact .nil
  | _, _, d :: ds, ps, .cons rv rvs, .cons h r, e => by
    unfold toPys at e
    cases e1 : toPy d with
    | none => rw [e1] at e; cases e
    | some p =>
      cases e2 : toPys ds with
      | none => rw [e1, e2] at e; cases e
      | some qs =>
        rw [e1, e2] at e; cases e
        exact .cons ⟨_, rv, by rw [from_to e1]; exact h⟩ (vals_each rvs r e2)
theorem each_vals {X : Cx} {F : Hp} : ∀ {out : List Value} {ps : List PyData}, PySem.W.EachIs (fun v p => ∃ x, RelV x v ∧ Rep X.K X.mg F x (fromPy p)) out ps → ∃ xs, Vals xs out ∧ Reps X.K X.mg F xs (ps.map fromPy)
  | _, _, .nil => ⟨[], .nil, .nil⟩
  | _, _, .cons ⟨x, rv, r⟩ t => by
    obtain ⟨xs, h1, h2⟩ := each_vals t
    exact ⟨x :: xs, .cons rv h1, .cons r h2⟩
theorem cl_sortD : CallL C (.builtin "sorted") gSrtD := by
  intro X G pins s σ H vs us Q I r h
  obtain ⟨F, ρ, M, ds, dz, R, rc, e, q⟩ := h
  match ds, e with
  | [.lst es], e =>
    obtain ⟨x, rfl, rx⟩ := one_of rc
    obtain ⟨a, xs, rfl, hs, rr⟩ := rx
    unfold gSrtD at e
    simp only at e
    split at e
    · rename_i ps ep
      split at e
      · rename_i ok
        cases e
        obtain ⟨ha, hk, hdp, hlen⟩ := sortOk_all ok
        obtain ⟨its, rv, hl, hz⟩ := I.list hs
        obtain ⟨u, rfl, ru⟩ := vals1 r
        obtain rfl : u = Value.ref a := ru
        obtain ⟨as, hr⟩ := Dp.readsAll I _ _ _ (dps_of (Reps.mono R.sub rr) ep) rv
        have hu := room65 G
        have ev := vals_each rv rr ep
        refine PySem.W.sorted_data (enc := id) hl.isList ev (each_reads hr ev.length) (by rw [List.map_id]; exact ha) (by rw [List.map_id]; exact hk) hlen (fun b hb => ?_) fun out ho eo => ?_
        · have := depth_le hb
          show _ + 2 + b.depth < _
          omega
        · obtain ⟨ys, rv2, rr2⟩ := each_vals eo
          obtain ⟨ep', he'⟩ := PyProof.Rows.sortedAll_at s.heap its out.toArray
          have hlen2 : ys.length ≤ sizeLine := by rw [rv2.length, ho]; exact hlen
          have hnn : H (s.heap.objs.size + 1) = none := I.hok.fresh (Nat.le_succ _)
          exact ⟨.ref _, upd H (s.heap.objs.size + 1) (.lst ys), I.laid (t' := s.toks) (fun _ _ => PyProof.Rows.sortedAll_old) (Nat.le_succ _) ⟨hlen2, out, ep', rv2, he'⟩, rfl, q _ ys hnn rr2⟩
      · cases e
    · cases e
end
end PD
namespace PD
open PySem PySem.Spec PyProof.Rows L2
/-! ### comprehensions over what is made from a list -/
theorem comp_mapG {α : Type} {env0 : Ev} {g : DG} {ft : DT} {fe : DE} {M : Store} (a : α → D) (en : α → Ev) (c : α → Bool) (f : α → D) : ∀ (xs : List α), (∀ x ∈ xs, g (.d (a x)) env0 M = some (en x, M) ∧ ft (en x) M = .ok (c x) M ∧ (c x = true → fe (en x) M = .ok (.d (f x)) M)) →
    compL env0 g ft fe (xs.map a) M = .ok ((xs.filter c).map f) M
  | [], _ => rfl
  | x :: r, h => by
    have ih := comp_mapG a en c f r fun y hy => h y (List.mem_cons_of_mem _ hy)
    obtain ⟨h0, h1, h2⟩ := h x (by simp)
    rw [List.map_cons]
    unfold compL
    simp only [h0, h1]
    cases hc : c x with
    | true => simp only [h2 hc, ih, Res.bind_ok, List.filter_cons, hc, if_true, List.map_cons]
    | false => simp only [ih, List.filter_cons, hc]; rfl
theorem comp_mapN {α : Type} {env0 : Ev} {k : Nat} {ft : DT} {fe : DE} {M : Store} (a : α → D) (c : α → Bool) (f : α → D) (xs : List α) (h : ∀ x ∈ xs, ft (env0.set k (some (.d (a x)))) M = .ok (c x) M ∧ (c x = true → fe (env0.set k (some (.d (a x)))) M = .ok (.d (f x)) M)) :
    compL env0 (gN k) ft fe (xs.map a) M = .ok ((xs.filter c).map f) M :=
  comp_mapG a (fun x => env0.set k (some (.d (a x)))) c f xs fun x hx => ⟨rfl, (h x hx).1, (h x hx).2⟩
theorem comp_mapT {α : Type} {env0 : Ev} {k : Nat} {fe : DE} {M : Store} (a : α → D) (f : α → D) (xs : List α) (h : ∀ x ∈ xs, fe (env0.set k (some (.d (a x)))) M = .ok (.d (f x)) M) :
    compL env0 (gN k) tTrue fe (xs.map a) M = .ok (xs.map f) M := by
  have := comp_mapN (ft := tTrue) (k := k) (env0 := env0) (M := M) a (fun _ => true) f xs fun x hx => ⟨rfl, fun _ => h x hx⟩
  rw [List.filter_eq_self.mpr fun _ _ => rfl] at this
  exact this
theorem rng_map (n : Nat) : rngD 0 n = (List.range n).map fun i : Nat => D.int (i : Int) := by
  unfold rngD
  refine List.map_congr_left fun i _ => ?_
  rw [Int.zero_add]
theorem comp_rng {env0 : Ev} {k : Nat} {fe : DE} {M : Store} (f : Nat → D) (n : Nat) (h : ∀ i, i < n → fe (env0.set k (some (.d (.int (i : Int))))) M = .ok (.d (f i)) M) :
    compL env0 (gN k) tTrue fe (rngD 0 n) M = .ok ((List.range n).map f) M := by
  rw [rng_map]
  exact comp_mapT _ f _ fun i hi => h i (List.mem_range.mp hi)
theorem comp_rngC {env0 : Ev} {k : Nat} {ft : DT} {fe : DE} {M : Store} (c : Nat → Bool) (f : Nat → D) (n : Nat) (h : ∀ i, i < n → ft (env0.set k (some (.d (.int (i : Int))))) M = .ok (c i) M ∧ (c i = true → fe (env0.set k (some (.d (.int (i : Int))))) M = .ok (.d (f i)) M)) :
    compL env0 (gN k) ft fe (rngD 0 n) M = .ok (((List.range n).filter c).map f) M := by
  rw [rng_map]
  exact comp_mapN _ c f _ fun i hi => h i (List.mem_range.mp hi)
/-! ### sorted((number, row), ..) -/
def rkP (p : Int × List Int) : PyData := .tuple [.int p.1, .tuple (p.2.map .int)]
def rkD (p : Int × List Int) : D := .tup [.int p.1, rowD p.2]
theorem toPy_rk (p : Int × List Int) : toPy (rkD p) = some (rkP p) := by
  unfold rkD rowD
  simp only [toPy, toPys, toPys_ints, Option.map_some]
  rfl
theorem toPys_rk : ∀ ps : List (Int × List Int), toPys (ps.map rkD) = some (ps.map rkP)
  | [] => rfl
  | p :: ps => by
    rw [List.map_cons]
    show (match toPy (rkD p), toPys (ps.map rkD) with | some p, some ps => some (p :: ps) | _, _ => none) = _
    rw [toPy_rk, toPys_rk ps]; rfl
theorem depth_rk : ∀ ps : List (Int × List Int), PyData.depthAll (ps.map rkP) ≤ 2
  | [] => Nat.zero_le _
  | p :: ps => by
    have h := (lay_ints p.2).2
    have e : PyData.depth (rkP p) ≤ 2 := by
      show max 0 (max (PyData.depthAll (p.2.map .int) + 1) 0) + 1 ≤ 2
      rw [h]; decide
    show max (PyData.depth (rkP p)) (PyData.depthAll (ps.map rkP)) ≤ 2
    have := depth_rk ps
    omega
theorem sortOk_rk {ps : List (Int × List Int)} (hl : ps.length ≤ 16777216) : sortOk (ps.map rkP) = true := by
  unfold sortOk alikeOk
  have hm : ∀ x ∈ ps.map rkP, ∃ p, x = rkP p := fun x hx => by
    obtain ⟨p, _, e⟩ := List.mem_map.mp hx
    exact ⟨p, e.symm⟩
  simp only [Bool.and_eq_true, Bool.or_eq_true]
  refine ⟨⟨⟨⟨List.all_eq_true.mpr fun x hx => List.all_eq_true.mpr fun y hy => ?_, List.all_eq_true.mpr fun x hx => ?_⟩, decide_eq_true (Nat.le_trans (depth_rk ps) (by decide))⟩, .inl (List.all_eq_true.mpr fun x hx => ?_)⟩, decide_eq_true (by simpa using hl)⟩
  · obtain ⟨p, rfl⟩ := hm x hx
    obtain ⟨q, rfl⟩ := hm y hy
    simp only [rkP, PySem.W.alike, PySem.W.alikeAll, alike_ints, Bool.and_self]
  · obtain ⟨p, rfl⟩ := hm x hx
    rfl
  · obtain ⟨p, rfl⟩ := hm x hx
    rfl
theorem perm_of_map {α β : Type} {f : α → β} : ∀ {b : List β} {a : List β}, b.Perm a → ∀ xs : List α, a = xs.map f → ∃ ys : List α, b = ys.map f ∧ ys.Perm xs := by
  intro b a h
  induction h with
  | nil => intro xs e; exact ⟨[], rfl, by
      have : xs = [] := List.map_eq_nil_iff.mp e.symm
      rw [this]⟩
  | cons x _ ih =>
    intro xs e
    cases xs with
    | nil => cases e
    | cons y ys =>
      rw [List.map_cons, List.cons.injEq] at e
      obtain ⟨zs, e1, p⟩ := ih ys e.2
      exact ⟨y :: zs, by rw [e1, e.1]; rfl, p.cons y⟩
  | swap x y l =>
    intro xs e
    match xs, e with
    | a :: b :: r, e =>
      simp only [List.map_cons, List.cons.injEq] at e
      obtain ⟨e1, e2, e3⟩ := e
      exact ⟨b :: a :: r, by simp [e1, e2, e3], .swap _ _ _⟩
  | trans _ _ ih1 ih2 =>
    intro xs e
    obtain ⟨ys, e1, p⟩ := ih2 xs e
    obtain ⟨zs, e2, q⟩ := ih1 ys e1
    exact ⟨zs, e2, q.trans p⟩
theorem gSrtD_rk {ps : List (Int × List Int)} (hl : ps.length ≤ 16777216) : ∃ qs : List (Int × List Int), qs.Perm ps ∧ gSrtD [.lst (ps.map rkD)] = some (qs.map rkD) := by
  obtain ⟨qs, e, pm⟩ := perm_of_map (f := rkP) (List.mergeSort_perm (ps.map rkP) (PySem.W.dataLe false id)) ps rfl
  refine ⟨qs, pm, ?_⟩
  unfold gSrtD
  simp only [toPys_rk]
  rw [if_pos (sortOk_rk hl)]
  have e2 : srtP (ps.map rkP) = qs.map rkP := e
  rw [e2, List.map_map]
  refine congrArg some (List.map_congr_left fun q _ => ?_)
  exact from_to (toPy_rk q)
end PD
namespace PD
open PySem PySem.Spec PyProof.Rows L2
variable {K : PySem.W.Frag} {mg : MG}
/-! ### dicts: looked up, put -/
def lookD (ds : List (L2.Key × D)) (k : L2.Key) : Option D := (ds.find? fun kv => decide (kv.1 = k)).map (·.2)
def putD (ds : List (L2.Key × D)) (k : L2.Key) (y : D) : List (L2.Key × D) :=
  if ds.any (fun kv => decide (kv.1 = k)) then ds.map fun kv => if kv.1 = k then (kv.1, y) else kv else ds ++ [(k, y)]
theorem RepK.length {F : Hp} : ∀ {kvs : List (L2.Key × V)} {ds : List (L2.Key × D)}, RepK K mg F kvs ds → kvs.length = ds.length
  | _, _, .nil => rfl
  | _, _, .cons _ r => by rw [List.length_cons, List.length_cons, RepK.length r]
theorem RepK.look {F : Hp} : ∀ {kvs : List (L2.Key × V)} {ds : List (L2.Key × D)} (_ : RepK K mg F kvs ds) (k : L2.Key), (valV kvs k = none ∧ lookD ds k = none) ∨ ∃ v d, valV kvs k = some v ∧ lookD ds k = some d ∧ Rep K mg F v d
  | _, _, .nil, k => .inl ⟨rfl, rfl⟩
  | _, _, .cons (k := j) (v := v) (d := d) h r, k => by
    unfold valV lookD
    simp only [List.find?_cons]
    by_cases c : j = k
    · simp only [c, decide_true]
      exact .inr ⟨v, d, rfl, rfl, h⟩
    · simp only [c, decide_false]
      exact RepK.look r k
theorem RepK.any {F : Hp} : ∀ {kvs : List (L2.Key × V)} {ds : List (L2.Key × D)} (_ : RepK K mg F kvs ds) (k : L2.Key), (kvs.any fun kv => decide (kv.1 = k)) = ds.any fun kv => decide (kv.1 = k)
  | _, _, .nil, k => rfl
  | _, _, .cons h r, k => by
    rw [List.any_cons, List.any_cons, RepK.any r k]
theorem RepK.repl {F : Hp} {v : V} {y : D} (h : Rep K mg F v y) (k : L2.Key) : ∀ {kvs : List (L2.Key × V)} {ds : List (L2.Key × D)}, RepK K mg F kvs ds → RepK K mg F (kvs.map fun kv => if kv.1 = k then (kv.1, v) else kv) (ds.map fun kv => if kv.1 = k then (kv.1, y) else kv)
  | _, _, .nil => .nil
  | _, _, .cons (k := j) h1 r => by
    rw [List.map_cons, List.map_cons]
    by_cases c : j = k
    · simp only [c, if_true]
      exact .cons h (RepK.repl h k r)
    · simp only [c, if_false]
      exact .cons h1 (RepK.repl h k r)
theorem RepK.snoc {F : Hp} {v : V} {y : D} (h : Rep K mg F v y) (k : L2.Key) : ∀ {kvs : List (L2.Key × V)} {ds : List (L2.Key × D)}, RepK K mg F kvs ds → RepK K mg F (kvs ++ [(k, v)]) (ds ++ [(k, y)])
  | _, _, .nil => .cons h .nil
  | _, _, .cons h1 r => .cons h1 (RepK.snoc h k r)
theorem RepK.put {F : Hp} {v : V} {y : D} {kvs : List (L2.Key × V)} {ds : List (L2.Key × D)} (r : RepK K mg F kvs ds) (k : L2.Key) (h : Rep K mg F v y) : RepK K mg F (putK kvs k v) (putD ds k y) := by
  unfold putK putD
  rw [RepK.any r k]
  cases ds.any fun kv => decide (kv.1 = k) with
  | true => exact RepK.repl h k r
  | false => exact RepK.snoc h k r
theorem putD_len (ds : List (L2.Key × D)) (k : L2.Key) (y : D) : (putD ds k y).length ≤ ds.length + 1 := by
  unfold putD
  split
  · rw [List.length_map]; omega
  · simp
/-! ### a dict under way at slot i -/
structure RepD (K : PySem.W.Frag) (mg : MG) (i : Nat) (H0 F : Hp) (ρ : List Addr) (H : Hp) (σ : St) (env : Ev) : Prop where
  st : RepS K mg F ρ σ (env.set i none)
  at' : ∃ a kvs ds, σ[i]? = some (some (.ref a)) ∧ env[i]? = some (some (.d (.dic ds))) ∧ H a = some (.dK kvs) ∧ RepK K mg F kvs ds ∧ F a = none ∧ a ∉ ρ ∧ H0 a = none
theorem RepD.ext {i : Nat} {H0 F F' : Hp} {ρ ρ' : List Addr} {H H' : Hp} {σ : St} {env : Ev} (x : Ext F ρ H F' ρ' H') (h : RepD K mg i H0 F ρ H σ env) : RepD K mg i H0 F' ρ' H' σ env := by
  obtain ⟨st, a, kvs, ds, h1, h2, h3, h4, h5, h6, h7⟩ := h
  obtain ⟨g1, g2, g3⟩ := x.keep h5 h6 h3
  exact ⟨st.ext x, a, kvs, ds, h1, h2, g3, RepK.mono x.sub h4, g1, g2, h7⟩
def SPostD (K : PySem.W.Frag) (mg : MG) (i : Nat) (F0 : Hp) (ρ0 : List Addr) (H0 F : Hp) (r : SRes) (De : Ends) : Prop :=
  match r with
  | .nx env' M' => ∀ F' ρ' σ' H', Sub F F' → Ext F0 ρ0 H0 F' ρ' H' → Rel K mg F' ρ' M' H' → RepD K mg i H0 F' ρ' H' σ' env' → De.nx σ' H'
  | .ret w M' => ∀ F' ρ' H' v, Ext F0 ρ0 H0 F' ρ' H' → Rel K mg F' ρ' M' H' → RepW K mg F' ρ' v w → De.rt v H'
  | _ => False
theorem SPostD.mono {i : Nat} {F0 : Hp} {ρ0 : List Addr} {H0 F F' : Hp} {r : SRes} {De : Ends} (s : Sub F F') (h : SPostD K mg i F0 ρ0 H0 F r De) : SPostD K mg i F0 ρ0 H0 F' r De := by
  cases r with
  | nx env' M' => exact fun F2 ρ2 σ2 H2 t y R S => h F2 ρ2 σ2 H2 (s.trans t) y R S
  | _ => exact h
def rdD (K : PySem.W.Frag) (mg : MG) (i : Nat) (F0 : Hp) (ρ0 : List Addr) (H0 : Hp) (f : DS) : TS := fun De σ H => ∃ F ρ M env, Ext F0 ρ0 H0 F ρ H ∧ Rel K mg F ρ M H ∧ RepD K mg i H0 F ρ H σ env ∧ SPostD K mg i F0 ρ0 H0 F (f env M) De
structure PDSd (C : Ctx) (i : Nat) (st : Stmt) (f : DS) : Prop where
  run : ∀ X Wx, Good C X → Takes X Wx → ∀ F0 ρ0 H0, PS X st (rdD X.K X.mg i F0 ρ0 H0 f)
structure PDBd (C : Ctx) (i : Nat) (st : List Stmt) (f : DS) : Prop where
  run : ∀ X Wx, Good C X → Takes X Wx → ∀ F0 ρ0 H0, PSs X st (rdD X.K X.mg i F0 ρ0 H0 f)
def ofRd {α : Type} (r : Res α) (k : α → Store → SRes) : SRes := match r with
  | .ok a M => k a M
  | _ => .bad
@[simp] theorem ofRd_ok {α : Type} (a : α) (M : Store) (k : α → Store → SRes) : ofRd (.ok a M) k = k a M := rfl
theorem SPostD.seq {α β : Type} {rep : RepT β α} {i : Nat} {F0 : Hp} {ρ0 : List Addr} {H0 F : Hp} {ρ : List Addr} {H : Hp} {r : Res α} {σ : St} {k : α → Store → SRes} {De : Ends} {Wx : L2.WX} (h : SPostD K mg i F0 ρ0 H0 F (ofRd r k) De) :
    RPost K mg rep Wx σ F ρ H r (fun v H' => ∃ F' ρ' M' a, Ext F ρ H F' ρ' H' ∧ Rel K mg F' ρ' M' H' ∧ rep.r H F' ρ' H' v a ∧ SPostD K mg i F0 ρ0 H0 F' (k a M') De) := by
  cases r with
  | ok a M' => exact fun F2 ρ2 H2 v y R z => ⟨F2, ρ2, M', a, y, R, z, SPostD.mono y.sub h⟩
  | err e M' => exact h.elim
  | bad => exact h.elim
section
variable {C : Ctx} {i : Nat} {pos : Pos} {st : Stmt} {rest a b : List Stmt} {e c tg : Expr} {f : DE} {ft : DT} {fs gs : DS} {g : DG} {sl : List Nat}
def msk (i : Nat) (env : Ev) : Ev := env.set i none
theorem pbd_nil : PDBd C i [] sNil := ⟨fun X Wx G tk F0 ρ0 H0 => PSs_imp L2.pss_nil fun D σ H ⟨F, ρ, M, env, x, R, S, p⟩ => p F ρ σ H (.refl _) x R S⟩
theorem then_postD {F0 : Hp} {ρ0 : List Addr} {H0 F : Hp} {r : SRes} {k : DS} {De : Ends} (h : SPostD K mg i F0 ρ0 H0 F (r.then k) De) : SPostD K mg i F0 ρ0 H0 F r { De with nx := rdD K mg i F0 ρ0 H0 k De } := by
  cases r with
  | nx env' M' => exact fun F2 ρ2 σ2 H2 t y R S => ⟨F2, ρ2, M', env', y, R, S, SPostD.mono t h⟩
  | ret w M' => exact h
  | _ => exact h
theorem pbd_cons (h1 : PDSd C i st fs) (h2 : PDBd C i rest gs) : PDBd C i (st :: rest) (sSeq fs gs) :=
  ⟨fun X Wx G tk F0 ρ0 H0 => PSs_imp (pss_cons (h1.run X Wx G tk F0 ρ0 H0) (h2.run X Wx G tk F0 ρ0 H0)) fun D σ H ⟨F, ρ, M, env, x, R, S, p⟩ => ⟨F, ρ, M, env, x, R, S, then_postD p⟩⟩
theorem pbd_one (h1 : PDSd C i st fs) : PDBd C i [st] fs := ⟨fun X Wx G tk F0 ρ0 H0 => pss_one (h1.run X Wx G tk F0 ρ0 H0)⟩
def dEx (i : Nat) (f : DE) : DS := fun env M => ofRd (f (msk i env) M) fun _ M1 => .nx env M1
theorem psd_ex (he : PDE C e f) (hs : ∀ env, swapsWith e none pos.line env = pure false := by intro _; rfl) : PDSd C i (.Expr e pos) (dEx i f) :=
  ⟨fun X Wx G tk F0 ρ0 H0 => PS_imp (ps_expr (he.run X Wx G tk) (hs _)) fun D σ H ⟨F, ρ, M, env, x, R, S, p⟩ => ⟨F, ρ, M, _, R, S.st, (SPostD.seq p).imp fun v H1 ⟨F1, ρ1, M1, w, x1, R1, r1, p1⟩ => p1 F1 ρ1 σ H1 (.refl _) (x.trans x1) R1 (S.ext x1)⟩⟩
def dIf (i : Nat) (t : DT) (f g : DS) : DS := fun env M => ofRd (t (msk i env) M) fun b M1 => if b = true then f env M1 else g env M1
theorem psd_if (hc : PDT C c ft) (ha : PDBd C i a fs) (hb : PDBd C i b gs) : PDSd C i (.If c a b pos) (dIf i ft fs gs) := by
  refine ⟨fun X Wx G tk F0 ρ0 H0 => PS_imp (L2.ps_if (hc.run X Wx G tk) (ha.run X Wx G tk F0 ρ0 H0) (hb.run X Wx G tk F0 ρ0 H0)) fun D σ H ⟨F, ρ, M, env, x, R, S, p⟩ => ?_⟩
  refine ⟨F, ρ, M, _, R, S.st, (SPostD.seq p).imp fun v H1 ⟨F1, ρ1, M1, w, x1, R1, r1, p1⟩ => ?_⟩
  subst r1
  cases v with
  | true => exact ⟨F1, ρ1, M1, env, x.trans x1, R1, S.ext x1, p1⟩
  | false => exact ⟨F1, ρ1, M1, env, x.trans x1, R1, S.ext x1, p1⟩
/-- if e not in d -/
def dIfN (i : Nat) (fk : DE) (f g : DS) : DS := fun env M => ofRd (fk (msk i env) M) fun w M1 => match w, env[i]? with
  | .d (.int k), some (some (.d (.dic ds))) => if (lookD ds (.inl k)).isSome = true then g env M1 else f env M1
  | _, _ => .bad
theorem psd_ifn {x : Str} {p2 p3 : Pos} (hu : C.N[i]? = some x) (hv : visB C.sc x = true) (he : PDE C e f) (ha : PDBd C i a fs) (hb : PDBd C i b gs) (hm : behindInMarks .NotIn (.Name x p2) = false := by rfl) : PDSd C i (.If (.Compare e [.NotIn] [.Name x p2] p3) a b pos) (dIfN i f fs gs) := by
  refine ⟨fun X Wx G tk F0 ρ0 H0 => ?_⟩
  obtain ⟨h1, h2, h3⟩ := visB_vis hv
  have hr := room65 G
  refine PS_imp (L2.ps_if (L2.pt_cmp (L2.pc_dnotin (by omega) (he.run X Wx G tk) (pe_var (i := i) (by rw [G.N]; exact hu) (by rw [G.sc]; exact h1) h2 h3)) hm) (ha.run X Wx G tk F0 ρ0 H0) (hb.run X Wx G tk F0 ρ0 H0)) fun D σ H ⟨F, ρ, M, env, x, R, S, p⟩ => ?_
  refine ⟨F, ρ, M, _, R, S.st, (SPostD.seq p).imp fun v H1 ⟨F1, ρ1, M1, w, x1, R1, r1, p1⟩ => ?_⟩
  have S1 := S.ext x1
  obtain ⟨st1, q, kvs, ds, k1, k2, k3, k4, k5, k6, k7⟩ := S1
  rw [k2] at p1
  split at p1
  · rename_i k ds' hh
    cases hh
    cases (show Rep X.K X.mg F1 v (.int k) from r1)
    refine ⟨_, k1, q, _, rfl, DGet.k (k := .inl k) k3, _, rfl, ?_⟩
    rcases RepK.look k4 (.inl k) with ⟨v1, v2⟩ | ⟨u, d, v1, v2, _⟩
    · rw [v1]
      rw [v2] at p1
      exact ⟨F1, ρ1, M1, env, x.trans x1, R1, S.ext x1, p1⟩
    · rw [v1]
      rw [v2] at p1
      exact ⟨F1, ρ1, M1, env, x.trans x1, R1, S.ext x1, p1⟩
  · exact p1.elim
end
end PD
namespace PD
open PySem PySem.Spec PyProof.Rows L2
variable {K : PySem.W.Frag} {mg : MG}
section
variable {C : Ctx} {i : Nat} {pos : Pos} {st : Stmt} {rest a b body : List Stmt} {e c tg iter : Expr} {f fk fv : DE} {ft : DT} {fs gs fb : DS} {fi : DL} {g : DG} {sl : List Nat}
/-- d[k] = v -/
def dPut (i : Nat) (fk fv : DE) : DS := fun env M => ofRd (fv (msk i env) M) fun v M1 => ofRd (fk (msk i env) M1) fun w M2 => match v, w, env[i]? with
  | .d y, .d (.int k), some (some (.d (.dic ds))) => if ds.length < LIM then .nx (env.set i (some (.d (.dic (putD ds (.inl k) y))))) M2 else .bad
  | _, _, _ => .bad
theorem psd_put {x : Str} {p2 p3 : Pos} {ek ev : Expr} (hu : C.N[i]? = some x) (hv : visB C.sc x = true) (hk : PDE C ek fk) (he : PDE C ev fv) (hs : ∀ env, swapsWith ev (some (.Subscript (.Name x p2) ek p3)) pos.line env = pure false := by intro _; rfl) :
    PDSd C i (.Assign [.Subscript (.Name x p2) ek p3] ev pos) (dPut i fk fv) := by
  refine ⟨fun X Wx G tk F0 ρ0 H0 => ?_⟩
  obtain ⟨h1, h2, h3⟩ := visB_vis hv
  have hr := room65 G
  refine PS_imp (L2.ps_dput (by omega) (pe_var (i := i) (by rw [G.N]; exact hu) (by rw [G.sc]; exact h1) h2 h3) (hk.run X Wx G tk) (he.run X Wx G tk) (hs _)) fun D σ H ⟨F, ρ, M, env, x, R, S, p⟩ => ?_
  refine ⟨F, ρ, M, _, R, S.st, (SPostD.seq p).imp fun v H1 ⟨F1, ρ1, M1, w, x1, R1, r1, p1⟩ => ?_⟩
  have S1 := S.ext x1
  obtain ⟨a, kvs0, ds0, k1, k2, k3, k4, k5, k6, k7⟩ := S1.at'
  refine ⟨_, k1, F1, ρ1, M1, _, R1, S1.st, (SPostD.seq p1).imp fun u H2 ⟨F2, ρ2, M2, w2, x2, R2, r2, p2⟩ => ?_⟩
  have S2 := S1.ext x2
  obtain ⟨st2, b, kvs, ds, j1, j2, j3, j4, j5, j6, j7⟩ := S2
  rw [j1] at k1
  cases k1
  rw [j2] at p2
  split at p2
  · rename_i y k ds' hh p2old
    cases hh
    split at p2
    · rename_i hl
      cases (show Rep X.K X.mg F2 u (.int k) from r2)
      have hlen := RepK.length j4
      have rv : Rep X.K X.mg F2 v y := Rep.mono x2.sub r1
      refine ⟨_, _, rfl, DPut.k (k := .inl k) (v := v) j3 (by rw [← lim_line]; omega), ?_⟩
      refine p2 F2 ρ2 σ _ (.refl _) ((x.trans x1).trans x2 |>.write j7 _) (R2.writeH j5 j6 _) ⟨?_, _, putK kvs (.inl k) v, putD ds (.inl k) y, j1, ?_, upd_same, RepK.put j4 _ rv, j5, j6, j7⟩
      · show RepS X.K X.mg F2 ρ2 σ ((env.set i _).set i none)
        rw [List.set_set]
        exact st2
      · exact List.getElem?_set_self (List.getElem?_eq_some_iff.mp j2).1
    · exact p2.elim
  · exact p2.elim
/-- targets = e, the targets not at i -/
def dAs (i : Nat) (f : DE) (g : DG) : DS := fun env M => ofRd (f (msk i env) M) fun w M1 => match g w (msk i env) M1 with
  | some p => .nx (p.1.set i (env.getD i none)) p.2
  | none => .bad
theorem RepS.mask {F : Hp} {ρ : List Addr} {σ : St} {env : Ev} (h : RepS K mg F ρ σ env) (i : Nat) : RepS K mg F ρ σ (env.set i Option.none) := by
  refine ⟨by rw [List.length_set]; exact h.1, fun j w e => ?_⟩
  by_cases hj : i = j
  · subst hj
    have hl : i < env.length := by
      have := (List.getElem?_eq_some_iff.mp e).1
      rwa [List.length_set] at this
    rw [List.getElem?_set_self hl] at e
    cases e
  · rw [List.getElem?_set_ne hj] at e
    exact h.2 j w e
/-- after targets that are not at i -/
theorem RepD.after {H0 F F' : Hp} {ρ ρ' : List Addr} {H H' : Hp} {σ σ' : St} {env env' : Ev} (x : Ext F ρ H F' ρ' H') (h : RepD K mg i H0 F ρ H σ env) (S' : RepS K mg F' ρ' σ' env') (ag : Agree sl σ σ') (hi : i ∉ sl) : RepD K mg i H0 F' ρ' H' σ' (env'.set i (env.getD i none)) := by
  obtain ⟨st, a, kvs, ds, h1, h2, h3, h4, h5, h6, h7⟩ := h
  obtain ⟨g1, g2, g3⟩ := x.keep h5 h6 h3
  have hi' : i < env'.length := by
    have l1 := S'.1
    have l2 := ag.1
    have l3 := (List.getElem?_eq_some_iff.mp h1).1
    omega
  refine ⟨by rw [List.set_set]; exact S'.mask i, a, kvs, ds, by rw [ag.2 i hi]; exact h1, ?_, g3, RepK.mono x.sub h4, g1, g2, h7⟩
  rw [List.getElem?_set_self hi', List.getD_eq_getElem?_getD, h2]; rfl
theorem psd_as (he : PDE C e f) (hg : PDG C tg sl g) (hi : (sl.contains i) = false) (hs : ∀ env, swapsWithSole [tg] e pos.line env = pure false := by intro _; rfl) (hw : ∀ env, swappedStores [tg] e env = pure none := by intro _; rfl)
    (h1 : ∀ env, (assignEach [tg] env).map (·.2) = [assign tg env] := by intro _; rfl) : PDSd C i (.Assign [tg] e pos) (dAs i f g) := by
  refine ⟨fun X Wx G tk F0 ρ0 H0 => PS_imp (ps_asg (he.run X Wx G tk) (hg.run X G) (hs _) (hw _) (h1 _)) fun D σ H ⟨F, ρ, M, env, x, R, S, p⟩ => ?_⟩
  have hi' : i ∉ sl := fun m => by
    have : sl.contains i = true := by simpa using m
    rw [this] at hi; cases hi
  refine ⟨F, ρ, M, _, R, S.st, (SPostD.seq p).imp fun v H1 ⟨F1, ρ1, M1, w, x1, R1, r1, p1⟩ => ?_⟩
  have S1 := S.ext x1
  refine ⟨F1, ρ1, M1, _, w, R1, S1.st, r1, ?_⟩
  show GPost X.K X.mg sl σ F1 ρ1 H1 (g w (msk i env) M1) _
  cases eg : g w (msk i env) M1 with
  | none => rw [eg] at p1; exact p1.elim
  | some q =>
    rw [eg] at p1
    exact fun F2 ρ2 σ2 H2 y R2 S2 ag => p1 F2 ρ2 σ2 H2 y.sub ((x.trans x1).trans y) R2 (S1.after y S2 ag hi')
def loopFd (i : Nat) (g : DG) (fb : DS) : List D → Ev → Store → SRes
  | [], env, M => .nx env M
  | d :: r, env, M => match g (.d d) (msk i env) M with
    | none => .bad
    | some p => match fb (p.1.set i (env.getD i none)) p.2 with
      | .nx env2 M2 => loopFd i g fb r env2 M2
      | _ => .bad
def dFor (i : Nat) (fi : DL) (g : DG) (fb : DS) : DS := fun env M => ofRd (fi (msk i env) M) fun ds M1 => loopFd i g fb ds env M1
theorem psd_fr (hi : PDI C tg iter fi) (hg : PDG C tg sl g) (hsl : (sl.contains i) = false) (hb : PDBd C i body fb) (hs : ∀ env x, foldedSetIterable iter env x = pure x := by intro _ _; rfl) : PDSd C i (.For tg iter body [] pos) (dFor i fi g fb) := by
  have hi' : i ∉ sl := fun m => by
    have : sl.contains i = true := by simpa using m
    rw [this] at hsl; cases hsl
  refine ⟨fun X Wx G tk F0 ρ0 H0 => PS_imp (ps_for G.pown G.calm (hi.run X Wx G tk) (hg.run X G) (hb.run X Wx G tk F0 ρ0 H0) (hs _)) fun De σ H ⟨F, ρ, M, env, x0, R, S, p⟩ => ?_⟩
  refine ⟨F, ρ, M, _, R, S.st, (SPostD.seq p).imp fun J H1 ⟨F1, ρ1, M1, ds, x1, R1, itw, p1⟩ => ?_⟩
  refine ⟨fun j m σc Hc => m = ds.length - j ∧ j ≤ ds.length ∧ ∃ F' ρ' M' env', Sub F1 F' ∧ Ext F0 ρ0 H0 F' ρ' Hc ∧ Rel X.K X.mg F' ρ' M' Hc ∧ RepD X.K X.mg i H0 F' ρ' Hc σc env' ∧ SPostD X.K X.mg i F0 ρ0 H0 F' (loopFd i g fb (ds.drop j) env' M') De,
    ⟨ds.length, rfl, Nat.zero_le _, F1, ρ1, M1, env, .refl _, x0.trans x1, R1, S.ext x1, by rw [List.drop_zero]; exact p1⟩, ?_⟩
  rintro j m σc Hc ⟨rfl, hj, F', ρ', M', env', xS, xE, R', S', q⟩
  by_cases hlt : j < ds.length
  · refine .inr ⟨itw.go j Hc hlt (xS.trans R'.sub), fun σn Hn => j + 1 ≤ ds.length ∧ ∃ F' ρ' M' env', Sub F1 F' ∧ Ext F0 ρ0 H0 F' ρ' Hn ∧ Rel X.K X.mg F' ρ' M' Hn ∧ RepD X.K X.mg i H0 F' ρ' Hn σn env' ∧ SPostD X.K X.mg i F0 ρ0 H0 F' (loopFd i g fb (ds.drop (j + 1)) env' M') De,
      fun σn Hn r => ⟨ds.length - (j + 1), by omega, rfl, r⟩, fun x H' hy => ?_⟩
    obtain ⟨F3, d, hd, x3, R3, rd⟩ := itw.yld j Hc x H' hlt (xS.trans R'.sub) hy F' ρ' M' xS R'
    have edrop : ds.drop j = d :: ds.drop (j + 1) := by
      rw [List.drop_eq_getElem_cons hlt]
      rw [List.getElem?_eq_getElem hlt] at hd
      rw [Option.some.inj hd]
    rw [edrop] at q
    have S3 := S'.ext x3
    refine ⟨F3, ρ', M', _, .d d, R3, S3.st, rd, ?_⟩
    show GPost X.K X.mg sl σc F3 ρ' H' (g (.d d) (msk i env') M') _
    simp only [loopFd] at q
    cases eg : g (.d d) (msk i env') M' with
    | none => rw [eg] at q; exact q.elim
    | some pr =>
      rw [eg] at q
      intro F4 ρ4 σ4 H4 x4 R4 S4 ag
      have S5 := S3.after x4 S4 ag hi'
      refine ⟨F4, ρ4, pr.2, _, (xE.trans x3).trans x4, R4, S5, ?_⟩
      have s4 : Sub F1 F4 := (xS.trans x3.sub).trans x4.sub
      cases eb : fb (pr.1.set i (env'.getD i none)) pr.2 with
      | nx env2 M2 =>
        simp only [eb] at q
        exact fun F5 ρ5 σ5 H5 t5 x5 R5 S5 => ⟨by omega, F5, ρ5, M2, env2, s4.trans t5, x5, R5, S5, SPostD.mono ((x3.sub.trans x4.sub).trans t5) q⟩
      | _ => simp only [eb] at q; exact q.elim
  · have ei : j = ds.length := by omega
    subst ei
    rw [List.drop_length] at q
    exact .inl ⟨itw.stop Hc (xS.trans R'.sub), q F' ρ' σc Hc (.refl _) xE R' S'⟩
def loopWd (i : Nat) (ft : DT) (fb : DS) : Nat → Ev → Store → SRes
  | 0, _, _ => .bad
  | n + 1, env, M => ofRd (ft (msk i env) M) fun b M1 => if b = true then (match fb env M1 with
      | .nx env2 M2 => loopWd i ft fb n env2 M2
      | _ => .bad) else .nx env M1
theorem psd_wh (n : Nat) (hc : PDT C c ft) (hb : PDBd C i body fb) : PDSd C i (.While c body [] pos) (loopWd i ft fb n) := by
  refine ⟨fun X Wx G tk F0 ρ0 H0 => PS_imp (ps_while G.pown (hc.run X Wx G tk) (hb.run X Wx G tk F0 ρ0 H0)) fun De σ H ⟨F, ρ, M, env, x0, R, S, p⟩ => ?_⟩
  refine ⟨fun m σc Hc => ∃ F' ρ' M' env', Ext F0 ρ0 H0 F' ρ' Hc ∧ Rel X.K X.mg F' ρ' M' Hc ∧ RepD X.K X.mg i H0 F' ρ' Hc σc env' ∧ Sub F F' ∧ SPostD X.K X.mg i F0 ρ0 H0 F' (loopWd i ft fb m env' M') De, ⟨n, F, ρ, M, env, x0, R, S, .refl _, p⟩, ?_⟩
  rintro m σc Hc ⟨F', ρ', M', env', xE, R', S', sF, q⟩
  cases m with
  | zero => exact q.elim
  | succ m =>
    simp only [loopWd] at q
    refine ⟨F', ρ', M', _, R', S'.st, (SPostD.seq q).imp fun v H1 ⟨F1, ρ1, M1, w, x1, R1, r1, p1⟩ => ?_⟩
    have r1' : v = w := r1
    subst r1'
    cases v with
    | false => exact p1 F1 ρ1 σc H1 (.refl _) (xE.trans x1) R1 (S'.ext x1)
    | true =>
      simp only [if_true] at p1 ⊢
      refine ⟨fun σn Hn => ∃ F' ρ' M' env', Ext F0 ρ0 H0 F' ρ' Hn ∧ Rel X.K X.mg F' ρ' M' Hn ∧ RepD X.K X.mg i H0 F' ρ' Hn σn env' ∧ Sub F F' ∧ SPostD X.K X.mg i F0 ρ0 H0 F' (loopWd i ft fb m env' M') De, fun σn Hn r => ⟨m, Nat.lt_succ_self _, r⟩, F1, ρ1, M1, env', xE.trans x1, R1, S'.ext x1, ?_⟩
      cases eb : fb env' M1 with
      | nx env2 M2 => simp only [eb] at p1; exact fun F5 ρ5 σ5 H5 t5 x5 R5 S5 => ⟨F5, ρ5, M2, env2, x5, R5, S5, (sF.trans x1.sub).trans t5, SPostD.mono t5 p1⟩
      | _ => simp only [eb] at p1; exact p1.elim
/-- return d -/
def dRet (i : Nat) : DS := fun env M => match env[i]? with
  | some (some (.d (.dic ds))) => .ret (.d (.dic ds)) M
  | _ => .bad
theorem psd_ret {x : Str} {p2 : Pos} (hu : C.N[i]? = some x) (hv : visB C.sc x = true) : PDSd C i (.Return (some (.Name x p2)) pos) (dRet i) := by
  refine ⟨fun X Wx G tk F0 ρ0 H0 => ?_⟩
  obtain ⟨h1, h2, h3⟩ := visB_vis hv
  refine PS_imp (L2.ps_ret (pe_lk (pe_var (i := i) (by rw [G.N]; exact hu) (by rw [G.sc]; exact h1) h2 h3))) fun D σ H ⟨F, ρ, M, env, x, R, S, p⟩ => ?_
  obtain ⟨st, a, kvs, ds, h1, h2, h3, h4, h5, h6, h7⟩ := S
  unfold dRet at p
  rw [h2] at p
  refine ⟨_, h1, a, _, rfl, h3, True.intro, fun od => ?_⟩
  have y := x.write h7 (.frz od (.dK kvs))
  refine p (upd F a (.frz od (.dK kvs))) ρ (upd H a (.frz od (.dK kvs))) _ ⟨y.sub.trans (Sub.upd h5), y.pre, y.frame, y.there, fun b o e => ?_, y.newR⟩ ((R.writeH h5 h6 _).tellF h5 h6 upd_same) (Rep.dic upd_same (RepK.mono (Sub.upd h5) h4))
  by_cases hb : b = a
  · subst hb; exact .inr (.inl h7)
  · rw [upd_ne hb] at e; exact y.newF b o e
end
end PD
namespace PD
open PySem PySem.Spec PyProof.Rows L2
variable {K : PySem.W.Frag} {mg : MG}
/-! ### {k: v for ..}: a new dict that stands alone -/
abbrev repDi (K : PySem.W.Frag) (mg : MG) : RepT V (List (L2.Key × D)) := ⟨fun H0 F ρ H v ds => ∃ a kvs, v = .ref a ∧ H0 a = none ∧ F a = none ∧ a ∉ ρ ∧ H a = some (.dK kvs) ∧ RepK K mg F kvs ds,
  fun hx ⟨a, xs, e, h0, r⟩ => ⟨a, xs, e, none_anti hx h0, r⟩⟩
abbrev DK := Ev → Store → Res (List (L2.Key × D))
structure PDQ (C : Ctx) (e : Expr) (f : DK) : Prop where
  run : ∀ X Wx, Good C X → Takes X Wx → PE X e (rdG X.K X.mg (repDi X.K X.mg) Wx f)
def dcL (env0 : Ev) (g : DG) (ft : DT) (fk fv : DE) : List D → List (L2.Key × D) → Store → Res (List (L2.Key × D))
  | [], acc, M => .ok acc M
  | d :: r, acc, M => match g (.d d) env0 M with
    | none => .bad
    | some p => match ft p.1 p.2 with
      | .ok true M2 => match fk p.1 M2 with
        | .ok (.d (.int k)) M3 => match fv p.1 M3 with
          | .ok (.d y) M4 => dcL env0 g ft fk fv r (putD acc (.inl k) y) M4
          | _ => .bad
        | _ => .bad
      | .ok false M2 => dcL env0 g ft fk fv r acc M2
      | _ => .bad
def dComp (fi : DL) (vs : List Nat) (g : DG) (ft : DT) (fk fv : DE) : DK := fun env M => (fi env M).bind fun ds M1 => if ds.length ≤ LIM then dcL (wipeE env vs) g ft fk fv ds [] M1 else .bad
theorem dc_read {X : Cx} {Wx : L2.WX} {fi : DL} {vs sl : List Nat} {g : DG} {ft : DT} {fk fv : DE} {σ : St} {H : Hp} {Q : VK} (hsl : ∀ i ∈ sl, i ∈ vs) (h : rdG X.K X.mg (repDi X.K X.mg) Wx (dComp fi vs g ft fk fv) σ H Q) :
    tDc (rdG X.K X.mg (repI X.K X.mg) Wx fi) (rdT X.K X.mg sl g) (rdG X.K X.mg repB wX ft) (rdG X.K X.mg (repW X.K X.mg) wX fk) (rdG X.K X.mg (repW X.K X.mg) wX fv) vs σ H Q := by
  obtain ⟨F, ρ, M, env, R, S, p⟩ := h
  refine ⟨F, ρ, M, env, R, S, (RPost.seq p).imp fun J H1 ⟨F1, ρ1, M1, ds, x1, R1, itw, p1⟩ => ?_⟩
  split at p1
  · rename_i hlim
    intro Dd hD
    have S1 := (S.ext x1).wipe vs
    refine ⟨fun i m Hc => m = ds.length - i ∧ i ≤ ds.length ∧ ∃ F' ρ' M' acc accD, Ext F1 ρ1 H1 F' ρ' Hc ∧ Rel X.K X.mg F' ρ' M' Hc ∧ F' Dd = none ∧ Dd ∉ ρ' ∧ Hc Dd = some (.dK acc) ∧ RepK X.K X.mg F' acc accD ∧ accD.length ≤ i ∧
      dcL (wipeE env vs) g ft fk fv (ds.drop i) accD M' = dcL (wipeE env vs) g ft fk fv ds [] M1, ⟨ds.length, rfl, Nat.zero_le _, F1, ρ1, M1, [], [], R1.extH hD _, R1.newH hD _, (R1.fresh hD).1, (R1.fresh hD).2, upd_same, .nil, Nat.le_refl _, ?_⟩, ?_⟩
    · rw [List.drop_zero]
    · rintro i m Hc ⟨rfl, hi, F', ρ', M', acc, accD, xE, R', f1, f2, f3, rA, lA, eq⟩
      by_cases hlt : i < ds.length
      · refine .inr ⟨itw.go i Hc hlt (xE.sub.trans R'.sub), fun Hn => ds.length - (i + 1) < ds.length - i ∧ ∃ m', m' = ds.length - (i + 1) ∧ i + 1 ≤ ds.length ∧ ∃ F' ρ' M' acc accD, Ext F1 ρ1 H1 F' ρ' Hn ∧ Rel X.K X.mg F' ρ' M' Hn ∧ F' Dd = none ∧ Dd ∉ ρ' ∧ Hn Dd = some (.dK acc) ∧ RepK X.K X.mg F' acc accD ∧ accD.length ≤ i + 1 ∧
          dcL (wipeE env vs) g ft fk fv (ds.drop (i + 1)) accD M' = dcL (wipeE env vs) g ft fk fv ds [] M1, fun Hn ⟨l, m', e, r⟩ => ⟨m', by omega, e, r⟩, fun x H' hy => ?_⟩
        obtain ⟨F3, d, hd, x3, R3, rd⟩ := itw.yld i Hc x H' hlt (xE.sub.trans R'.sub) hy F' ρ' M' xE.sub R'
        obtain ⟨g1, g2, g3⟩ := x3.keep f1 f2 f3
        have edrop : ds.drop i = d :: ds.drop (i + 1) := by
          rw [List.drop_eq_getElem_cons hlt]
          rw [List.getElem?_eq_getElem hlt] at hd
          rw [Option.some.inj hd]
        rw [edrop] at eq
        have S3 : RepS X.K X.mg F3 ρ' (wipe σ vs) (wipeE env vs) := (S1.mono (xE.sub.trans x3.sub) xE.pre)
        refine ⟨F3, ρ', M', wipeE env vs, .d d, R3, S3, rd, ?_⟩
        cases eg : g (.d d) (wipeE env vs) M' with
        | none =>
          simp only [dcL, eg] at eq
          rw [← eq] at p1
          exact p1.elim
        | some pr =>
          obtain ⟨env1, M1'⟩ := pr
          simp only [dcL, eg] at eq
          intro F4 ρ4 σ4 H4 x4 R4 S4 ag
          obtain ⟨k1, k2, k3⟩ := x4.keep g1 g2 g3
          refine ⟨wipe_agree (ag.mono hsl), ?_⟩
          refine ⟨F4, ρ4, M1', env1, R4, S4, ?_⟩
          cases et : ft env1 M1' with
          | bad => simp only [et] at eq; rw [← eq] at p1; exact p1.elim
          | err x' M'' => simp only [et] at eq; rw [← eq] at p1; exact p1.elim
          | ok b M2 =>
            simp only [et] at eq
            intro F5 ρ5 H5 b' x5 R5 hb
            have hb' : b' = b := hb
            subst hb'
            obtain ⟨q1, q2, q3⟩ := x5.keep k1 k2 k3
            have xx := ((xE.trans x3).trans x4).trans x5
            cases b' with
            | false =>
              simp only [if_false, Bool.false_eq_true]
              exact ⟨by omega, _, rfl, by omega, F5, ρ5, M2, acc, accD, xx, R5, q1, q2, q3, RepK.mono ((x3.trans x4).trans x5).sub rA, by omega, eq⟩
            | true =>
              simp only [if_true]
              refine ⟨F5, ρ5, M2, env1, R5, S4.ext x5, ?_⟩
              simp only at eq
              cases ek : fk env1 M2 with
              | bad => simp only [ek] at eq; rw [← eq] at p1; exact p1.elim
              | err x' M'' => simp only [ek] at eq; rw [← eq] at p1; exact p1.elim
              | ok wk M3 =>
                intro F6 ρ6 H6 vk x6 R6 rk
                obtain ⟨z1, z2, z3⟩ := x6.keep q1 q2 q3
                refine ⟨F6, ρ6, M3, env1, R6, (S4.ext x5).ext x6, ?_⟩
                rw [ek] at eq
                split at eq
                · rename_i k M3' hk
                  cases hk
                  cases (show Rep X.K X.mg F6 vk (.int k) from rk)
                  cases ev : fv env1 M3 with
                  | bad => simp only [ev] at eq; rw [← eq] at p1; exact p1.elim
                  | err x' M'' => simp only [ev] at eq; rw [← eq] at p1; exact p1.elim
                  | ok w M4 =>
                    cases w with
                    | mt j => simp only [ev] at eq; rw [← eq] at p1; exact p1.elim
                    | d y =>
                      simp only [ev] at eq
                      intro F7 ρ7 H7 v x7 R7 rv
                      obtain ⟨y1, y2, y3⟩ := x7.keep z1 z2 z3
                      have rA' := RepK.mono ((((x3.trans x4).trans x5).trans x6).trans x7).sub rA
                      have lA' := RepK.length rA'
                      refine ⟨acc, .inl k, rfl, y3, by rw [← lim_line]; omega, ?_⟩
                      have hp := putD_len accD (.inl k) y
                      exact ⟨by omega, _, rfl, by omega, F7, ρ7, M4, putK acc (.inl k) v, putD accD (.inl k) y, ((xx.trans x6).trans x7).write hD _, R7.writeH y1 y2 _, y1, y2, upd_same, RepK.put rA' _ rv, by omega, eq⟩
                · rw [← eq] at p1; exact p1.elim
      · have ei : i = ds.length := by omega
        subst ei
        refine .inl ⟨itw.stop Hc (xE.sub.trans R'.sub), ?_⟩
        rw [List.drop_length] at eq
        simp only [dcL] at eq
        rw [← eq] at p1
        exact p1 F' ρ' Hc _ xE R' ⟨Dd, acc, rfl, hD, f1, f2, f3, rA⟩
  · exact p1.elim
section
variable {C : Ctx}
theorem pk_dc {kx vx tg iter : Expr} {ifs : List Expr} {scope : Scope} {pos : Pos} {own : List (Str × Nat)} {fi : DL} {sl : List Nat} {g : DG} {ft : DT} {fk fv : DE} (hi : PDI C tg iter fi) (ok : blkC C.N C.sc scope own = true) (hg : PDG (C.blk scope) tg sl g) (hsl : (sl.all fun i => (own.map (·.2)).contains i) = true)
    (ht : PDTs (C.blk scope) ifs ft) (hk : PDE (C.blk scope) kx fk) (he : PDE (C.blk scope) vx fv) (hs : ∀ env x, foldedSetIterable iter env x = pure x := by intro _ _; rfl) :
    PDQ C (.DictComp kx vx [⟨tg, iter, ifs, 0⟩] scope pos) (dComp fi (own.map (·.2)) g ft fk fv) := by
  refine ⟨fun X Wx G tk => ?_⟩
  have hsl' : ∀ i ∈ sl, i ∈ own.map (·.2) := fun i hi => by
    have := List.all_eq_true.mp hsl i hi
    simpa using this
  refine PE_imp (pe_dc (own := own) (g := rdT X.K X.mg sl g) (tt := rdG X.K X.mg repB wX ft) (tk := rdG X.K X.mg (repW X.K X.mg) wX fk) (tv := rdG X.K X.mg (repW X.K X.mg) wX fv) G.calm (by rw [G.N]; exact G.nd) (hi.run X Wx G tk) (by rw [G.N, G.sc]; exact blkOk_by ok) (fun s H c cl fp => hg.run _ (G.blk s H scope c cl fp))
    (fun s H c cl fp => ht.run _ wX (G.blk s H scope c cl fp) takes_no) (fun s H c cl fp => hk.run _ wX (G.blk s H scope c cl fp) takes_no) (fun s H c cl fp => he.run _ wX (G.blk s H scope c cl fp) takes_no) (hs _)) fun σ H Q h => dc_read hsl' h
/-! ### x, y, z = ({..}, e2, e3), and on with the dict at x -/
theorem PSs_ex {X : Cx} {sts : List Stmt} {α : Type} {t : α → TS} (h : ∀ a, PSs X sts (t a)) : PSs X sts (fun D σ H => ∃ a, t a D σ H) := ⟨fun pins s σ H D I ⟨a, q⟩ => (h a).run pins s σ H D I q⟩
def bDc3 (i j l : Nat) (fd : DK) (f2 f3 : DE) (fs : DS) : DS := fun env M => if i < env.length then ofR (fd env M) env fun ds M1 => ofR (f2 env M1) env fun w2 M2 => ofR (f3 env M2) env fun w3 M3 =>
  match fs (((env.set i (some (.d (.dic ds)))).set j (some w2)).set l (some w3)) M3 with
  | .ret w M' => .ret w M'
  | _ => .bad
  else .bad
theorem RepS.over {F : Hp} {ρ : List Addr} {σ : St} {env : Ev} (h : RepS K mg F ρ σ env) (i : Nat) (v : Option V) : RepS K mg F ρ (σ.set i v) (env.set i Option.none) := by
  refine ⟨by rw [List.length_set, List.length_set]; exact h.1, fun j w e => ?_⟩
  by_cases hj : i = j
  · subst hj
    have hl : i < env.length := by
      have := (List.getElem?_eq_some_iff.mp e).1
      rwa [List.length_set] at this
    rw [List.getElem?_set_self hl] at e
    cases e
  · rw [List.getElem?_set_ne hj] at e
    obtain ⟨u, h1, h2⟩ := h.2 j w e
    exact ⟨u, by rw [List.getElem?_set_ne hj]; exact h1, h2⟩
theorem pb_dc3 {x y z : Str} {ed e2 e3 : Expr} {px py pz pt pos : Pos} {kt k2 pt2} {rest : List Stmt} {fd : DK} {f2 f3 : DE} {fs : DS} (i j l : Nat) (hi : C.N[i]? = some x) (hj : C.N[j]? = some y) (hl : C.N[l]? = some z) (hij : (i == j) = false) (hil : (i == l) = false) (hjl : (j == l) = false) (hx : C.sc.names.lookup x = some .local) (hy : C.sc.names.lookup y = some .local) (hz : C.sc.names.lookup z = some .local)
    (hd : PDQ C ed fd) (h2 : PDE C e2 f2) (h3 : PDE C e3 f3)
    (hw : ∀ env : Env, env.scope = C.sc → env.scope.kind = .function → swappedStores [.Tuple [.Name x px, .Name y py, .Name z pz] kt pt] (.Tuple [ed, e2, e3] k2 pt2) env = pure (some [x, y, z]))
    (hr : PDBd C i rest fs) (hs1 : ∀ env, starEach [ed, e2, e3] env = (false, eval ed env) :: starEach [e2, e3] env := by intro _; rfl) (hs2 : ∀ env, starEach [e2, e3] env = (false, eval e2 env) :: starEach [e3] env := by intro _; rfl) (hs3 : ∀ env, starEach [e3] env = (false, eval e3 env) :: starEach [] env := by intro _; rfl)
    (hsw : ∀ env, swapsWithSole [.Tuple [.Name x px, .Name y py, .Name z pz] kt pt] (.Tuple [ed, e2, e3] k2 pt2) pos.line env = pure false := by intro _; rfl) :
    PDB C (.Assign [.Tuple [.Name x px, .Name y py, .Name z pz] kt pt] (.Tuple [ed, e2, e3] k2 pt2) pos :: rest) (bDc3 i j l fd f2 f3 fs) := by
  have hij' : i ≠ j := by simpa using hij
  have hil' : i ≠ l := by simpa using hil
  have hjl' : j ≠ l := by simpa using hjl
  refine ⟨fun X Wx G tk => ⟨fun pins s σ H De I h => ?_⟩⟩
  refine (pss_cons (ps_par3 G.calm (by rw [G.N]; exact G.nd) (by rw [G.N]; exact hi) (by rw [G.N]; exact hj) (by rw [G.N]; exact hl) hij' hil' hjl' (by rw [G.sc]; exact hx) (by rw [G.sc]; exact hy) (by rw [G.sc]; exact hz) (L2.pa_cons (hd.run X Wx G tk) (L2.pa_cons (h2.run X Wx G tk) (L2.pa_cons (h3.run X Wx G tk) L2.pa_nil (hs3 _)) (hs2 _)) (hs1 _)) (hw _ G.sc I.ok.kind) (hsw _)) (PSs_ex (α := Hp × List Addr × Hp) fun o => hr.run X Wx G tk o.1 o.2.1 o.2.2)).run pins s σ H De I ?_
  obtain ⟨F, ρ, M, env, R, S, p⟩ := h
  unfold bDc3 at p
  split at p
  case isFalse => exact p.elim
  rename_i hlen
  have hlen' : i < σ.length := by rw [S.1]; exact hlen
  refine ⟨F, ρ, M, env, R, S, ?_⟩
  cases e1 : fd env M with
  | bad => rw [e1] at p; exact p.elim
  | err ex M1 =>
    rw [e1] at p
    exact fun F1 ρ1 H1 c d x1 R1 q => p F1 ρ1 σ H1 c d x1 R1 (S.ext x1) q
  | ok ds M1 =>
  rw [e1, ofR_ok] at p
  intro F1 ρ1 H1 u x1 R1 ⟨a, kvs, eu, n0, n1, n2, n3, rk⟩
  subst eu
  refine ⟨F1, ρ1, M1, env, R1, S.ext x1, ?_⟩
  cases e2 : f2 env M1 with
  | bad => rw [e2] at p; exact p.elim
  | err ex M2 =>
    rw [e2] at p
    exact fun F2 ρ2 H2 c d x2 R2 q => p F2 ρ2 σ H2 c d (x1.trans x2) R2 ((S.ext x1).ext x2) q
  | ok w2 M2 =>
  rw [e2, ofR_ok] at p
  intro F2 ρ2 H2 v x2 R2 r2
  obtain ⟨m1, m2, m3⟩ := x2.keep n1 n2 n3
  refine ⟨F2, ρ2, M2, env, R2, (S.ext x1).ext x2, ?_⟩
  cases e3 : f3 env M2 with
  | bad => rw [e3] at p; exact p.elim
  | err ex M3 =>
    rw [e3] at p
    exact fun F3 ρ3 H3 c d x3 R3 q => p F3 ρ3 σ H3 c d ((x1.trans x2).trans x3) R3 (((S.ext x1).ext x2).ext x3) q
  | ok w3 M3 =>
  rw [e3, ofR_ok] at p
  intro F3 ρ3 H3 w x3 R3 r3
  obtain ⟨q1, q2, q3⟩ := x3.keep m1 m2 m3
  have S3 := ((S.ext x1).ext x2).ext x3
  have r2' := RepW.mono x3.sub x3.pre r2
  refine ⟨_, _, _, rfl, (F, ρ, H), F3, ρ3, M3, ((env.set i (some (.d (.dic ds)))).set j (some w2)).set l (some w3), (x1.trans x2).trans x3, R3, ⟨?_, a, kvs, ds, ?_, ?_, q3, RepK.mono (x2.trans x3).sub rk, q1, q2, n0⟩, ?_⟩
  · have e : (((env.set i (some (.d (.dic ds)))).set j (some w2)).set l (some w3)).set i none = ((env.set i none).set j (some w2)).set l (some w3) := by
      rw [List.set_comm _ _ (Ne.symm hil'), List.set_comm _ _ (Ne.symm hij'), List.set_set]
    rw [e]
    exact RepS.set (RepS.set (RepS.over S3 i _) r2' j) r3 l
  · rw [List.getElem?_set_ne (Ne.symm hil'), List.getElem?_set_ne (Ne.symm hij'), List.getElem?_set_self hlen']
  · rw [List.getElem?_set_ne (Ne.symm hil'), List.getElem?_set_ne (Ne.symm hij'), List.getElem?_set_self hlen]
  · show SPostD X.K X.mg i F ρ H F3 (fs _ M3) De
    cases ef : fs (((env.set i (some (.d (.dic ds)))).set j (some w2)).set l (some w3)) M3 with
    | ret w M' =>
      rw [ef] at p
      exact fun F4 ρ4 H4 v y R4 r4 => p F4 ρ4 H4 v y R4 r4
    | _ => rw [ef] at p; exact p.elim
end
end PD
namespace PD
open PySem PySem.Spec PyProof.Rows L2
variable {K : PySem.W.Frag} {mg : MG}
/-! ### zip(tuple, list) -/
def ItzM (K : PySem.W.Frag) (a b : Addr) : It where
  go i H := ∃ xs ys x y, SqT K H a xs ∧ SqL K H b ys ∧ xs[i]? = some x ∧ ys[i]? = some y
  yld i H v H' := ∃ T x y, v = V.ref T ∧ H T = none ∧ H' = upd H T (.tup [x, y]) ∧ (∀ l, SqT K H a l → l[i]? = some x) ∧ ∀ l, SqL K H b l → l[i]? = some y
  stop i H := ∃ xs ys, SqT K H a xs ∧ SqL K H b ys ∧ i ≤ xs.length ∧ i ≤ ys.length ∧ (xs.length = i ∨ ys.length = i)
def stM (z TI TO i1 i2 a b : Addr) (i : Nat) (h : Heap) : Prop :=
  IsZip h z TI TO .none ∧ IsTupOf2 h TI (.ref i1) (.ref i2) ∧ (∃ x y, IsTupOf2 h TO x y) ∧ h.IsTupleIter i1 a i ∧ h.IsListIter i2 b i
theorem turn_zipM {P : Program} {w : World} {elts : List Expr} {kk : Nat} {tpos : Pos} {a b z TI TO i1 i2 : Addr} (S : ZipSep2 z TI TO i1 i2 [i1, a] [i2, b]) (ha : a ≠ i1) (hb : b ≠ i2) (h12 : TI ≠ a ∧ TI ≠ b ∧ i1 ≠ i2) :
    Turn P w K (.Tuple elts kk tpos) (ItzM K a b) [z, TI, TO, i1, i2] z (stM z TI TO i1 i2 a b) := by
  have cs : ∀ {c : Addr}, c ∈ [z, TI, TO, i1, i2] → c = z ∨ c = TI ∨ c = TO ∨ c = i1 ∨ c = i2 := fun h => by simpa using h
  have lives : ∀ {i h}, stM z TI TO i1 i2 a b i h → ∀ c ∈ [z, TI, TO, i1, i2], ∃ o, h.get? c = some o ∧ ∀ v, o.data ≠ .cell v := by
    rintro i h ⟨s1, s2, ⟨x, y, s3⟩, ⟨o4, e4, _, d4⟩, ⟨o5, e5, _, d5⟩⟩ c hc
    rcases cs hc with rfl | rfl | rfl | rfl | rfl
    · exact ⟨_, s1, fun v => by simp⟩
    · exact ⟨_, s2, fun v => by simp⟩
    · exact ⟨_, s3, fun v => by simp⟩
    · exact ⟨o4, e4, fun v => by rw [d4]; simp⟩
    · exact ⟨o5, e5, fun v => by rw [d5]; simp⟩
  refine ⟨by simp, fun i h st => lives st, ?_, ?_, ?_, ?_⟩
  · rintro i h h' ⟨s1, s2, ⟨x, y, s3⟩, s4, s5⟩ k
    exact ⟨k z (by simp) _ s1, k TI (by simp) _ s2, ⟨x, y, k TO (by simp) _ s3⟩, s4.at fun o e => k i1 (by simp) o e, s5.at fun o e => k i2 (by simp) o e⟩
  · rintro X rfl rfl rfl hc i pins s σ H E I hf st ⟨xs, ys, x, y, hqx, hqy, hx, hy⟩
    have live := lives st
    obtain ⟨s1, s2, ⟨x0, y0, s3⟩, s4, s5⟩ := st
    obtain ⟨is1, rv1, p1, _⟩ := I.tuple hqx
    obtain ⟨is2, rv2, p2, _⟩ := I.list hqy
    obtain ⟨u1, hu1, ru1⟩ := rv1.get hx
    obtain ⟨u2, hu2, ru2⟩ := rv2.get hy
    have hh : X.A.in1.handled = none := I.ok.hd hc
    have D1 := Draws.tuple (prog := X.prog) (w := X.w) (A := X.A.in1) hh i1 a ha is1.toArray
    have D2 := Draws.list (prog := X.prog) (w := X.w) (A := X.A.in1) hh i2 b hb is2.toArray
    have n1 : i < is1.toArray.size := by
      have := (List.getElem?_eq_some_iff.mp hu1).1
      simpa using this
    have n2 : i < is2.toArray.size := by
      have := (List.getElem?_eq_some_iff.mp hu2).1
      simpa using this
    refine wpAny_pyNext_zipD2_item S D1 D2 s1 s2 s3 ⟨s4, show s.heap.IsTuple a is1.toArray from p1⟩ ⟨s5, p2.isList⟩ n1 n2 fun v1 v2 h' tk q1 q2 z' TO' t1 t2 hT hsz hk => ?_
    have e1 : v1 = u1 := by
      have q1 : is1.toArray[i]? = some v1 := q1
      rw [show is1.toArray[i]? = some u1 by simpa using hu1] at q1
      exact (Option.some.inj q1).symm
    have e2 : v2 = u2 := by
      have q2 : is2.toArray[i]? = some v2 := q2
      rw [show is2.toArray[i]? = some u2 by simpa using hu2] at q2
      exact (Option.some.inj q2).symm
    subst e1 e2
    refine ⟨_, rfl, wpAny_letOwnedTupleGo_zip (s := { s with heap := h', toks := tk }) z' fun h2 z2 sb => ?_⟩
    have hzl : z < s.heap.objs.size := Heap.lt_size s1
    have hT2 := (sb.2 _ (Nat.ne_of_gt hzl)).trans hT
    have kk : ∀ c o, c ∉ [z, TI, TO, i1, i2] → s.heap.get? c = some o → h2.get? c = some o := fun c o hn e => by
      simp only [List.mem_cons, List.not_mem_nil, or_false, not_or] at hn
      exact (sb.2 c hn.1).trans (hk c o hn.1 hn.2.2.1 hn.2.2.2.1 hn.2.2.2.2 e)
    have new : ObjOk X.prog X.w (upd H s.heap.objs.size (.tup [x, y])) h2 s.heap.objs.size (.tup [x, y]) :=
      ⟨by rw [sizeLine_eq]; simp, [v1, v2], .cons ru1 (.cons ru2 .nil), _, hT2, rfl, _, rfl⟩
    refine ⟨.ref s.heap.objs.size, _, I.turnedNew (t' := tk) kk hf (Nat.le_refl _) new, rfl, ⟨_, x, y, rfl, I.hok.fresh (Nat.le_refl _), rfl, fun l hl => ?_, fun l hl => ?_⟩, ⟨z2, ?_, ⟨v1, v2, ?_⟩, ?_, ?_⟩, fun c hcm => ?_⟩
    · rw [I.tuple_inj hl hqx]; exact hx
    · rw [I.list_inj hl hqy]; exact hy
    · exact (sb.2 _ S.TIz).trans (hk _ _ S.TIz S.TITO S.TIi1 S.TIi2 s2)
    · exact (sb.2 _ S.TOz).trans TO'
    · exact t1.1.at fun o e => (sb.2 _ S.zi1.symm).trans e
    · exact t2.1.at fun o e => (sb.2 _ S.zi2.symm).trans e
    · obtain ⟨o, e, _⟩ := live c hcm
      rw [upd_ne (Nat.ne_of_lt (Heap.lt_size e))]
      exact (hf c hcm).1
  · rintro X rfl rfl rfl hc i pins s σ H E I hf ⟨s1, s2, ⟨x0, y0, s3⟩, s4, s5⟩ ⟨xs, ys, hqx, hqy, l1, l2, hend⟩
    obtain ⟨is1, rv1, p1, _⟩ := I.tuple hqx
    obtain ⟨is2, rv2, p2, _⟩ := I.list hqy
    have hh : X.A.in1.handled = none := I.ok.hd hc
    have z1 : is1.toArray.size = xs.length := by rw [List.size_toArray, rv1.length]
    have z2 : is2.toArray.size = ys.length := by rw [List.size_toArray, rv2.length]
    refine wpAny_pyNext_zipD2_end S (Draws.tuple (prog := X.prog) (w := X.w) (A := X.A.in1) hh i1 a ha is1.toArray) (Draws.list (prog := X.prog) (w := X.w) (A := X.A.in1) hh i2 b hb is2.toArray) s1 s2 s3 ⟨s4, show s.heap.IsTuple a is1.toArray from p1⟩ ⟨s5, p2.isList⟩ (by omega) (by omega) (by omega) fun h' tk hk => ⟨rfl, ?_⟩
    refine I.turnedL (t' := tk) (ch := [z, TI, TO, i1, i2]) (fun c o hn e => ?_) hf
    simp only [List.mem_cons, List.not_mem_nil, or_false, not_or] at hn
    exact hk c o hn.1 hn.2.2.1 hn.2.2.2.1 hn.2.2.2.2 e
  · exact fun A i s Q E st h => wpAny_pyIter_zip st.1 h
theorem sepM {n a b : Nat} (la : a < n) (lb : b < n) : ZipSep2 (n + 4) (n + 2) (n + 3) n (n + 1) [n, a] [n + 1, b] where
  TIz := by show ¬ n + 2 = n + 4; omega
  TOz := by show ¬ n + 3 = n + 4; omega
  TITO := by show ¬ n + 2 = n + 3; omega
  TIi1 := by show ¬ n + 2 = n; omega
  mem1 := List.mem_cons_self ..
  zf1 := fun h => by
    rcases List.mem_cons.mp h with h | h
    · exact absurd (show n + 4 = n from h) (by omega)
    · exact absurd (show n + 4 = a from List.mem_singleton.mp h) (by omega)
  Tf1 := fun h => by
    rcases List.mem_cons.mp h with h | h
    · exact absurd (show n + 3 = n from h) (by omega)
    · exact absurd (show n + 3 = a from List.mem_singleton.mp h) (by omega)
  TIi2 := by show ¬ n + 2 = n + 1; omega
  mem2 := List.mem_cons_self ..
  zf2 := fun h => by
    rcases List.mem_cons.mp h with h | h
    · exact absurd (show n + 4 = n + 1 from h) (by omega)
    · exact absurd (show n + 4 = b from List.mem_singleton.mp h) (by omega)
  Tf2 := fun h => by
    rcases List.mem_cons.mp h with h | h
    · exact absurd (show n + 3 = n + 1 from h) (by omega)
    · exact absurd (show n + 3 = b from List.mem_singleton.mp h) (by omega)
  sep1_2 := fun h => by
    rcases List.mem_cons.mp h with h | h
    · exact absurd (show n = n + 1 from h) (by omega)
    · exact absurd (show n = b from List.mem_singleton.mp h) (by omega)
  sep2_1 := fun h => by
    rcases List.mem_cons.mp h with h | h
    · exact absurd (show n + 1 = n from h) (by omega)
    · exact absurd (show n + 1 = a from List.mem_singleton.mp h) (by omega)
theorem neM {n a b : Nat} (la : a < n) (lb : b < n) : a ≠ n ∧ b ≠ n + 1 ∧ n + 2 ≠ a ∧ n + 2 ≠ b ∧ n ≠ n + 1 := by omega
def fiveM (n : Nat) : List Addr := [n + 4, n + 2, n + 3, n, n + 1]
theorem fiveM_ge {n c : Nat} (h : c ∈ fiveM n) : n ≤ c := by
  have h : c = n + 4 ∨ c = n + 2 ∨ c = n + 3 ∨ c = n ∨ c = n + 1 := by
    unfold fiveM at h
    simpa using h
  omega
def iZipM (K : PySem.W.Frag) (ta : TA) : TI := fun σ H R => ta σ H fun vs H1 => ∃ a b xs ys, vs = [V.ref a, V.ref b] ∧ SqT K H1 a xs ∧ SqL K H1 b ys ∧ R (ItzM K a b) H1
theorem pi_zipM {X : Cx} {e e2 : Expr} {ta : TA} {p pos tpos : Pos} {elts : List Expr} {kk : Nat} (hg : Gl X "zip") (hm : X.mg "zip" = none) (ha : PA X [e, e2] ta) (hs : starEach [e, e2] X.env = (false, eval e X.env) :: starEach [e2] X.env) (hpl : (backTo pos (starEach [e2] X.env)).any (·.1) = false) :
    PI X (.Tuple elts kk tpos) (.Call (.Name "zip" p) [e, e2] [] pos) (iZipM X.K ta) := by
  constructor
  intro pins s σ H R I h
  refine Call_ (ld_blt I hg hm PyProof.Rows.boot_zip (PyProof.Rows.callWith_type1 (thn (ha.run pos pins s σ H _ I h) ?_) hs hpl))
  rintro us s1 ⟨vs, H1, I1, rr, a, b, xs, ys, rfl, hqx, hqy, q⟩
  obtain ⟨u, us, rfl, ru, rr⟩ : ∃ u us', us = u :: us' ∧ RelV (.ref a) u ∧ Vals [V.ref b] us' := by
    cases rr with
    | cons r1 r2 => exact ⟨_, _, rfl, r1, r2⟩
  obtain ⟨u2, rfl, ru2⟩ := rr.one
  cases ru
  cases ru2
  obtain ⟨is1, rv1, p1, _⟩ := I1.tuple hqx
  obtain ⟨is2, rv2, p2, _⟩ := I1.list hqy
  have la : a < s1.heap.objs.size := by obtain ⟨o, e, _⟩ := id p1; exact Heap.lt_size e
  have lb : b < s1.heap.objs.size := p2.lt
  refine zip_begins2 (begins_tuple a is1.toArray) (begins_list b is2.toArray) (show s1.heap.IsTuple a is1.toArray from p1) p2.isList fun h' hz hTI hTO g1 g2 hsz hk => wpAny_pyIter_zip hz ?_
  have fr : ∀ c, c ∈ fiveM s1.heap.objs.size → FpOk X pins H1 c := fun c hc => by
    have hle := fiveM_ge hc
    exact I1.fpOk hle (I1.hok.fresh hle)
  obtain ⟨n1, n2, n3, n4, n5⟩ := neM la lb
  exact ⟨s1.heap.objs.size + 4, fiveM s1.heap.objs.size, _, _, H1, rfl, I1.kept (t' := s1.toks) hk, turn_zipM (sepM la lb) n1 n2 ⟨n3, n4, n5⟩, ⟨hz, hTI, ⟨_, _, hTO⟩, ⟨_, g1, rfl, rfl⟩, ⟨_, g2, rfl, rfl⟩⟩, fr, q⟩
theorem itw_zipM {a b : Addr} {F : Hp} {xs ys : List V} {ds es : List D} (h : SqT K F a xs) (r : Reps K mg F xs ds) (h' : SqL K F b ys) (r' : Reps K mg F ys es) : ItW K mg (ItzM K a b) F (zipD ds es) := by
  have l := r.length
  have l' := r'.length
  have gx : ∀ {i d}, ds[i]? = some d → ∃ x, xs[i]? = some x ∧ Rep K mg F x d := fun e => r.get e
  have gy : ∀ {i d}, es[i]? = some d → ∃ x, ys[i]? = some x ∧ Rep K mg F x d := fun e => r'.get e
  refine itw_pair (n := min ds.length es.length) (ys := fun i => [xs[i]?.getD .non, ys[i]?.getD .non]) (es := fun i => [ds[i]?.getD .non, es[i]?.getD .non]) (zipD_length ds es) (fun i hi => ?_) (fun i hi => ?_) (fun i H hi s => ?_) (fun H s => ⟨xs, ys, SqT.mono s h, SqL.mono s h', by omega, by omega, by omega⟩) ?_
  · obtain ⟨d, hd⟩ : ∃ d, ds[i]? = some d := ⟨_, List.getElem?_eq_getElem (by omega)⟩
    obtain ⟨e, he⟩ : ∃ e, es[i]? = some e := ⟨_, List.getElem?_eq_getElem (by omega)⟩
    rw [zipD_get ds es i hd he, hd, he]; rfl
  · obtain ⟨d, hd⟩ : ∃ d, ds[i]? = some d := ⟨_, List.getElem?_eq_getElem (by omega)⟩
    obtain ⟨e, he⟩ : ∃ e, es[i]? = some e := ⟨_, List.getElem?_eq_getElem (by omega)⟩
    obtain ⟨x, e1, q1⟩ := gx hd
    obtain ⟨y, e2, q2⟩ := gy he
    rw [e1, e2, hd, he]
    exact .cons q1 (.cons q2 .nil)
  · obtain ⟨d, hd⟩ : ∃ d, ds[i]? = some d := ⟨_, List.getElem?_eq_getElem (by omega)⟩
    obtain ⟨e, he⟩ : ∃ e, es[i]? = some e := ⟨_, List.getElem?_eq_getElem (by omega)⟩
    obtain ⟨x, e1, _⟩ := gx hd
    obtain ⟨y, e2, _⟩ := gy he
    exact ⟨xs, ys, x, y, SqT.mono s h, SqL.mono s h', e1, e2⟩
  · rintro i H v H' hi s ⟨T, x, y, h1, h2, h3, h4, h5⟩
    refine ⟨T, h1, h2, ?_⟩
    rw [h4 xs (SqT.mono s h), h5 ys (SqL.mono s h')]
    exact h3
theorem PI_or {X : Cx} {tg e : Expr} {t u : TI} (h : PI X tg e t) (k : PI X tg e u) : PI X tg e (fun σ H R => t σ H R ∨ u σ H R) := ⟨fun pins s σ H R I q => q.elim (h.run pins s σ H R I) (k.run pins s σ H R I)⟩
def iZp2 : List W → Option (List D)
  | [.d (.tup ds), .d (.lst es)] => some (zipD ds es)
  | ws => iZp ws
section
variable {C : Ctx} {pos p tpos : Pos} {a b : Expr} {ga : DA}
theorem pi_zp2 {elts : List Expr} {kk : Nat} (i : Nat) (hi : C.blt[i]? = some "zip") (hg : glB C.sc "zip" = true) (ha : PDA C [a, b] ga) (hs : ∀ env, starEach [a, b] env = (false, eval a env) :: starEach [b] env := by intro _; rfl) (hpl : ∀ env, (backTo pos (starEach [b] env)).any (·.1) = false := by intro _; rfl) :
    PDI C (.Tuple elts kk tpos) (.Call (.Name "zip" p) [a, b] [] pos) (lIt iZp2 ga) := by
  refine ⟨fun X Wx G tk => ?_⟩
  obtain ⟨g1, g2, g3⟩ := glB_gl (X := X) (x := "zip") (by rw [G.sc]; exact hg)
  refine PI_imp (PI_or ((pi_zp (elts := elts) (kk := kk) (tpos := tpos) (pos := pos) (p := p) i hi hg ha hs hpl).run X Wx G tk) (pi_zipM g1 (G.blt i _ hi) (ha.run X Wx G tk) (hs _) (hpl _))) fun σ H Q ⟨F, ρ, M, env, R, S, q⟩ => ?_
  cases eg : ga env M with
  | ok ws M1 =>
    by_cases hm : ∃ ds es, ws = [.d (.tup ds), .d (.lst es)]
    · obtain ⟨ds, es, rfl⟩ := hm
      refine .inr ⟨F, ρ, M, env, R, S, ?_⟩
      have q : RPost X.K X.mg (repI X.K X.mg) Wx σ F ρ H (lIt iZp2 ga env M) Q := q
      unfold lIt at q
      rw [eg] at q ⊢
      intro F1 ρ1 H1 vs x1 R1 r1
      cases r1 with
      | cons h t =>
        cases t with
        | cons h' t =>
          cases t
          cases h with
          | tup h1 q1 =>
            cases h' with
            | lst h2 q2 => exact ⟨_, _, _, _, rfl, SqT.mono R1.sub h1, SqL.mono R1.sub h2, q F1 ρ1 H1 _ x1 R1 (itw_zipM h1 q1 h2 q2)⟩
    · refine .inl ⟨F, ρ, M, env, R, S, ?_⟩
      have e : lIt iZp ga env M = lIt iZp2 ga env M := by
        unfold lIt
        rw [eg]
        have : iZp2 ws = iZp ws := by
          unfold iZp2
          split
          · rename_i ds es; exact absurd ⟨ds, es, rfl⟩ hm
          · rfl
        simp only [Res.bind_ok, this]
      show RPost X.K X.mg (repI X.K X.mg) Wx σ F ρ H (lIt iZp ga env M) Q
      rw [e]; exact q
  | err x M1 => exact .inl ⟨F, ρ, M, env, R, S, by
      have e : lIt iZp ga env M = lIt iZp2 ga env M := by unfold lIt; rw [eg]; rfl
      show RPost X.K X.mg (repI X.K X.mg) Wx σ F ρ H (lIt iZp ga env M) Q
      rw [e]; exact q⟩
  | bad => exact .inl ⟨F, ρ, M, env, R, S, by
      have e : lIt iZp ga env M = lIt iZp2 ga env M := by unfold lIt; rw [eg]; rfl
      show RPost X.K X.mg (repI X.K X.mg) Wx σ F ρ H (lIt iZp ga env M) Q
      rw [e]; exact q⟩
end
end PD
namespace PD
open PySem PySem.Spec PyProof.Rows L2
variable {K : PySem.W.Frag} {mg : MG}
/-! ### a dict that is content: d[k], for k in d -/
def cDix (fo fi : DE) : DE := fun env M => (fo env M).bind fun w M1 => (fi env M1).bind fun u M2 => match w, u with
  | .d (.dic ds), .d (.int k) => match lookD ds (.inl k) with
    | some d => .ok (.d d) M2
    | none => .bad
  | _, _ => .bad
def keyD : L2.Key → D
  | .inl i => .int i
  | .inr x => .str x
def cItK (f : DE) : DL := fun env M => (f env M).bind fun w M1 => match w with
  | .d (.dic ds) => .ok (ds.map fun kv => keyD kv.1) M1
  | _ => .bad
section
variable {C : Ctx} {pos : Pos} {tg o e i : Expr} {f fo fi : DE}
theorem pd_dix (ho : PDE C o fo) (hi : PDE C i fi) (hs : NoSl i := by intro _ _; rfl) : PDE C (.Subscript o i pos) (cDix fo fi) := by
  refine ⟨fun X Wx G tk => PE_imp (L2.pe_dget (by have := room65 G; omega) (ho.run X Wx G tk) (hi.run X Wx G tk) hs) fun σ H Q ⟨F, ρ, M, env, R, S, p⟩ => ?_⟩
  refine ⟨F, ρ, M, env, R, S, (RPost.seq p).imp fun v H1 ⟨F1, ρ1, M1, w, x1, R1, r1, p1⟩ => ?_⟩
  refine ⟨F1, ρ1, M1, env, R1, S.ext x1, (RPost.seq p1).imp fun u H2 ⟨F2, ρ2, M2, w2, x2, R2, r2, p2⟩ => ?_⟩
  split at p2
  · rename_i ds k hh
    cases (show Rep X.K X.mg F1 v (.dic ds) from r1) with
    | dic h1 q1 =>
      cases (show Rep X.K X.mg F2 u (.int k) from r2)
      split at p2
      · rename_i d ed
        rcases RepK.look q1 (.inl k) with ⟨_, v2⟩ | ⟨y, d', v1, v2, rv⟩
        · rw [v2] at ed; cases ed
        · rw [v2] at ed; cases ed
          refine ⟨_, y, rfl, .inl ⟨_, .inl k, .inr ⟨_, R2.sub _ _ (x2.sub _ _ h1)⟩, rfl, v1.symm⟩, ?_⟩
          exact p2 F2 ρ2 H2 y .refl R2 (Rep.mono x2.sub rv)
      · exact p2.elim
  · exact p2.elim
theorem key_rep {F : Hp} (k : L2.Key) : Rep K mg F (kV k) (keyD k) := by
  cases k with
  | inl i => exact .int i
  | inr x => exact .str x
theorem RepK.keys {F : Hp} : ∀ {kvs : List (L2.Key × V)} {ds : List (L2.Key × D)}, RepK K mg F kvs ds → kvs.map (·.1) = ds.map (·.1)
  | _, _, .nil => rfl
  | _, _, .cons _ r => by rw [List.map_cons, List.map_cons, RepK.keys r]
theorem itw_keys {a : Addr} {od : Obj} {F : Hp} {kvs : List (L2.Key × V)} {ds : List (L2.Key × D)} (h : F a = some (.frz od (.dK kvs))) (r : RepK K mg F kvs ds) : ItW K mg (Itk a od kvs) F (ds.map fun kv => keyD kv.1) where
  go := fun i H hi s => ⟨s _ _ h, by rw [RepK.length r]; simpa using hi⟩
  stop := fun H s => ⟨s _ _ h, by rw [RepK.length r]; simp⟩
  yld := fun i H x H' hi s hy F2 ρ M s2 R => by
    obtain ⟨rfl, k, v, e, rfl⟩ := hy
    refine ⟨F2, keyD k, ?_, .refl, R, key_rep k⟩
    have e1 : (kvs.map (·.1))[i]? = some k := by rw [List.getElem?_map, e]; rfl
    rw [RepK.keys r, List.getElem?_map] at e1
    rw [List.getElem?_map]
    cases eq : ds[i]? with
    | none => rw [eq] at e1; cases e1
    | some q =>
      rw [eq] at e1
      have : q.1 = k := Option.some.inj e1
      rw [← this]; rfl
theorem pi_ks (he : PDE C e f) : PDI C tg e (cItK f) := by
  refine ⟨fun X Wx G tk => PI_imp (L2.pi_keys (he.run X Wx G tk)) fun σ H Q ⟨F, ρ, M, env, R, S, p⟩ => ?_⟩
  refine ⟨F, ρ, M, env, R, S, (RPost.seq p).imp fun v H1 ⟨F1, ρ1, M1, w, x1, R1, r1, p1⟩ => ?_⟩
  split at p1
  · rename_i ds
    cases (show Rep X.K X.mg F1 v (.dic ds) from r1) with
    | dic h1 q1 => exact ⟨_, _, rfl, .inl ⟨_, R1.sub _ _ h1, p1 F1 ρ1 H1 _ .refl R1 (itw_keys h1 q1)⟩⟩
  · exact p1.elim
end
end PD
namespace PD
open PySem PySem.Spec PyProof.Rows L2
/-! ### plain logic: dict mode, while -/
@[simp] theorem OkS_ofRd {α : Type} {r : Res α} {k : α → Store → SRes} {n : Ev → Store → Prop} {t : W → Store → Prop} : OkS (ofRd r k) n t = Ok r fun a M => OkS (k a M) n t := by cases r <;> rfl
theorem OkS_loopFd {g : DG} {fb : DS} {i : Nat} {n : Ev → Store → Prop} {t : W → Store → Prop} (Inv : List D → Ev → Store → Prop) : ∀ (ds : List D) (env : Ev) (M : Store), Inv ds env M →
    (∀ d r env M, Inv (d :: r) env M → ∃ p, g (.d d) (msk i env) M = some p ∧ OkS (fb (p.1.set i (env.getD i none)) p.2) (Inv r) fun _ _ => False) → (∀ env M, Inv [] env M → n env M) → OkS (loopFd i g fb ds env M) n t
  | [], env, M, h0, _, hn => hn env M h0
  | d :: r, env, M, h0, hs, hn => by
    unfold loopFd
    obtain ⟨p, e, h1⟩ := hs d r env M h0
    rw [e]
    cases e2 : fb (p.1.set i (env.getD i none)) p.2 with
    | nx env2 M2 => rw [e2] at h1; simp only [e2]; exact OkS_loopFd Inv r env2 M2 h1 hs hn
    | ret w M2 => rw [e2] at h1; exact h1.elim
    | _ => rw [e2] at h1; exact h1.elim
theorem OkS_loopWd {ft : DT} {fb : DS} {i : Nat} {n : Ev → Store → Prop} {t : W → Store → Prop} (Inv : Nat → Ev → Store → Prop)
    (hs : ∀ m env M, Inv m env M → ∃ b M1, ft (msk i env) M = .ok b M1 ∧ (b = true → OkS (fb env M1) (fun e M' => ∃ m', m' < m ∧ Inv m' e M') fun _ _ => False) ∧ (b = false → n env M1)) :
    ∀ (fuel m : Nat) (env : Ev) (M : Store), m < fuel → Inv m env M → OkS (loopWd i ft fb fuel env M) n t
  | 0, m, _, _, h, _ => by omega
  | fuel + 1, m, env, M, h, h0 => by
    unfold loopWd
    obtain ⟨b, M1, e, h1, h2⟩ := hs m env M h0
    rw [e, ofRd_ok]
    cases b with
    | false => exact h2 rfl
    | true =>
      have h1 := h1 rfl
      rw [if_pos rfl]
      cases e2 : fb env M1 with
      | nx env2 M2 =>
        rw [e2] at h1
        obtain ⟨m', hm, h3⟩ := h1
        exact OkS_loopWd Inv hs fuel m' env2 M2 (by omega) h3
      | _ => rw [e2] at h1; exact h1.elim
theorem OkS_loopW {ft : DT} {fb : DS} {n : Ev → Store → Prop} {t : W → Store → Prop} (Inv : Nat → Ev → Store → Prop)
    (hs : ∀ m env M, Inv m env M → ∃ b M1, ft env M = .ok b M1 ∧ (b = true → OkS (fb env M1) (fun e M' => ∃ m', m' < m ∧ Inv m' e M') t) ∧ (b = false → n env M1)) :
    ∀ (fuel m : Nat) (env : Ev) (M : Store), m < fuel → Inv m env M → OkS (loopW ft fb fuel env M) n t
  | 0, m, _, _, h, _ => by omega
  | fuel + 1, m, env, M, h, h0 => by
    unfold loopW
    obtain ⟨b, M1, e, h1, h2⟩ := hs m env M h0
    rw [e, ofR_ok]
    cases b with
    | false => exact h2 rfl
    | true =>
      have h1 := h1 rfl
      rw [if_pos rfl]
      cases e2 : fb env M1 with
      | nx env2 M2 =>
        rw [e2] at h1
        obtain ⟨m', hm, h3⟩ := h1
        exact OkS_loopW Inv hs fuel m' env2 M2 (by omega) h3
      | ret w M2 => rw [e2] at h1; exact h1
      | _ => rw [e2] at h1; exact h1.elim
def onlyR (r : SRes) : SRes := match r with
  | .ret w M' => .ret w M'
  | _ => .bad
theorem OkS_only {r : SRes} {n : Ev → Store → Prop} {t : W → Store → Prop} (h : OkS r (fun _ _ => False) t) : OkS (onlyR r) n t := by
  cases r with
  | ret w M' => exact h
  | _ => exact h.elim
end PD
namespace PD
open PySem PySem.Spec PyProof.Rows L2
/-! ### sorted(d), the keys ints -/
def srtI (ns : List Int) : List Int := ns.mergeSort fun a b => decide (a ≤ b)
theorem srtI_perm (ns : List Int) : (srtI ns).Perm ns := List.mergeSort_perm _ _
theorem srtI_le (ns : List Int) : (srtI ns).Pairwise (· ≤ ·) := by
  have := List.pairwise_mergeSort (le := fun a b : Int => decide (a ≤ b)) (fun a b c h1 h2 => by simp at *; omega) (fun a b => by simp; omega) ns
  exact this.imp fun h => by simpa using h
section
variable {prog : Program} {w : World} {A : Around} {E : Value → Shared → Prop} {s : Shared}
theorem sortedDk {T : String} {r d : Addr} {n : Nat} {P : Nat → Value → Prop} {OK : Heap → Prop} {Q : Value → Shared → Prop} (K : PySem.W.KdlSrc prog w T r d n P OK) (hh : A.handled = none) (hok : OK s.heap) (hn : n ≤ sizeLine)
    (h : ∀ (h' : Heap) (tk : Nat) (vs : List Value), (∀ b o, s.heap.get? b = some o → h'.get? b = some o) → vs.length = n → (∀ j v, vs[j]? = some v → P j v) →
      wpAny (model prog w) A.in1 (call (.builtin "list.sort") [.ref h'.objs.size]) (fun _ s' => Q (.ref h'.objs.size) s') E { s with heap := h'.push (seqObj "list" vs.toArray 0), toks := tk }) :
    wpAny (model prog w) A (call (.builtin "sorted") [.ref r]) Q E s := by
  apply PySem.Calls.call_function_entry kind_sorted plain_sorted entry_sorted (args_sorted1 _)
  unfold Builtin.«sorted»
  apply wpAny_bind (m := checkCount "sorted" 1 1 _)
  apply wpAny_pure
  apply wpAny_bind
  apply PySem.W.kdu_collect (A := A.in1) K hh hok hn
  intro h' tk acc hk hacc
  have l : acc.toList.length = n := by rw [Array.length_toList, hacc.1]
  have g := h h' tk acc.toList hk l fun j v e => hacc.2 j v (by rw [← Array.getElem?_toList, e])
  apply wpAny_bind
  apply wpAny_newList _ (by omega)
  apply wpAny_bind
  apply wpAny_holding
  exact wpAny_mono g (fun _ s' x => wpAny_pure ⟨_, rfl, x⟩) fun _ _ e => e
end
theorem nodup_keys {kvs : List (L2.Key × V)} {vs : List (L2.Key × Value)} (r : KV kvs vs) {j : Nat} {k : L2.Key} {x : Value} (e : vs[j]? = some (k, x)) : (kvs.map (·.1))[j]? = some k := by
  rw [KV.keys r, List.getElem?_map, e]; rfl
def rSdk (K : PySem.W.Frag) : List V → Hp → VK → Prop := fun xs H Q => ∃ (a : Addr) (od : Obj) (kvs : List (L2.Key × V)) (ns : List Int), xs = [V.ref a] ∧ H a = some (.frz od (.dK kvs)) ∧ kvs.map (·.1) = ns.map Sum.inl ∧ ns.length ≤ sizeLine ∧ ∀ p, H p = none → Q (.ref p) (upd H p (.lst ((srtI ns).map V.int)))
theorem each_ints {h : Heap} : ∀ {vs : List Value} {ns : List Int}, vs.length = ns.length → (∀ (j : Nat) v, vs[j]? = some v → ∃ k t, ns[j]? = some k ∧ v = Value.int k t) →
    PySem.W.EachIs (fun v k => RelV (.int k) v) vs ns ∧ PySem.W.EachIs (fun v (b : Int) => ∃ as, Reads h v (.int b) as ∧ ∀ a : Addr, a ∉ as) vs ns
  | [], [], _, _ => ⟨.nil, .nil⟩
  | v :: vs, n :: ns, hl, h' => by
    obtain ⟨k, t, e1, e2⟩ := h' 0 v rfl
    simp at e1
    subst e1 e2
    obtain ⟨q1, q2⟩ := each_ints (h := h) (vs := vs) (ns := ns) (by simpa using hl) fun j v e => by
      have := h' (j + 1) v (by simpa using e)
      simpa using this
    exact ⟨.cons ⟨t, rfl⟩ q1, .cons ⟨[], .int n t, by simp⟩ q2⟩
theorem ints_each : ∀ {out : List Value} {ns : List Int}, PySem.W.EachIs (fun v k => RelV (.int k) v) out ns → Vals (ns.map V.int) out
  | _, _, .nil => .nil
  | _, _, .cons h t => .cons h (ints_each t)
theorem cr_sdk {X : Cx} (hc : X.calm = true) (hu : X.A.units + 64 < cLine) : CallR X (.builtin "sorted") (rSdk X.K) := by
  intro pins s σ H xs us Q I r h
  obtain ⟨a, od, kvs, ns, rfl, ha, hk, hl, q⟩ := h
  obtain ⟨u, rfl, ru⟩ := vals1 r
  obtain rfl : u = Value.ref a := ru
  obtain ⟨hs, hgd, hx, es, ep, vs, hdt, hsz, kv, hm⟩ := I.frzK ha
  have lk : kvs.length = ns.length := by
    have := congrArg List.length hk
    simpa using this
  have lv : vs.length = ns.length := by rw [← KV.length kv, lk]
  refine sortedDk (PySem.W.kdl_dict (knd := mixKind X.prog X.w) (kvs := vs) (ep := ep) hs) (I.ok.hd hc) hm (by omega) fun h' tk ws keep hw hp => ?_
  have hwi : ∀ (j : Nat) v, ws[j]? = some v → ∃ k t, ns[j]? = some k ∧ v = Value.int k t := fun j v e => by
    obtain ⟨k, x, e1, e2⟩ := hp j v e
    have e3 := nodup_keys kv e1
    rw [hk, List.getElem?_map] at e3
    cases en : ns[j]? with
    | none => rw [en] at e3; cases e3
    | some n =>
      rw [en] at e3
      have e3 : (Sum.inl n : L2.Key) = k := Option.some.inj e3
      subst e3
      rcases keyIs_shape (show keyIs (.inl n) v = true from e2) with ⟨i, t, e4, rfl⟩ | ⟨y, t, e4, _⟩
      · cases e4; exact ⟨n, t, rfl, rfl⟩
      · cases e4
  have hD : (h'.push (seqObj "list" ws.toArray 0)).get? h'.objs.size = some (seqObj "list" ws.toArray 0) := Heap.get?_push_size _ rfl
  obtain ⟨e1, e2⟩ := each_ints (h := h'.push (seqObj "list" ws.toArray 0)) (by omega) hwi
  refine PySem.W.list_sort_data (enc := PyData.int) (bs := ns) hD e1 (e2.mono fun v b ⟨as, r1, r2⟩ => ⟨as, r1, r2 _⟩) (fun d hd d' hd' => ?_) (.inr fun d hd => ?_) hl (fun b hb => ?_) fun out ho eo => ?_
  · obtain ⟨i, _, rfl⟩ := List.mem_map.mp hd
    obtain ⟨j, _, rfl⟩ := List.mem_map.mp hd'
    simp [PySem.W.alike]
  · obtain ⟨i, _, rfl⟩ := List.mem_map.mp hd
    exact ⟨by simp, fun xs => by simp⟩
  · show X.A.in1.units + 1 + 0 < cLine
    simp only [Around.in1_units]
    omega
  · have ed : PySem.W.dataLe false PyData.int = fun a b : Int => decide (a ≤ b) := PySem.W.dataLe_int (fun b : Int => b)
    rw [ed] at eo
    have rv : Vals ((srtI ns).map V.int) out := ints_each eo
    obtain ⟨c, hc2⟩ := sortedHeap_at (vs := ws) (out := out.toArray) hD
    have hgo : s.heap.get? h'.objs.size = none := by
      cases e : s.heap.get? h'.objs.size with
      | none => rfl
      | some o => exact absurd (Heap.lt_size (keep _ _ e)) (Nat.lt_irrefl _)
    have hn := I.hok.gone hgo
    have kp : ∀ b o, s.heap.get? b = some o → (sortedHeap (h'.push (seqObj "list" ws.toArray 0)) h'.objs.size ws out.toArray).get? b = some o := fun b o e => by
      have e1 := keep b o e
      have lt := Heap.lt_size e1
      rw [sortedHeap_old (Nat.ne_of_lt lt) (by rw [Heap.size_push]; exact Nat.lt_succ_of_lt lt)]
      exact Heap.get?_push_of_some _ e1
    have hlen : ((srtI ns).map V.int).length ≤ sizeLine := by rw [List.length_map, (srtI_perm ns).length_eq]; exact hl
    exact ⟨.ref _, upd H h'.objs.size (.lst ((srtI ns).map V.int)), I.laidN (t' := tk) kp hgo hn ⟨hlen, out, c, rv, hc2⟩, rfl, q _ hn⟩
def intKeys : List (L2.Key × D) → Option (List Int)
  | [] => some []
  | (.inl k, _) :: r => (intKeys r).map (k :: ·)
  | _ => none
theorem intKeys_of : ∀ {ds : List (L2.Key × D)} {ns : List Int}, intKeys ds = some ns → ds.map (·.1) = ns.map Sum.inl
  | [], _, e => by cases e; rfl
  | (.inl k, d) :: r, ns, e => by
    unfold intKeys at e
    cases e1 : intKeys r with
    | none => rw [e1] at e; cases e
    | some ms =>
      rw [e1] at e
      cases e
      rw [List.map_cons, List.map_cons, intKeys_of e1]
  | (.inr x, d) :: r, ns, e => by cases e
def lSDk (f : DE) : DL := fun env M => (f env M).bind fun w M1 => match w with
  | .d (.dic ds) => match intKeys ds with
    | some ns => if ns.length ≤ LIM then .ok ((srtI ns).map .int) M1 else .bad
    | none => .bad
  | _ => .bad
section
variable {C : Ctx} {pos p1 : Pos} {e : Expr} {f : DE}
theorem pl_sdk (i : Nat) (hi : C.blt[i]? = some "sorted") (gi : glB C.sc "sorted" = true) (he : PDE C e f)
    (h1 : ∀ env, starEach [e] env = (false, eval e env) :: starEach [] env := by intro _; rfl) : PDL C (.Call (.Name "sorted" p1) [e] [] pos) (lSDk f) := by
  refine ⟨fun X Wx G tk => ?_⟩
  obtain ⟨g1, g2, g3⟩ := glB_gl (X := X) (x := "sorted") (by rw [G.sc]; exact gi)
  refine PE_imp (pe_callB (cr_sdk G.calm (by have := room65 G; omega)) g1 (G.blt i _ hi) (by decide +kernel) (L2.pa_cons (he.run X Wx G tk) L2.pa_nil (h1 _)) g3 g2 (h1 _)) fun σ H Q ⟨F, ρ, M, env, R, S, p⟩ => ?_
  refine ⟨F, ρ, M, env, R, S, (RPost.seq p).imp fun v H1 ⟨F1, ρ1, M1, w, x1, R1, r1, p1⟩ => ?_⟩
  split at p1
  · rename_i ds
    cases (show Rep X.K X.mg F1 v (.dic ds) from r1) with
    | dic h1 q1 =>
      split at p1
      · rename_i ns ek
        split at p1
        · rename_i hl
          refine ⟨_, _, _, ns, rfl, R1.sub _ _ h1, by rw [RepK.keys q1, intKeys_of ek], by rw [← lim_line]; exact hl, fun p' hp => ?_⟩
          obtain ⟨f1, f2⟩ := R1.fresh hp
          exact p1 F1 ρ1 _ _ (R1.extH hp _) (R1.newH hp _) ⟨p', _, rfl, hp, f1, f2, upd_same, Reps.ints _⟩
        · exact p1.elim
      · exact p1.elim
  · exact p1.elim
end
end PD
namespace PD
open PySem PySem.Spec PyProof.Rows L2
/-! ### (number, row): the least, the order -/
def rkLt (p q : Int × List Int) : Bool := decide (p.1 < q.1 ∨ (p.1 = q.1 ∧ p.2 < q.2))
theorem rk_lt (p q : Int × List Int) : PySem.W.dataLt (rkP p) (rkP q) = rkLt p q := by
  unfold rkP rkLt
  rw [PySem.W.dataLt_pair (by simp [PySem.W.alike]) (alike_tups p.2 q.2), PySem.W.dataLt_int]
  have e1 : PyData.eqv (.int p.1) (.int q.1) = decide (p.1 = q.1) := by
    show (p.1 == q.1) = _
    rfl
  have e2 : PyData.eqv (.tuple (p.2.map .int)) (.tuple (q.2.map .int)) = decide (p.2 = q.2) := eqv_ints p.2 q.2
  have e3 : PySem.W.dataLt (.tuple (p.2.map .int)) (.tuple (q.2.map .int)) = decide (p.2 < q.2) := by
    rw [PySem.W.dataLt_tuple]
    exact PySem.W.dataLt_ints p.2 q.2
  rw [e1, e2, e3]
  by_cases c1 : p.1 = q.1
  · by_cases c2 : p.2 = q.2
    · have : ¬ q.2 < q.2 := List.lt_irrefl _
      simp [c1, c2, this]
    · simp [c1, c2]
  · simp [c1]
theorem rk_anti {p q : Int × List Int} (h1 : rkLt p q = false) (h2 : rkLt q p = false) : p = q := by
  unfold rkLt at h1 h2
  rw [decide_eq_false_iff_not] at h1 h2
  have e1 : p.1 = q.1 := by
    rcases Int.lt_trichotomy p.1 q.1 with h | h | h
    · exact absurd (.inl h) h1
    · exact h
    · exact absurd (.inl h) h2
  have e2 : p.2 = q.2 := List.le_antisymm (List.not_lt.mp fun h => h2 (.inr ⟨e1.symm, h⟩)) (List.not_lt.mp fun h => h1 (.inr ⟨e1, h⟩))
  exact Prod.ext e1 e2
theorem rk_trans {a b c : Int × List Int} (h1 : rkLt b a = false) (h2 : rkLt c b = false) : rkLt c a = false := by
  unfold rkLt at *
  rw [decide_eq_false_iff_not] at *
  rintro (h | ⟨e, h⟩)
  · by_cases k : b.1 < a.1
    · exact h1 (.inl k)
    · exact h2 (.inl (by omega))
  · by_cases k : b.1 = a.1
    · by_cases l : b.2 < a.2
      · exact h1 (.inr ⟨k, l⟩)
      · exact h2 (.inr ⟨by omega, by
        rcases List.le_iff_lt_or_eq.mp (List.not_lt.mp l) with q | q
        · exact List.lt_trans h q
        · rw [← q]; exact h⟩)
    · by_cases l : b.1 < a.1
      · exact h1 (.inl l)
      · exact h2 (.inl (by omega))
theorem rk_tot (a b : Int × List Int) : ((!rkLt b a) || (!rkLt a b)) = true := by
  unfold rkLt
  by_cases c : b.1 < a.1 ∨ b.1 = a.1 ∧ b.2 < a.2
  · have : ¬ (a.1 < b.1 ∨ a.1 = b.1 ∧ a.2 < b.2) := by
      rcases c with h | ⟨e, h⟩
      · rintro (q | ⟨q, _⟩) <;> omega
      · rintro (q | ⟨_, q⟩)
        · omega
        · exact List.lt_asymm h q
    simp [this]
  · simp [c]
theorem srt_rk {ps : List (Int × List Int)} (hl : ps.length ≤ 16777216) : ∃ qs : List (Int × List Int), qs.Perm ps ∧ (qs.Pairwise fun a b => rkLt b a = false) ∧ gSrtD [.lst (ps.map rkD)] = some (qs.map rkD) := by
  refine ⟨ps.mergeSort fun a b => !rkLt b a, List.mergeSort_perm _ _, ?_, ?_⟩
  · have := List.pairwise_mergeSort (le := fun a b => !rkLt b a) (fun a b c h1 h2 => by
      simp only [Bool.not_eq_true'] at h1 h2 ⊢
      exact rk_trans h1 h2) (fun a b => rk_tot a b) ps
    exact this.imp fun h => by simpa using h
  · unfold gSrtD
    simp only [toPys_rk]
    rw [if_pos (sortOk_rk hl)]
    have e2 : srtP (ps.map rkP) = (ps.mergeSort fun a b => !rkLt b a).map rkP := by
      refine (List.map_mergeSort fun a _ b _ => ?_).symm
      show (!rkLt b a) = !PySem.W.dataLt (rkP b) (rkP a)
      rw [rk_lt]
    rw [e2, List.map_map]
    refine congrArg some (List.map_congr_left fun q _ => ?_)
    exact from_to (toPy_rk q)
theorem fold_rk : ∀ (ps : List (Int × List Int)) (a : Int × List Int), ∃ c ∈ a :: ps, (∀ q ∈ a :: ps, rkLt q c = false) ∧ (ps.map rkP).foldl (fun a y => if PySem.W.dataLt y a then y else a) (rkP a) = rkP c
  | [], a => ⟨a, by simp, fun q hq => by
      simp at hq; subst hq
      have := PySem.W.dataLt_self (rkP q)
      rwa [rk_lt] at this, rfl⟩
  | p :: ps, a => by
    rw [List.map_cons, List.foldl_cons, rk_lt]
    cases hb : rkLt p a with
    | true =>
      rw [if_pos rfl]
      obtain ⟨c, h1, h2, h3⟩ := fold_rk ps p
      refine ⟨c, List.mem_cons_of_mem _ h1, fun q hq => ?_, h3⟩
      rcases List.mem_cons.mp hq with e | e
      · subst e
        have h4 := h2 p (by simp)
        have t := rk_tot q p
        rw [hb] at t
        exact rk_trans h4 (by simpa using t)
      · exact h2 q e
    | false =>
      rw [if_neg (by decide)]
      obtain ⟨c, h1, h2, h3⟩ := fold_rk ps a
      refine ⟨c, ?_, fun q hq => ?_, h3⟩
      · rcases List.mem_cons.mp h1 with e | e
        · rw [e]; exact List.mem_cons_self
        · exact List.mem_cons_of_mem _ (List.mem_cons_of_mem _ e)
      · rcases List.mem_cons.mp hq with e | e
        · subst e; exact h2 q (by simp)
        · rcases List.mem_cons.mp e with e | e
          · subst e
            exact rk_trans (h2 a (by simp)) hb
          · exact h2 q (List.mem_cons_of_mem _ e)
theorem min_rk {ps : List (Int × List Int)} (h : ps ≠ []) : ∃ c ∈ ps, (∀ q ∈ ps, rkLt q c = false) ∧ gMinL [.lst (ps.map rkD)] = some (rkD c) := by
  cases ps with
  | nil => exact absurd rfl h
  | cons a ps =>
    obtain ⟨c, h1, h2, h3⟩ := fold_rk ps a
    refine ⟨c, h1, h2, ?_⟩
    have et : toPys ((a :: ps).map rkD) = some (rkP a :: ps.map rkP) := toPys_rk (a :: ps)
    simp only [gMinL, et]
    have ok : alikeOk (rkP a :: ps.map rkP) = true := by
      unfold alikeOk
      rw [Bool.and_eq_true, Bool.and_eq_true]
      have hm : ∀ x ∈ rkP a :: ps.map rkP, ∃ l, x = rkP l := fun x hx => by
        rcases List.mem_cons.mp hx with q | q
        · exact ⟨a, q⟩
        · obtain ⟨l, _, e⟩ := List.mem_map.mp q
          exact ⟨l, e.symm⟩
      refine ⟨⟨List.all_eq_true.mpr fun x hx => List.all_eq_true.mpr fun y hy => ?_, List.all_eq_true.mpr fun x hx => ?_⟩, decide_eq_true (Nat.le_trans (depth_rk (a :: ps)) (by decide))⟩
      · obtain ⟨l, rfl⟩ := hm x hx
        obtain ⟨m, rfl⟩ := hm y hy
        simp only [rkP, PySem.W.alike, PySem.W.alikeAll, alike_ints, Bool.and_self]
      · obtain ⟨l, rfl⟩ := hm x hx
        rfl
    rw [if_pos ok]
    have e : PySem.W.minD (rkP a) (ps.map rkP) = rkP c := h3
    rw [e, from_to (toPy_rk c)]
end PD
namespace PD
open PySem PySem.Spec PyProof.Rows L2
variable {K : PySem.W.Frag} {mg : MG}
/-! ### own classes of errors -/
def clsInit : Stmt → Stmt
  | .ClassDef (body := b) .. => b.getD 0 (.Pass ⟨0, 0, 0, 0⟩)
  | s => s
/-- __init__ keeps what it is given -/
theorem init_fn {P : Program} {w : World} {base : Heap} {q fld : Str} {st : Stmt} {f C : Addr} {fd : FuncData} {p1 p2 p3 p4 : Pos} {k : Nat} (F : Fun K "__init__" q st f fd) (Sc : FnScope ["self", fld] ["self", fld] (defScope st))
    (hb : defBody st = [.Assign [.Attribute (.Name "self" p1) fld p2] (.Name fld p3) p4]) (v1 : visB (defScope st) "self" = true) (v2 : visB (defScope st) fld = true) (T : OexC K C) (hno : PySem.W.findIn K (.ref C) fld = some none) :
    FnOk P w K mg base (L2.CX P w) (k + 1) f fd ["self", fld] (initSp C fld) := by
  refine F.okX Sc (fun vs H Q E ⟨a, v, e, _⟩ => by rw [e]; rfl) fun cdv A outer s H vs Q E hr ⟨a, v, e, h1, h2⟩ => ?_
  subst e
  rw [hb]
  let X := cxOf (L2.CX P w) P w K mg base ["self", fld] "__init__" (defScope st) f cdv A outer s H E
  obtain ⟨a1, a2, a3⟩ := visB_vis v1
  obtain ⟨b1, b2, b3⟩ := visB_vis v2
  refine ⟨_, pss_one (ps_ost (pe_var (i := 0) rfl a1 a2 a3) (pe_var (i := 1) rfl b1 b2 b3)), ?_⟩
  refine ⟨v, rfl, _, rfl, a, C, rfl, T, hno, .inl ⟨h1, fun dx n ne => ?_⟩⟩
  exact h2 dx n ne
/-- raise Cls(e) -/
def sRz (c f : Str) (fe : DE) : DS := fun env M => ofR (fe env M) env fun w M1 => match w with
  | .d x => .err ⟨c, [(f, x)]⟩ env M1
  | .mt _ => .bad
section
variable {C : Ctx} {e : Expr} {fe : DE} {p pos pos' : Pos}
theorem made_heap {H1 : Hp} {a dx : Addr} {o1 o2 od ox : HO} (h1 : H1 a = none) (ne : dx ≠ a) : upd (L2.del (upd (upd (upd H1 a o1) dx od) a o2) a) dx ox = upd H1 dx ox := by
  funext b
  by_cases hb : b = dx
  · rw [hb, upd_same, upd_same]
  · rw [upd_ne hb, upd_ne hb]
    by_cases ha : b = a
    · rw [ha, L2.del_same, h1]
    · rw [L2.del_ne ha, upd_ne ha, upd_ne hb, upd_ne ha]
theorem ps_rz {r : ExcRow} (hi : r ∈ C.exs) (hg : glB C.sc r.cls = true) (he : PDE C e fe) (hs : ∀ env, starEach (e :: []) env = (false, eval e env) :: starEach [] env := by intro _; rfl) (hpl : ∀ env, (backTo pos (starEach [] env)).any (·.1) = false := by intro _; rfl) (h0 : (r.fld == ("" : Str)) = false := by decide +kernel) :
    PDS C (.Raise (some (.Call (.Name r.cls p) [e] [] pos)) none pos') (sRz r.cls r.fld fe) := by
  refine ⟨fun X Wx G tk => ?_⟩
  obtain ⟨CC, h1, hO, _, hy, hk⟩ := (G.exs r hi).ex
  obtain ⟨fI, fd, hX, hI, hT, hF, hB, hN⟩ := hy h0
  obtain ⟨g1, g2, g3⟩ := glB_gl (X := X) (x := r.cls) (by rw [G.sc]; exact hg)
  have hp : Passes (L2.CX X.prog X.w) X (fun _ _ _ => False) := passes_call tk fun _ _ _ _ z => z.elim
  refine PS_imp (ps_raise G.calm tk (pmk_oex hO hI hT hF G.room hB .nil hp g1 h1 (L2.pa_cons (he.run X Wx G tk) L2.pa_nil (hs _)) g2 (hs _) (hpl _))) fun D σ H ⟨F, ρ, M, env, R, S, q⟩ => ?_
  refine ⟨F, ρ, M, env, R, S, (SPost.seq S q).imp fun v H1 ⟨F1, ρ1, M1, w', x1, R1, r1, q1⟩ => ?_⟩
  cases w' with
  | mt i => exact q1.elim
  | d x =>
    refine ⟨by show 1 ≤ 1000; decide, fun a ha => ⟨a, v, rfl, upd_same, fun dx hdx hne => ?_⟩⟩
    have hdx1 : H1 dx = none := by rwa [upd_ne hne] at hdx
    refine ⟨rfl, dx, [(r.fld, v)], upd_same, ?_, hdx1, ?_⟩
    · rw [upd_ne hne, upd_same]
    · rw [made_heap ha hne]
      refine q1 F1 ρ1 σ _ _ _ (R1.extH hdx1 _) (R1.newH hdx1 _) (S.ext x1) ⟨⟨CC, h1, rfl⟩, .inr ⟨dx, _, rfl, upd_same, .cons ⟨rfl, ?_⟩ .nil⟩⟩
      exact r1
/-! raise Cls() -/
theorem pmk_own0 {X : Cx} {CC : Addr} {bmB : List Value} {B newId initId : String} {x : Str} {p pos : Pos} (F : ExcBaseFacts B newId initId bmB) (q : PySem.W.excIn X.K CC bmB newId = true) (gC : X.mg x = some (.ref CC)) (kC : PySem.W.keepIn X.K (.ref CC) = true) (r : Raises X (.ref CC)) (hg : Gl X x)
    (hdb : (x == ("__debug__" : Str)) = false) : PMk X (.Call (.Name x p) [] [] pos) (fun _ H Q => Q (.ref CC) none H) := by
  intro pins s σ H Q I h
  refine wpAny_Call_Name_kw (ld_glob I hg gC ?_ hdb)
  refine PySem.W.callWith_K0 I.kIn kC ?_
  show wpAny _ _ (call (.ref CC) []) _ _ _
  obtain ⟨bm, N, nm, qn, bs, hdct, sn, sub, ab, col, dd, k0, k1, k2, k3, k5, mN, hC, hN, hni, T⟩ := exc_obj I.kIn q
  refine wpAny_call_exc_subT F T hC hN hni (fun h' e hm => ?_) (by show 0 ≤ sizeLine; exact Nat.zero_le _)
  exact mk_of I hm r h (I.hok.gone hm.new)
def sRz0 (c : Str) : DS := fun env M => .err ⟨c, []⟩ env M
theorem ps_rz0 {r : ExcRow} (hi : r ∈ C.exs) (hg : glB C.sc r.cls = true) (h0 : (r.fld == ("" : Str)) = true := by decide +kernel) (hdb : (r.cls == ("__debug__" : Str)) = false := by decide +kernel) :
    PDS C (.Raise (some (.Call (.Name r.cls p) [] [] pos)) none pos') (sRz0 r.cls) := by
  refine ⟨fun X Wx G tk => ?_⟩
  obtain ⟨CC, h1, hO, hz, _, hk⟩ := (G.exs r hi).ex
  obtain ⟨g1, g2, g3⟩ := glB_gl (X := X) (x := r.cls) (by rw [G.sc]; exact hg)
  refine PS_imp (ps_raise G.calm tk (pmk_own0 PySem.F.excBase_ValueError (hz h0) h1 hO.kC (raises_own hO.exC hO.tyC) g1 hdb)) fun D σ H ⟨F, ρ, M, env, R, S, q⟩ => ?_
  exact q F ρ σ H _ _ .refl R S ⟨⟨CC, h1, rfl⟩, .inl ⟨rfl, rfl⟩⟩
end
/-! ### try, with several clauses, named or not -/
/-- the ends of a suite, the name of its clause gone -/
def endsAt (o : Option Nat) (D : Ends) : Ends := match o with
  | none => D
  | some i => ⟨fun σ H => D.nx (σ.set i none) H, D.rt, fun σ H => D.bk (σ.set i none) H, fun σ H => D.ct (σ.set i none) H⟩
def slotAt (o : Option Nat) (a : Addr) (σ : St) : St := match o with
  | none => σ
  | some i => σ.set i (some (.ref a))
abbrev HdT := Value × Option Nat × (Addr → Value → Option Addr → TS)
def wMix (K : PySem.W.Frag) (Wo : L2.WX) (D : Ends) : List HdT → L2.WX
  | [] => Wo
  | (c, o, ts) :: r => fun cls d σ H => ∃ b, PySem.W.exmOne K cls c = some b ∧ (b = true → ∀ a, H a = none → ts a cls d (endsAt o D) (slotAt o a σ) H) ∧ (b = false → wMix K Wo D r cls d σ H)
/-- a suite, for any exception that is caught -/
def SuiteOk (X : Cx) (sts : List Stmt) (ts : Addr → Value → Option Addr → TS) : Prop :=
  ∀ (a : Addr) (oe : Obj) (cls : Value) (d : Option Addr) (pn : List (Addr × Obj)), Zc cls d oe → (∃ vs, oe.data = .fields vs) → PSs (X.suite a ((a, oe) :: pn)) sts (ts a cls d)
inductive HdsX (X : Cx) : List ExceptHandler → List HdT → Prop
  | nil : HdsX X [] []
  | bare {x : Str} {c : Value} {ts : Addr → Value → Option Addr → TS} {b : Stmt} {su : List Stmt} {np ps : Pos} {hs : List ExceptHandler} {l : List HdT} (hc : Names X x c) (hu : SuiteOk X (b :: su) ts) (r : HdsX X hs l) :
      HdsX X (.ExceptHandler (some (.Name x np)) none (b :: su) ps :: hs) ((c, none, ts) :: l)
  | named {x n : Str} {i : Nat} {c : Value} {ts : Addr → Value → Option Addr → TS} {b : Stmt} {su : List Stmt} {np ps : Pos} {hs : List ExceptHandler} {l : List HdT} (hc : Names X x c) (hi : X.N[i]? = some n) (hl : X.env.kindOf n = some .local) (hu : SuiteOk X (b :: su) ts) (r : HdsX X hs l) :
      HdsX X (.ExceptHandler (some (.Name x np)) (some n) (b :: su) ps :: hs) ((c, some i, ts) :: l)
/-- what is known where an exception has come to the ground, at the clauses -/
structure Down (X : Cx) (pins : List (Addr × Obj)) (a : Addr) (B : Heap) (cls : Value) (d : Option Addr) (σ : St) (H : Hp) (sI s : Shared) (h : Heap) : Prop where
  inv : Inv X pins σ H sI
  nb : ∀ b o, sI.heap.get? b = some o → b ∉ frs X.stack → B.get? b = some o
  up : sI.heap.UpToSlots h
  fl : HandSPX.FlyingZ B (X.env :: X.outer) a (Zc cls d) h
  na : H a = none
  os : s.os = sI.os
  ag : AllBare s.gens
section
variable {X : Cx} {pins : List (Addr × Obj)} {D : Ends} {Wo : L2.WX} {a : Addr} {B : Heap} {cls : Value} {d : Option Addr} {σ : St} {H : Hp} {sI s : Shared} {h : Heap}
theorem Down.here (g : Down X pins a B cls d σ H sI s h) : Inv X pins σ H { s with heap := h } := g.inv.landed g.nb g.fl.1 g.up g.os g.ag
theorem Down.suite (g : Down X pins a B cls d σ H sI s h) (hf : X.env.frame = some X.env.locals) : ∃ oe, h.get? a = some oe ∧ Zc cls d oe ∧ (∃ vs, oe.data = .fields vs) ∧ Inv (X.suite a ((a, oe) :: (X.pn ++ pins))) [] σ H { s with heap := h } := by
  obtain ⟨oe, vs, he, hz, hd⟩ := g.fl.there
  have away : a ∉ frs (X.env :: X.outer) := fun m => by
    obtain ⟨_, o2, e2, h2⟩ := g.fl.2.2.1.mem m
    rw [he] at e2
    cases e2
    exact h2 _ hd
  refine ⟨oe, he, hz, ⟨vs, hd⟩, g.here.suite he hd g.na (fun z => ?_) fun m => ?_⟩
  · refine away (List.mem_filterMap.mpr ⟨X.env, by simp, ?_⟩)
    rw [hf, z]
  · obtain ⟨v, hv, q⟩ := List.mem_filterMap.mp m
    exact away (List.mem_filterMap.mpr ⟨v, by simp [hv], q⟩)
/-- the test of a clause -/
theorem Down.test {x : Str} {c : Value} {b : Bool} {np : Pos} {R : Flow → Shared → Prop} {nm : Option Str} {su : List Stmt} {ps : Pos} {rest : List ExceptHandler} (g : Down X pins a B cls d σ H sI s h) (hf : X.env.frame = some X.env.locals) (hc : Names X x c)
    (hb : PySem.W.exmOne X.K cls c = some b)
    (yes : b = true → codeAny (model X.prog X.w) (X.A.mark (some (.ref a))) (.handlers (.ref a) [.ExceptHandler none nm su ps] X.env) (fun r s2 => match r with
      | .ok f => (match nm with | none => R f s2 | some n => wpAny (model X.prog X.w) X.A (do bindName X.env n .none; unbindBehindTheSuite X.env n ps) (fun _ s3 => R f s3) X.xe s2)
      | .error y => cameBackBy (model X.prog X.w) X.A X.env X.xe y s2) { s with heap := h })
    (no : b = false → wpAny (model X.prog X.w) X.A (handleBy (.ref a) X.env rest) R X.xe { s with heap := h }) :
    wpAny (model X.prog X.w) X.A (handleBy (.ref a) X.env (.ExceptHandler (some (.Name x np)) nm su ps :: rest)) R X.xe { s with heap := h } := by
  obtain ⟨oe, he, hz, hd, S⟩ := g.suite hf
  refine wpAny_handleBy_cons (codeAny_handlers_test ?_) (fun q => by cases q)
  have ty : PySem.W.Looks (model X.prog X.w) h (typeOf (.ref a)) cls := fun A2 Q2 E2 s2 k q => wpAny_typeOf_ref (k _ _ he) (by rw [hz.1]; exact q)
  have look := PySem.W.exm_one (M := model X.prog X.w) g.here.kIn ty hb
  have name : ∀ {Q2 E2 : Value → Shared → Prop}, Q2 c { s with heap := h } → wpAny (model X.prog X.w) (X.A.mark (some (.ref a))) (eval (.Name x np) X.env) Q2 E2 { s with heap := h } := fun {_ _} q => by
    obtain ⟨n1, n2, n3⟩ := hc
    rcases n3 with m | ⟨m, v, nn⟩
    · exact ld_glob (X := X.suite a ((a, oe) :: (X.pn ++ pins))) S n1 m q n2
    · exact ld_blt (X := X.suite a ((a, oe) :: (X.pn ++ pins))) S n1 m v q nn n2
  refine name (look.here ?_)
  cases b with
  | true => exact yes rfl
  | false => exact no rfl
/-- none of the clauses: it goes on -/
theorem Down.on (g : Down X pins a B cls d σ H sI s h) (hs : X.stack = X.env :: X.outer) (hf : X.env.frame = some X.env.locals) (tk : Takes X Wo) (w : Wo cls d σ H) : wpAny (model X.prog X.w) X.A (handleBy (.ref a) X.env []) (SP X pins D) X.xe { s with heap := h } := by
  refine wpAny_handleBy_nil ?_
  obtain ⟨_, _, _, oe, vs, T, oT, tsl, he, hz, hd, h1, hr⟩ := id g.fl
  have fin : wpAny (model X.prog X.w) X.A (setFlight (.ref a) X.env.frame) (fun _ s2 => wpAny (model X.prog X.w) X.A (throw (.ref a) : Sem Flow) (SP X pins D) X.xe s2) X.xe { s with heap := h } := by
    rw [hf]
    refine HandSPX.setFlight_upZ g.fl fun h4 held u => wpAny_throw (tk _ _ ⟨a, B, sI, pins, σ, H, cls, d, rfl, g.inv, g.nb, g.up.trans u, .inr (.inr ?_), g.na, g.os, g.ag, w⟩)
    rw [hs]; exact held
  unfold PySem.passOn
  refine wpAny_bind (wpAny_field he hd h1 ?_)
  rw [if_neg (by simp : ¬ ((Value.ref T == Value.none) = true))]
  first
    | exact wpAny_bind (wpAny_pure (wpAny_bind fin))
    | exact wpAny_bind fin
theorem clauses (hs : X.stack = X.env :: X.outer) (hf : X.env.frame = some X.env.locals) (hN : X.N.Nodup) (tk : Takes X Wo) {hds : List ExceptHandler} {l : List HdT} (hh : HdsX X hds l) (g : Down X pins a B cls d σ H sI s h) (w : wMix X.K Wo D l cls d σ H) :
    wpAny (model X.prog X.w) X.A (handleBy (.ref a) X.env hds) (SP X pins D) X.xe { s with heap := h } := by
  have ok : X.Ok := g.inv.ok
  induction hh with
  | nil => exact g.on hs hf tk w
  | @bare x c ts b su np ps hs2 l2 hc hu r ih =>
    obtain ⟨v, e, yes, no⟩ := w
    refine g.test hf hc e (fun hv => ?_) fun hv => ih (no hv)
    refine codeAny_handlers_suite (HandSPX.lands_againZ g.fl fun h4 fl4 u4 => ?_)
    have g4 : Down X pins a B cls d σ H sI s h4 := ⟨g.inv, g.nb, g.up.trans u4, fl4, g.na, g.os, g.ag⟩
    obtain ⟨oe, he, hz, hd, S⟩ := g4.suite hf
    refine wpAny_mono ((hu a oe cls d (X.pn ++ pins) hz hd).run [] _ _ H _ S (yes hv a g.na)) (fun f s6 q => ?_) fun _ _ z => z.elim
    cases f <;> (first | (obtain ⟨σ6, H6, S6, q6⟩ := q; exact ⟨_, _, S6.unsuite ok, q6⟩) | (obtain ⟨v6, σ6, H6, S6, r6, q6⟩ := q; exact ⟨_, _, _, S6.unsuite ok, r6, q6⟩))
  | @named x n i c ts b su np ps hs2 l2 hc hi hl hu r ih =>
    obtain ⟨v, e, yes, no⟩ := w
    refine g.test hf hc e (fun hv => ?_) fun hv => ih (no hv)
    refine codeAny_handlers_suite_as (HandSPX.lands_againZ g.fl fun h4 fl4 u4 => ?_)
    have g4 : Down X pins a B cls d σ H sI s h4 := ⟨g.inv, g.nb, g.up.trans u4, fl4, g.na, g.os, g.ag⟩
    obtain ⟨oe, he, hz, hd, S⟩ := g4.suite hf
    refine store_ok (X := X.suite a ((a, oe) :: (X.pn ++ pins))) (v := .ref a) S hN hi (.inl hl) rfl (fun s5 S5 => ?_) (.inr hl)
    refine wpAny_mono ((hu a oe cls d (X.pn ++ pins) hz hd).run [] s5 _ H _ S5 (yes hv a g.na)) (fun f s6 q => ?_) fun _ _ z => z.elim
    have gone : ∀ {σ6 : St} {H6 : Hp} {Q : Shared → Prop}, Inv (X.suite a ((a, oe) :: (X.pn ++ pins))) [] σ6 H6 s6 → (∀ s7, Inv X pins (σ6.set i none) H6 s7 → Q s7) →
        wpAny (model X.prog X.w) X.A (do bindName X.env n .none; unbindBehindTheSuite X.env n ps) (fun _ s7 => Q s7) X.xe s6 := fun {_ _ _} S6 k => gone_ok (S6.unsuite ok) hN hi hl k
    cases f <;> (first | (obtain ⟨σ6, H6, S6, q6⟩ := q; exact gone S6 fun s7 J7 => ⟨_, _, J7, q6⟩) | (obtain ⟨v6, σ6, H6, S6, r6, q6⟩ := q; exact gone S6 fun s7 J7 => ⟨_, _, _, J7, r6, q6⟩))
theorem ps_try_mix {body : List Stmt} {h0 : ExceptHandler} {hds : List ExceptHandler} {l : List HdT} {pos : Pos} {tb : L2.WX → TS} (hs : X.stack = X.env :: X.outer) (hf : X.env.frame = some X.env.locals) (hN : X.N.Nodup) (tk : Takes X Wo)
    (hb : ∀ (W : L2.WX) (pn : List (Addr × Obj)) (xe : Value → Shared → Prop), Takes (X.tr pn xe) W → PassesOwn (model X.prog X.w) X.A X.env xe → PSs (X.tr pn xe) body (tb W)) (hh : HdsX X (h0 :: hds) l) :
    PS X (.Try body (h0 :: hds) [] [] pos) (fun D σ H => tb (wMix X.K Wo D l) D σ H) := by
  refine ⟨fun pins s σ H D I w => ?_⟩
  have hfr : X.A.frames = some (X.env :: X.outer) := by rw [I.ok.frames, hs]
  obtain ⟨xe, hxe⟩ : ∃ xe : Value → Shared → Prop, xe = fun e s1 => wpAny (model X.prog X.w) X.A (noteFrame e X.env) (fun _ s2 => wpAny (model X.prog X.w) X.A (setFlight e none) (fun _ s3 =>
    wpAny (model X.prog X.w) X.A (handleBy e X.env (h0 :: hds)) (SP X pins D) X.xe s3) X.xe s2) X.xe s1 := ⟨_, rfl⟩
  have tk2 : Takes (X.tr (X.pn ++ pins) xe) (wMix X.K Wo D l) := fun u s2 xx => by
    obtain ⟨a, B, sI, pins2, σ2, H2, cls, d, rfl, J2, nb, up, sky, na, os, ag, w2⟩ := xx
    show xe (.ref a) s2
    rw [hxe]
    have sky2 : Sky B (X.env :: X.outer) a (Zc cls d) X.env.locals s2.heap := by rw [← hs]; exact sky
    exact Sky.land Zc.steady hfr hf sky2 fun h3 fl3 up3 => clauses hs hf hN tk hh ⟨J2.ofTry I.ok, nb, up.trans up3, fl3, na, os, ag⟩ w2
  have pw : PassesOwn (model X.prog X.w) X.A X.env xe := by rw [hxe]; exact PassesOwn.looking
  refine wpAny_Try_except (wpAny_mono ((hb _ (X.pn ++ pins) xe tk2 pw).run [] s σ H D (I.toTry _) w) (fun f s1 q => ?_) fun e s1 he => ?_)
  · cases f with
    | next =>
      obtain ⟨σ1, H1, J1, q1⟩ := q
      exact wpAny_execs_nil ⟨_, _, J1.ofTry I.ok, q1⟩
    | ret u =>
      obtain ⟨v1, σ1, H1, J1, r1, q1⟩ := q
      exact ⟨_, _, _, J1.ofTry I.ok, r1, q1⟩
    | brk =>
      obtain ⟨σ1, H1, J1, q1⟩ := q
      exact ⟨_, _, J1.ofTry I.ok, q1⟩
    | cont =>
      obtain ⟨σ1, H1, J1, q1⟩ := q
      exact ⟨_, _, J1.ofTry I.ok, q1⟩
  · have he : xe e s1 := he
    rw [hxe] at he
    exact he
end
end PD
namespace PD
open PySem PySem.Spec PyProof.Rows L2
variable {K : PySem.W.Frag} {mg : MG}
/-! ### try, as a reading -/
abbrev HFn := Exc → Ev → Store → Res W
structure HRow where
  cls : Str
  slot : Option Nat
  fn : HFn
def hEnv (o : Option Nat) (env : Ev) : Ev := match o with
  | none => env
  | some i => env.set i none
def kinOf (exs : List ExcRow) (x c : Str) : Option Bool := match exs.find? fun r => r.cls == x with
  | some r => r.kin.lookup c
  | none => none
def slotOk (o : Option Nat) (env : Ev) : Bool := match o with
  | none => true
  | some i => decide (i < env.length)
def hRun (exs : List ExcRow) : List HRow → Exc → Ev → Store → SRes
  | [], x, env, M => .err x env M
  | h :: r, x, env, M => match kinOf exs x.cls h.cls with
    | some true => if slotOk h.slot env = true then (match h.fn x (hEnv h.slot env) M with
      | .ok w M' => .ret w M'
      | _ => .bad) else .bad
    | some false => hRun exs r x env M
    | none => .bad
def sTry (exs : List ExcRow) (fb : DS) (hs : List HRow) : DS := fun env M => match fb env M with
  | .err x env1 M1 => hRun exs hs x env1 M1
  | r => r
def rdH (K : PySem.W.Frag) (mg : MG) (a : Addr) (cls : Value) (d : Option Addr) (o : Option Nat) (f : HFn) (σ : St) (H : Hp) (Q : VK) : Prop :=
  ∃ F ρ M env x, Rel K mg F ρ M H ∧ RepS K mg F ρ σ env ∧ (∀ i, o = some i → σ[i]? = some (some (.ref a))) ∧ RepX K mg F H cls d x ∧ RPostF K mg F ρ H (f x env M) Q (fun _ _ _ => False)
structure HKn (K : PySem.W.Frag) (mg : MG) (a : Addr) (cls : Value) (d : Option Addr) (o : Option Nat) (σ : St) (H : Hp) (F : Hp) (ρ : List Addr) (M : Store) (env : Ev) (x : Exc) : Prop where
  R : Rel K mg F ρ M H
  S : RepS K mg F ρ σ env
  at_ : ∀ i, o = some i → σ[i]? = some (some (.ref a))
  X : RepX K mg F H cls d x
/-- an atom of a suite: a constant, what the error holds -/
abbrev HAt := Exc → Option D
structure PHX (C : Ctx) (o : Option Nat) (e : Expr) (f : HAt) : Prop where
  run : ∀ (X : Cx) (a : Addr) (oe : Obj) (pn : List (Addr × Obj)) (cls : Value) (d : Option Addr), Good C X → Zc cls d oe → (∃ vs, oe.data = .fields vs) →
    PE (X.suite a ((a, oe) :: pn)) e (fun σ H Q => ∃ F ρ M env x y, HKn X.K X.mg a cls d o σ H F ρ M env x ∧ f x = some y ∧ ∀ v, Rep X.K X.mg F v y → Q v H)
abbrev HAs := Exc → Option (List D)
structure PHA (C : Ctx) (o : Option Nat) (es : List Expr) (f : HAs) : Prop where
  run : ∀ (X : Cx) (a : Addr) (oe : Obj) (pn : List (Addr × Obj)) (cls : Value) (d : Option Addr), Good C X → Zc cls d oe → (∃ vs, oe.data = .fields vs) →
    PA (X.suite a ((a, oe) :: pn)) es (fun σ H Q => ∃ F ρ M env x ys, HKn X.K X.mg a cls d o σ H F ρ M env x ∧ f x = some ys ∧ ∀ vs, Reps X.K X.mg F vs ys → Q vs H)
/-- an expression of a suite -/
structure PHE (C : Ctx) (o : Option Nat) (e : Expr) (f : HFn) : Prop where
  run : ∀ (X : Cx) (a : Addr) (oe : Obj) (pn : List (Addr × Obj)) (cls : Value) (d : Option Addr), Good C X → Zc cls d oe → (∃ vs, oe.data = .fields vs) → PE (X.suite a ((a, oe) :: pn)) e (rdH X.K X.mg a cls d o f)
structure PHd (C : Ctx) (o : Option Nat) (sts : List Stmt) (f : HFn) : Prop where
  run : ∀ (X : Cx) (a : Addr) (oe : Obj) (pn : List (Addr × Obj)) (cls : Value) (d : Option Addr), Good C X → Zc cls d oe → (∃ vs, oe.data = .fields vs) → PSs (X.suite a ((a, oe) :: pn)) sts (fun D σ H => rdH X.K X.mg a cls d o f σ H D.rt)
section
variable {C : Ctx} {o : Option Nat} {pos p : Pos} {e : Expr} {es : List Expr} {f : HFn} {fa : HAt} {fs : HAs} {sts : List Stmt}
def hBad : HFn := fun _ _ _ => .bad
theorem ph_bad : PHd C o sts hBad := ⟨fun _ _ _ _ _ _ _ _ _ => ⟨fun _ _ _ _ _ _ ⟨_, _, _, _, _, _, _, _, _, z⟩ => z.elim⟩⟩
theorem ph_ret (h : PHE C o e f) : PHd C o [.Return (some e) pos] f := ⟨fun X a oe pn cls d G hz hd => pss_one (ps_ret (h.run X a oe pn cls d G hz hd))⟩
/-- a constant -/
def hK (x : D) : HAt := fun _ => some x
theorem phx_str {x : Str} {j : Nat} : PHX C o (.Constant (.str x) j pos) (hK (.str x)) := ⟨fun X a oe pn cls d G hz hd => PE_imp pe_str fun σ H Q ⟨F, ρ, M, env, x, y, _, e, q⟩ => by cases e; exact q _ (Rep.str _)⟩
theorem phx_non {j : Nat} : PHX C o (.Constant .none j pos) (hK .non) := ⟨fun X a oe pn cls d G hz hd => PE_imp L2.pe_non fun σ H Q ⟨F, ρ, M, env, x, y, _, e, q⟩ => by cases e; exact q _ Rep.non⟩
/-- what the error holds -/
def hFld (exs : List ExcRow) (g : Str) : HAt := fun x => if (exs.any fun r => r.cls == x.cls && r.fld == g) = true then x.fs.lookup g else none
theorem lookup_rep {F : Hp} {g : Str} {dv : D} : ∀ {fs : List (Str × V)} {ds : List (Str × D)}, Paired (fun (p : Str × V) (q : Str × D) => p.1 = q.1 ∧ Rep K mg F p.2 q.2) fs ds → ds.lookup g = some dv → ∃ v, fs.lookup g = some v ∧ Rep K mg F v dv
  | _, _, .nil, h => by cases h
  | (p1, p2) :: _, (q1, q2) :: _, .cons h t, e => by
    obtain ⟨h1, h2⟩ := h
    simp only at h1 h2
    subst h1
    rw [List.lookup_cons] at e ⊢
    cases c : g == p1 with
    | true =>
      rw [c] at e
      cases e
      exact ⟨p2, rfl, h2⟩
    | false =>
      rw [c] at e
      exact lookup_rep t e
theorem phx_fld {i : Nat} {n g : Str} {apos : Pos} (hN : C.N[i]? = some n) (hv : visB C.sc n = true)
    (hb : ∀ env : Env, attributeBase (.Name n p) g env (eval (.Name n p) env) = eval (.Name n p) env := by intro _; rfl) (h0 : (g == ("" : Str)) = false := by decide +kernel) : PHX C (some i) (.Attribute (.Name n p) g apos) (hFld C.exs g) := by
  refine ⟨fun X a oe pn cls d G hz hd => ⟨fun pins s σ H Q I ⟨F, ρ, M, env, x, y, hk, e, q⟩ => ?_⟩⟩
  obtain ⟨R, S, hs, ⟨⟨CC, m1, rfl⟩, hx⟩⟩ := hk
  unfold hFld at e
  split at e
  · rename_i c
    obtain ⟨r, hr, c2⟩ := List.any_eq_true.mp c
    rw [Bool.and_eq_true] at c2
    have e1 : r.cls = x.cls := by simpa using c2.1
    have e2 : r.fld = g := by simpa using c2.2
    obtain ⟨C2, h1, hO, _, hy, hk⟩ := (G.exs r hr).ex
    obtain ⟨fI, fd, hX, hI, hT, hF, hB, hn⟩ := hy (by rw [e2]; exact h0)
    rw [e1, m1] at h1
    cases h1
    rw [e2] at hn
    obtain ⟨v1, v2, v3⟩ := visB_vis hv
    have pv := pe_var (X := X.suite a ((a, oe) :: pn)) (i := i) (x := n) (pos := p) (by rw [show (X.suite a ((a, oe) :: pn)).N = C.N from G.N]; exact hN) (by rw [show (X.suite a ((a, oe) :: pn)).env.scope = C.sc from G.sc]; exact v1) v2 v3
    refine (pe_xf hX hn hz hd pv (hb _)).run pins s σ H Q I ⟨.ref a, hs i rfl, rfl, rfl, ?_⟩
    rcases hx with ⟨e4, _⟩ | ⟨dd, fs, e5, e6, e7⟩
    · rw [e4] at e; cases e
    · obtain ⟨v, e8, e9⟩ := lookup_rep e7 e
      exact ⟨dd, fs, v, e5, e6, e8, q v e9⟩
  · cases e
def hNil : HAs := fun _ => some []
def hCons (f : HAt) (g : HAs) : HAs := fun x => match f x, g x with
  | some y, some ys => some (y :: ys)
  | _, _ => none
theorem pha_nil : PHA C o [] hNil := ⟨fun X a oe pn cls d G hz hd => PA_imp L2.pa_nil fun σ H Q ⟨F, ρ, M, env, x, ys, _, e, q⟩ => by cases e; exact q [] .nil⟩
theorem pha_cons (h : PHX C o e fa) (t : PHA C o es fs) (hs : ∀ env, starEach (e :: es) env = (false, eval e env) :: starEach es env := by intro _; rfl) : PHA C o (e :: es) (hCons fa fs) := by
  refine ⟨fun X a oe pn cls d G hz hd => PA_imp (L2.pa_cons (h.run X a oe pn cls d G hz hd) (t.run X a oe pn cls d G hz hd) (hs _)) fun σ H Q ⟨F, ρ, M, env, x, ys, k, e, q⟩ => ?_⟩
  unfold hCons at e
  split at e
  · rename_i y zs e1 e2
    cases e
    exact ⟨F, ρ, M, env, x, y, k, e1, fun v hv => ⟨F, ρ, M, env, x, zs, k, e2, fun vs hvs => q _ (.cons hv hvs)⟩⟩
  · cases e
/-- a list display, a tuple display -/
def hLst (f : HAs) : HFn := fun x _ M => match f x with
  | some ds => if ds.length ≤ LIM then .ok (.d (.lst ds)) M else .bad
  | none => .bad
def hTup (f : HAs) : HFn := fun x _ M => match f x with
  | some ds => if ds.length ≤ LIM then .ok (.d (.tup ds)) M else .bad
  | none => .bad
theorem phe_lst (h : PHA C o es fs) : PHE C o (.List es pos) (hLst fs) := by
  refine ⟨fun X a oe pn cls d G hz hd => PE_imp (L2.pe_lst (h.run X a oe pn cls d G hz hd)) fun σ H Q ⟨F, ρ, M, env, x, R, S, at_, hx, q⟩ => ?_⟩
  unfold hLst at q
  split at q
  · rename_i ds e
    split at q
    · rename_i hl
      refine ⟨F, ρ, M, env, x, ds, ⟨R, S, at_, hx⟩, e, fun vs hvs => ⟨by rw [Reps.length hvs]; exact hl, fun p hp => ?_⟩⟩
      obtain ⟨y1, y2, y3⟩ := R.lst hp hvs
      exact q _ ρ _ _ y1 y2 y3
    · exact q.elim
  · exact q.elim
theorem phe_tup {x1 : Nat} (h : PHA C o es fs) : PHE C o (.Tuple es x1 pos) (hTup fs) := by
  refine ⟨fun X a oe pn cls d G hz hd => PE_imp (L2.pe_tup (h.run X a oe pn cls d G hz hd)) fun σ H Q ⟨F, ρ, M, env, x, R, S, at_, hx, q⟩ => ?_⟩
  unfold hTup at q
  split at q
  · rename_i ds e
    split at q
    · rename_i hl
      refine ⟨F, ρ, M, env, x, ds, ⟨R, S, at_, hx⟩, e, fun vs hvs => ⟨by rw [Reps.length hvs]; exact hl, fun p hp => ?_⟩⟩
      obtain ⟨y1, y2, y3⟩ := R.tup hp hvs
      exact q _ ρ _ _ y1 y2 y3
    · exact q.elim
  · exact q.elim
end
/-! ### the statement -/
theorem Good.tr {C : Ctx} {X : Cx} (G : Good C X) (pn : List (Addr × Obj)) (xe : Value → Shared → Prop) (h : PassesOwn (model X.prog X.w) X.A X.env xe) : Good C (X.tr pn xe) where
  N := G.N
  nd := G.nd
  sc := G.sc
  fnc := G.fnc
  calm := G.calm
  room := G.room
  pown := h
  fns := fun i x ps R e => ⟨(G.fns i x ps R e).ex⟩
  cns := G.cns
  blt := G.blt
  hof := fun x ps R e => ⟨(G.hof x ps R e).ex⟩
  exs := G.exs
  top := G.top
  bfn := G.bfn
def kinB (C : Ctx) (x : Str) : Bool := C.exs.any fun r => (r.kin.lookup x).isSome
/-- the clauses of a try, read -/
inductive PDHs (C : Ctx) : List ExceptHandler → List HRow → Prop
  | nil : PDHs C [] []
  | bare {x : Str} {f : HFn} {b : Stmt} {su : List Stmt} {np ps : Pos} {hs : List ExceptHandler} {l : List HRow} (hg : glB C.sc x = true) (hk : kinB C x = true) (h : PHd C none (b :: su) f) (r : PDHs C hs l) : PDHs C (.ExceptHandler (some (.Name x np)) none (b :: su) ps :: hs) (⟨x, none, f⟩ :: l)
  | named {x n : Str} {i : Nat} {f : HFn} {b : Stmt} {su : List Stmt} {np ps : Pos} {hs : List ExceptHandler} {l : List HRow} (hg : glB C.sc x = true) (hk : kinB C x = true) (hi : C.N[i]? = some n) (hl : C.sc.names.lookup n = some .local) (h : PHd C (some i) (b :: su) f) (r : PDHs C hs l) :
      PDHs C (.ExceptHandler (some (.Name x np)) (some n) (b :: su) ps :: hs) (⟨x, some i, f⟩ :: l)
/-- the rows of both lists -/
inductive HRel (X : Cx) : List HRow → List HdT → Prop
  | nil : HRel X [] []
  | cons {r : HRow} {c : Value} {l : List HRow} {l2 : List HdT} (h : X.mg r.cls = some c) (t : HRel X l l2) : HRel X (r :: l) ((c, r.slot, fun a cls d D σ H => rdH X.K X.mg a cls d r.slot r.fn σ H D.rt) :: l2)
theorem lookup_mem {α : Type} {x : Str} {b : α} : ∀ {l : List (Str × α)}, l.lookup x = some b → (x, b) ∈ l
  | [], h => by cases h
  | (y, c) :: l, h => by
    rw [List.lookup_cons] at h
    cases e : x == y with
    | true =>
      rw [e] at h
      cases h
      have : x = y := by simpa using e
      rw [this]; simp
    | false =>
      rw [e] at h
      exact List.mem_cons_of_mem _ (lookup_mem h)
theorem kin_name {C : Ctx} {X : Cx} (G : Good C X) {x : Str} (h : kinB C x = true) (hg : glB C.sc x = true) : ∃ c : Addr, X.mg x = some (.ref c) ∧ Names X x (.ref c) := by
  obtain ⟨r, hr, hl⟩ := List.any_eq_true.mp h
  obtain ⟨b, hb⟩ := Option.isSome_iff_exists.mp hl
  obtain ⟨C2, h1, hO, _, _, hk⟩ := (G.exs r hr).ex
  obtain ⟨c, m, _⟩ := hk _ (lookup_mem hb)
  obtain ⟨g1, g2, g3⟩ := glB_gl (X := X) (x := x) (by rw [G.sc]; exact hg)
  exact ⟨c, m, g1, g2, .inl m⟩
theorem hds_of {C : Ctx} {X : Cx} (G : Good C X) {hds : List ExceptHandler} {l : List HRow} (h : PDHs C hds l) : ∃ l2, HdsX X hds l2 ∧ HRel X l l2 := by
  induction h with
  | nil => exact ⟨[], .nil, .nil⟩
  | bare hg hk h r ih =>
    obtain ⟨l2, i1, i2⟩ := ih
    obtain ⟨c, m, nm⟩ := kin_name G hk hg
    exact ⟨_, .bare nm (fun a oe cls d pn hz hd => h.run X a oe pn cls d G hz hd) i1, .cons (r := ⟨_, none, _⟩) m i2⟩
  | @named x n i f b su np ps hs l hg hk hi hl h r ih =>
    obtain ⟨l2, i1, i2⟩ := ih
    obtain ⟨c, m, nm⟩ := kin_name G hk hg
    exact ⟨_, .named nm (by rw [G.N]; exact hi) (by show X.env.scope.names.lookup n = some .local; rw [G.sc]; exact hl) (fun a oe cls d pn hz hd => h.run X a oe pn cls d G hz hd) i1, .cons (r := ⟨x, some i, f⟩) m i2⟩
theorem RepS.slot {F : Hp} {ρ : List Addr} {σ : St} {env : Ev} (h : RepS K mg F ρ σ env) (o : Option Nat) (a : Addr) : RepS K mg F ρ (slotAt o a σ) (hEnv o env) := by
  cases o with
  | none => exact h
  | some i =>
    refine ⟨by simp [slotAt, hEnv, h.1], fun j w e => ?_⟩
    simp only [hEnv] at e
    by_cases hj : i = j
    · subst hj
      rw [List.getElem?_set] at e
      simp at e
    · rw [List.getElem?_set_ne hj] at e
      obtain ⟨v, e1, e2⟩ := h.2 j w e
      exact ⟨v, by simp only [slotAt]; rw [List.getElem?_set_ne hj]; exact e1, e2⟩
theorem hrun_post {C : Ctx} {X : Cx} (G : Good C X) {D : Ends} {Wx : L2.WX} {F : Hp} {ρ : List Addr} {σ : St} {H : Hp} {M : Store} {env : Ev} {x : Exc} {c : Value} {d : Option Addr} (R : Rel X.K X.mg F ρ M H) (S : RepS X.K X.mg F ρ σ env) (hx : RepX X.K X.mg F H c d x) :
    ∀ {l : List HRow} {l2 : List HdT}, HRel X l l2 → SPost X.K X.mg F ρ H (hRun C.exs l x env M) D Wx → wMix X.K Wx D l2 c d σ H
  | _, _, .nil, p => p F ρ σ H c d .refl R S hx
  | _, _, .cons (r := r) (c := cv) m t, p => by
    unfold hRun at p
    cases ek : kinOf C.exs x.cls r.cls with
    | none => rw [ek] at p; exact p.elim
    | some b =>
      rw [ek] at p
      unfold kinOf at ek
      split at ek
      · rename_i er e1
        have hr := List.mem_of_find?_eq_some e1
        have ec : er.cls = x.cls := by simpa using List.find?_some e1
        obtain ⟨C2, h1, hO, _, _, hk⟩ := (G.exs er hr).ex
        obtain ⟨c2, m2, ex⟩ := hk _ (lookup_mem ek)
        obtain ⟨⟨C3, m3, ecl⟩, _⟩ := id hx
        rw [ec, m3] at h1
        cases h1
        rw [m] at m2
        cases m2
        refine ⟨b, by rw [ecl]; exact ex, fun hb a ha => ?_, fun hb => ?_⟩
        · subst hb
          simp only at p
          split at p
          · rename_i so
            refine ⟨F, ρ, M, hEnv r.slot env, x, R, S.slot _ a, fun i hi => ?_, hx, ?_⟩
            · rw [hi] at so
              have so : i < env.length := by simpa [slotOk] using so
              rw [hi]
              simp only [slotAt]
              rw [List.getElem?_set_self (by rw [S.1]; exact so)]
            · have er : (endsAt r.slot D).rt = D.rt := by cases r.slot <;> rfl
              rw [er]
              cases ef : r.fn x (hEnv r.slot env) M with
              | ok w M' => rw [ef] at p; exact p
              | err y M' => rw [ef] at p; exact p.elim
              | bad => rw [ef] at p; exact p.elim
          · exact p.elim
        · subst hb
          exact hrun_post G R S hx t p
      · cases ek
theorem ps_try {C : Ctx} {body : List Stmt} {h0 : ExceptHandler} {hds : List ExceptHandler} {l : List HRow} {pos : Pos} {fb : DS} (top : C.top = true) (hb : PDB C body fb) (hh : PDHs C (h0 :: hds) l) : PDS C (.Try body (h0 :: hds) [] [] pos) (sTry C.exs fb l) := by
  refine ⟨fun X Wx G tk => ?_⟩
  obtain ⟨t1, t2⟩ := G.top top
  obtain ⟨l2, i1, i2⟩ := hds_of G hh
  refine PS_imp (ps_try_mix (tb := fun W => rdS X.K X.mg W fb) t1 t2 (by rw [G.N]; exact G.nd) tk (fun W pn xe tk2 po => hb.run (X.tr pn xe) W (G.tr pn xe po) tk2) i1) fun D σ H ⟨F, ρ, M, env, R, S, p⟩ => ⟨F, ρ, M, env, R, S, ?_⟩
  unfold sTry at p
  cases e : fb env M with
  | err x env1 M1 =>
    rw [e] at p
    exact fun F2 ρ2 σ2 H2 c d y R2 S2 hx => hrun_post G R2 S2 hx i2 (SPost.mono y p)
  | nx env1 M1 => rw [e] at p; exact p
  | ret w M1 => rw [e] at p; exact p
  | bk env1 M1 => rw [e] at p; exact p
  | ct env1 M1 => rw [e] at p; exact p
  | bad => rw [e] at p; exact p.elim
end PD
namespace PD
open PySem PySem.Spec PyProof.Rows L2
variable {K : PySem.W.Frag} {mg : MG}
/-! ### own classes stand -/
inductive KinOk (mg : MG) (K : PySem.W.Frag) (C : Addr) : List (Str × Bool) → Prop
  | nil : KinOk mg K C []
  | cons {x : Str} {b : Bool} {c : Addr} {l : List (Str × Bool)} (h : mg x = some (.ref c)) (e : PySem.W.exmOne K (.ref C) (.ref c) = some b) (t : KinOk mg K C l) : KinOk mg K C ((x, b) :: l)
theorem KinOk.at {C : Addr} : ∀ {l : List (Str × Bool)}, KinOk mg K C l → ∀ q ∈ l, ∃ c : Addr, mg q.1 = some (.ref c) ∧ PySem.W.exmOne K (.ref C) (.ref c) = some q.2
  | _, .nil, _, h => nomatch h
  | _, .cons h e t, q, m => by
    rcases List.mem_cons.mp m with z | z
    · rw [z]; exact ⟨_, h, e⟩
    · exact t.at q z
theorem exm_of {S T : Addr} {b : Bool} (h1 : PySem.W.subIn K (.ref T) (.type "BaseException") = some true) (h2 : PySem.W.isClsIn K T = true) (h3 : PySem.W.typeIn K (.ref T) = some (.type "type")) (h4 : PySem.W.subIn K (.ref S) (.ref T) = some b) : PySem.W.exmOne K (.ref S) (.ref T) = some b := by
  have i1 : (PySem.W.clsIn K T).isSome = true := h2
  have i2 : ((PySem.W.clsIn K T).isSome && PySem.W.typeIn K (.ref T) == some (.type "type")) = true := by rw [i1, h3]; rfl
  unfold PySem.W.exmOne
  rw [h1, if_pos (by simp)]
  exact (if_pos i2).trans h4
theorem exc_mk {P : Program} {w : World} {base : Heap} {k : Nat} {r : ExcRow} {C fI : Addr} {fd : FuncData} {q : Str} {st : Stmt} {p1 p2 p3 p4 : Pos} (hm : mg r.cls = some (.ref C)) (T : OexC K C) (X : XfC K C)
    (h0 : (r.fld == ("" : Str)) = false) (iC : PySem.W.findIn K (.ref C) "__init__" = some (some (.ref fI))) (tI : PySem.W.typeIn K (.ref fI) = some (.type "function")) (F : Fun K "__init__" q st fI fd) (Sc : FnScope [("self" : Str), r.fld] [("self" : Str), r.fld] (defScope st))
    (hb : defBody st = [.Assign [.Attribute (.Name "self" p1) r.fld p2] (.Name r.fld p3) p4]) (v1 : visB (defScope st) "self" = true) (v2 : visB (defScope st) r.fld = true) (hno : PySem.W.findIn K (.ref C) r.fld = some none) (kb : KB [("self" : Str), r.fld] 2 [] [])
    (hst : ((defArgs st).args.map (·.arg) = [("self" : Str), r.fld] ∧ (defArgs st).posonlyargs = [] ∧ (defArgs st).kwonlyargs = []) ∧ (defArgs st).vararg = none ∧ (defArgs st).kwarg = none) (kin : KinOk mg K C r.kin) : ExcOk P w K mg base (k + 1) r := by
  obtain ⟨⟨a1, a2, a3⟩, a5, a6⟩ := hst
  obtain ⟨oc, od, kV, doc, pm, an, cdv, ct, osl, e, lk, hcd⟩ := F.ex
  have pl : PlainPs fd [("self" : Str), r.fld] := by subst e; exact ⟨a1, a2, a3, a5, a6, rfl⟩
  exact ⟨C, hm, T, fun e => (by rw [h0] at e; cases e), fun _ => ⟨fI, fd, X, iC, tI, init_fn F Sc hb v1 v2 T hno, binds_of kb pl, hno⟩, kin.at⟩
theorem exc_mk0 {P : Program} {w : World} {base : Heap} {k : Nat} {r : ExcRow} {C : Addr} (h0 : (r.fld == ("" : Str)) = true) (hm : mg r.cls = some (.ref C)) (T : OexC K C) (q : PySem.W.excIn K C bmVE "ValueError.__new__" = true) (kin : KinOk mg K C r.kin) : ExcOk P w K mg base (k + 1) r :=
  ⟨C, hm, T, fun _ => q, fun e => (by rw [h0] at e; cases e), kin.at⟩
theorem keep_fn {f : Addr} {oc : Value} {od : Option Addr} {fd : FuncData} {sl : Array (Option Value)} (l : K.lookup f = some ⟨oc, od, .func fd, sl⟩) : PySem.W.keepIn K (.ref f) = true := by
  unfold PySem.W.keepIn
  simp only [l]
end PD
namespace PD
open PySem PySem.Spec PyProof.Rows L2
/-! words compared, a row among rows of a tuple, one row put in, one taken out -/
theorem eqD_str {a b : Str} (ha : PyData.strOk a = true) (hb : PyData.strOk b = true) : eqD (.str a) (.str b) = some (a == b) := by
  unfold eqD; simp only [toPy]; rw [if_pos (by constructor <;> simp [SeqAt.shaped, PyData.canLay0, PyData.depth, ha, hb])]; rfl
theorem eqD_same {a : Str} (ha : PyData.strOk a = true) : eqD (.str a) (.str a) = some true := by rw [eqD_str ha ha]; simp
theorem inD_rowsT (a : List Int) (rs : List (List Int)) : inD (rowD a) (.tup (rs.map rowD)) = some (decide (a ∈ rs)) := by
  unfold inD
  rw [toPy_row]
  have e : toPy (.tup (rs.map rowD)) = some (.tuple (rs.map fun r => .tuple (r.map .int))) := by
    simp only [toPy, toPys_rows, Option.map_some]
  have sh : SeqAt.shaped (.tuple (rs.map fun r => .tuple (r.map .int))) = true := shaped_rows rs
  rw [e]
  simp only []
  rw [if_pos ⟨shaped_tup a, sh⟩, any_rows]
theorem eqD_rows_nil (ls : List (List Int)) (hl : ls.length ≤ 16777216) : eqD (.lst (ls.map rowD)) (.lst []) = some ls.isEmpty := by
  unfold eqD
  have e : toPy (.lst (ls.map rowD)) = some (.list (ls.map fun r => .tuple (r.map .int))) := by
    simp only [toPy, toPys_rows, Option.map_some]
  rw [e]
  show (if SeqAt.shaped (.list (ls.map fun r => .tuple (r.map .int))) = true ∧ SeqAt.shaped (.list []) = true then some (PyData.eqv (.list (ls.map fun r => .tuple (r.map .int))) (.list [])) else none) = some ls.isEmpty
  rw [if_pos ⟨shaped_rows ls, rfl⟩]
  cases ls <;> rfl
def Strict (l : List (List Int)) : Prop := l.Pairwise fun a b => HT.lexLt a b = true
theorem strict_nodup {l : List (List Int)} (h : Strict l) : l.Nodup := List.Pairwise.imp (fun {a b} q e => by
  rw [e, lex_irr] at q; cases q) h
theorem up_strict : ∀ {l : List (List Int)}, Up l → l.Nodup → Strict l
  | [], _, _ => .nil
  | x :: r, h, n => by
    obtain ⟨h1, h2⟩ := List.pairwise_cons.mp h
    obtain ⟨n1, n2⟩ := List.nodup_cons.mp n
    exact List.pairwise_cons.mpr ⟨fun y hy => lex_tot (fun e => n1 (e ▸ hy)) (h1 y hy), up_strict h2 n2⟩
/-! one row more, in order; one row fewer -/
def addR (rs : List (List Int)) (p : List Int) : List (List Int) := srtR (rs ++ [p])
def delR (rs : List (List Int)) (p : List Int) : List (List Int) := rs.filter fun r => !decide (r = p)
theorem addR_mem {rs : List (List Int)} {p z : List Int} : z ∈ addR rs p ↔ z ∈ rs ∨ z = p := by
  unfold addR
  rw [(srtR_perm _).mem_iff, List.mem_append, List.mem_singleton]
theorem addR_len (rs : List (List Int)) (p : List Int) : (addR rs p).length = rs.length + 1 := by
  unfold addR
  rw [(srtR_perm _).length_eq, List.length_append]; rfl
theorem addR_strict {rs : List (List Int)} {p : List Int} (h : Strict rs) (hp : p ∉ rs) : Strict (addR rs p) :=
  up_strict (srtR_up _) ((srtR_perm _).nodup_iff.mpr (List.nodup_append.mpr ⟨strict_nodup h, by simp, fun a ha b hb e => hp (by rw [List.mem_singleton] at hb; rw [← hb, ← e]; exact ha)⟩))
theorem delR_mem {rs : List (List Int)} {p z : List Int} : z ∈ delR rs p ↔ z ∈ rs ∧ z ≠ p := by
  unfold delR
  rw [List.mem_filter]; simp
theorem delR_strict {rs : List (List Int)} {p : List Int} (h : Strict rs) : Strict (delR rs p) := List.Pairwise.filter _ h
theorem delR_len (rs : List (List Int)) (p : List Int) : (delR rs p).length ≤ rs.length := List.length_filter_le _ _
theorem del_add {rs : List (List Int)} {p : List Int} (h : Strict rs) (hp : p ∉ rs) : delR (addR rs p) p = rs :=
  sorted_ext (delR_strict (addR_strict h hp)) h fun z => by
    rw [delR_mem, addR_mem]
    constructor
    · rintro ⟨h1 | h1, h2⟩
      · exact h1
      · exact absurd h1 h2
    · intro h1; exact ⟨.inl h1, fun e => hp (e ▸ h1)⟩
theorem add_del {rs : List (List Int)} {p : List Int} (h : Strict rs) (hp : p ∈ rs) : addR (delR rs p) p = rs :=
  sorted_ext (addR_strict (delR_strict h) fun q => (delR_mem.mp q).2 rfl) h fun z => by
    rw [addR_mem, delR_mem]
    constructor
    · rintro (h1 | h1)
      · exact h1.1
      · rw [h1]; exact hp
    · intro h1
      by_cases e : z = p
      · exact .inr e
      · exact .inl ⟨h1, e⟩
end PD
namespace PD
open PySem PySem.Spec PyProof.Rows L2
variable {K : PySem.W.Frag} {mg : MG}
/-! ### [e for a in x if .. for b in y if ..] -/
def comp2L (env0 : Ev) (g : DG) (ft : DT) (fi1 : DL) (vs1 : List Nat) (g1 : DG) (ft1 : DT) (fe : DE) : List D → Store → Res (List D)
  | [], M => .ok [] M
  | d :: r, M => match g (.d d) env0 M with
    | none => .bad
    | some p => match ft p.1 p.2 with
      | .ok true M2 => match fi1 p.1 M2 with
        | .ok ds1 M3 => match compL (wipeE p.1 vs1) g1 ft1 fe ds1 M3 with
          | .ok ys M4 => (comp2L env0 g ft fi1 vs1 g1 ft1 fe r M4).bind fun zs M5 => .ok (ys ++ zs) M5
          | _ => .bad
        | _ => .bad
      | .ok false M2 => comp2L env0 g ft fi1 vs1 g1 ft1 fe r M2
      | _ => .bad
def lComp2 (fi : DL) (vs : List Nat) (g : DG) (ft : DT) (fi1 : DL) (vs1 : List Nat) (g1 : DG) (ft1 : DT) (fe : DE) : DL := fun env M => (fi env M).bind fun ds M1 => match comp2L (wipeE env vs) g ft fi1 vs1 g1 ft1 fe ds M1 with
  | .ok ys M2 => if ys.length ≤ LIM then .ok ys M2 else .bad
  | _ => .bad
theorem bind_ok_ex {α β : Type} {r : Res α} {k : α → Store → Res β} {b : β} {M : Store} (h : r.bind k = .ok b M) : ∃ a M1, r = .ok a M1 ∧ k a M1 = .ok b M := by
  cases r with
  | ok a M1 => exact ⟨a, M1, rfl, h⟩
  | err _ _ => cases h
  | bad => cases h
theorem comp2_read {X : Cx} {Wx : L2.WX} {fi fi1 : DL} {vs vs1 sl sl1 : List Nat} {g g1 : DG} {ft ft1 : DT} {fe : DE} {σ : St} {H : Hp} {Q : VK} (hsl : ∀ i ∈ sl, i ∈ vs) (hsl1 : ∀ i ∈ sl1, i ∈ vs1) (h : rdG X.K X.mg (repL X.K X.mg) Wx (lComp2 fi vs g ft fi1 vs1 g1 ft1 fe) σ H Q) :
    tLc2 (rdG X.K X.mg (repI X.K X.mg) Wx fi) (rdT X.K X.mg sl g) (rdG X.K X.mg repB wX ft) (rdG X.K X.mg (repI X.K X.mg) wX fi1) (rdT X.K X.mg sl1 g1) (rdG X.K X.mg repB wX ft1) (rdG X.K X.mg (repW X.K X.mg) wX fe) vs vs1 σ H Q := by
  obtain ⟨F, ρ, M, env, R, S, p⟩ := h
  refine ⟨F, ρ, M, env, R, S, (RPost.seq p).imp fun J H1 ⟨F1, ρ1, M1, ds, x1, R1, itw, p1⟩ => ?_⟩
  cases ec : comp2L (wipeE env vs) g ft fi1 vs1 g1 ft1 fe ds M1 with
  | bad => simp only [ec] at p1; exact p1.elim
  | err _ _ => simp only [ec] at p1; exact p1.elim
  | ok tot Mend =>
    simp only [ec] at p1
    by_cases hlim : tot.length ≤ LIM
    · rw [if_pos hlim] at p1
      intro Dd hD
      have S1 := (S.ext x1).wipe vs
      refine ⟨fun i m Hc => m = ds.length - i ∧ i ≤ ds.length ∧ ∃ F' ρ' M' acc accD, Ext F1 ρ1 H1 F' ρ' Hc ∧ Rel X.K X.mg F' ρ' M' Hc ∧ F' Dd = none ∧ Dd ∉ ρ' ∧ Hc Dd = some (.lst acc) ∧ Reps X.K X.mg F' acc accD ∧
        (comp2L (wipeE env vs) g ft fi1 vs1 g1 ft1 fe (ds.drop i) M').bind (fun ys M4 => .ok (accD ++ ys) M4) = .ok tot Mend, ⟨ds.length, rfl, Nat.zero_le _, F1, ρ1, M1, [], [], R1.extH hD _, R1.newH hD _, (R1.fresh hD).1, (R1.fresh hD).2, upd_same, .nil, ?_⟩, ?_⟩
      · rw [List.drop_zero, ec]; rfl
      · rintro i m Hc ⟨rfl, hi, F', ρ', M', acc, accD, xE, R', f1, f2, f3, rA, eq⟩
        by_cases hlt : i < ds.length
        · refine .inr ⟨itw.go i Hc hlt (xE.sub.trans R'.sub), fun Hn => ∃ F' ρ' M' acc accD, Ext F1 ρ1 H1 F' ρ' Hn ∧ Rel X.K X.mg F' ρ' M' Hn ∧ F' Dd = none ∧ Dd ∉ ρ' ∧ Hn Dd = some (.lst acc) ∧ Reps X.K X.mg F' acc accD ∧
            (comp2L (wipeE env vs) g ft fi1 vs1 g1 ft1 fe (ds.drop (i + 1)) M').bind (fun ys M4 => .ok (accD ++ ys) M4) = .ok tot Mend, fun Hn r => ⟨ds.length - (i + 1), by omega, rfl, by omega, r⟩, fun x H' hy => ?_⟩
          obtain ⟨F3, d, hd, x3, R3, rd⟩ := itw.yld i Hc x H' hlt (xE.sub.trans R'.sub) hy F' ρ' M' xE.sub R'
          obtain ⟨g1', g2', g3'⟩ := x3.keep f1 f2 f3
          have edrop : ds.drop i = d :: ds.drop (i + 1) := by
            rw [List.drop_eq_getElem_cons hlt]
            rw [List.getElem?_eq_getElem hlt] at hd
            rw [Option.some.inj hd]
          rw [edrop] at eq
          have S3 : RepS X.K X.mg F3 ρ' (wipe σ vs) (wipeE env vs) := (S1.mono (xE.sub.trans x3.sub) xE.pre)
          refine ⟨F3, ρ', M', wipeE env vs, .d d, R3, S3, rd, ?_⟩
          cases eg : g (.d d) (wipeE env vs) M' with
          | none => simp only [comp2L, eg] at eq; cases eq
          | some pr =>
            obtain ⟨env1, M1'⟩ := pr
            simp only [comp2L, eg] at eq
            intro F4 ρ4 σ4 H4 x4 R4 S4 ag
            obtain ⟨k1, k2, k3⟩ := x4.keep g1' g2' g3'
            refine ⟨wipe_agree (ag.mono hsl), ?_⟩
            refine ⟨F4, ρ4, M1', env1, R4, S4, ?_⟩
            cases et : ft env1 M1' with
            | bad => simp only [et] at eq; cases eq
            | err x' M'' => simp only [et] at eq; cases eq
            | ok b M2 =>
              simp only [et] at eq
              intro F5 ρ5 H5 b' x5 R5 hb
              have hb' : b' = b := hb
              subst hb'
              obtain ⟨q1, q2, q3⟩ := x5.keep k1 k2 k3
              have xx := ((xE.trans x3).trans x4).trans x5
              cases b' with
              | false =>
                simp only [if_false, Bool.false_eq_true]
                exact ⟨F5, ρ5, M2, acc, accD, xx, R5, q1, q2, q3, Reps.mono ((x3.trans x4).trans x5).sub rA, eq⟩
              | true =>
                simp only [if_true]
                simp only at eq
                refine ⟨F5, ρ5, M2, env1, R5, S4.ext x5, ?_⟩
                cases ef : fi1 env1 M2 with
                | bad => simp only [ef] at eq; cases eq
                | err x' M'' => simp only [ef] at eq; cases eq
                | ok ds1 M3 =>
                  simp only [ef] at eq
                  intro F6 ρ6 H6 J1 x6 R6 itw1
                  obtain ⟨q1, q2, q3⟩ := x6.keep q1 q2 q3
                  have xx := xx.trans x6
                  have rA6 := Reps.mono ((((x3.trans x4).trans x5).trans x6)).sub rA
                  have S6 := ((S4.ext x5).ext x6).wipe vs1
                  cases e1 : compL (wipeE env1 vs1) g1 ft1 fe ds1 M3 with
                  | bad => simp only [e1] at eq; cases eq
                  | err _ _ => simp only [e1] at eq; cases eq
                  | ok ys1 M4 =>
                    simp only [e1] at eq
                    obtain ⟨zs, M5, eq1, eq2⟩ := bind_ok_ex eq
                    obtain ⟨zs2, M6, eq3, eq4⟩ := bind_ok_ex eq1
                    cases eq4
                    injection eq2 with eq5 eq6
                    subst eq6
                    refine ⟨fun j k Hc => k = ds1.length - j ∧ j ≤ ds1.length ∧ ∃ F' ρ' M' acc accD, Ext F1 ρ1 H1 F' ρ' Hc ∧ Sub F6 F' ∧ ρ6 <+: ρ' ∧ Rel X.K X.mg F' ρ' M' Hc ∧ F' Dd = none ∧ Dd ∉ ρ' ∧ Hc Dd = some (.lst acc) ∧ Reps X.K X.mg F' acc accD ∧
                      ∃ ys2, compL (wipeE env1 vs1) g1 ft1 fe (ds1.drop j) M' = .ok ys2 M4 ∧ accD ++ (ys2 ++ zs2) = tot, ⟨ds1.length, rfl, Nat.zero_le _, F6, ρ6, M3, acc, accD, xx, .refl _, List.prefix_refl _, R6, q1, q2, q3, rA6, ys1, by rw [List.drop_zero]; exact e1, eq5⟩, ?_⟩
                    rintro j k Hi ⟨rfl, hj, F', ρ', M', acc, accD, xE1, s6, p6, R', f1, f2, f3, rA, ys2, eqi, eqt⟩
                    by_cases hlt1 : j < ds1.length
                    · refine .inr ⟨itw1.go j Hi hlt1 (s6.trans R'.sub), fun Hn => ∃ F' ρ' M' acc accD, Ext F1 ρ1 H1 F' ρ' Hn ∧ Sub F6 F' ∧ ρ6 <+: ρ' ∧ Rel X.K X.mg F' ρ' M' Hn ∧ F' Dd = none ∧ Dd ∉ ρ' ∧ Hn Dd = some (.lst acc) ∧ Reps X.K X.mg F' acc accD ∧
                        ∃ ys2, compL (wipeE env1 vs1) g1 ft1 fe (ds1.drop (j + 1)) M' = .ok ys2 M4 ∧ accD ++ (ys2 ++ zs2) = tot, fun Hn r => ⟨ds1.length - (j + 1), by omega, rfl, by omega, r⟩, fun x H' hy => ?_⟩
                      obtain ⟨F7, d, hd, x7, R7, rd⟩ := itw1.yld j Hi x H' hlt1 (s6.trans R'.sub) hy F' ρ' M' s6 R'
                      obtain ⟨u1, u2, u3⟩ := x7.keep f1 f2 f3
                      have edrop : ds1.drop j = d :: ds1.drop (j + 1) := by
                        rw [List.drop_eq_getElem_cons hlt1]
                        rw [List.getElem?_eq_getElem hlt1] at hd
                        rw [Option.some.inj hd]
                      rw [edrop] at eqi
                      have S7 : RepS X.K X.mg F7 ρ' (wipe σ4 vs1) (wipeE env1 vs1) := S6.mono (s6.trans x7.sub) p6
                      refine ⟨F7, ρ', M', wipeE env1 vs1, .d d, R7, S7, rd, ?_⟩
                      cases eg1 : g1 (.d d) (wipeE env1 vs1) M' with
                      | none => simp only [compL, eg1] at eqi; cases eqi
                      | some pr1 =>
                        obtain ⟨env2, M2'⟩ := pr1
                        simp only [compL, eg1] at eqi
                        intro F8 ρ8 σ8 H8 x8 R8 S8 ag1
                        obtain ⟨v1, v2, v3⟩ := x8.keep u1 u2 u3
                        refine ⟨wipe_agree (ag1.mono hsl1), ?_⟩
                        refine ⟨F8, ρ8, M2', env2, R8, S8, ?_⟩
                        cases et1 : ft1 env2 M2' with
                        | bad => simp only [et1] at eqi; cases eqi
                        | err x' M'' => simp only [et1] at eqi; cases eqi
                        | ok b1 M9 =>
                          simp only [et1] at eqi
                          intro F9 ρ9 H9 b1' x9 R9 hb1
                          have hb1' : b1' = b1 := hb1
                          subst hb1'
                          obtain ⟨w1, w2, w3⟩ := x9.keep v1 v2 v3
                          have x79 := (x7.trans x8).trans x9
                          have xx9 := xE1.trans x79
                          cases b1' with
                          | false =>
                            simp only [if_false, Bool.false_eq_true]
                            exact ⟨F9, ρ9, M9, acc, accD, xx9, s6.trans x79.sub, p6.trans x79.pre, R9, w1, w2, w3, Reps.mono x79.sub rA, ys2, eqi, eqt⟩
                          | true =>
                            simp only [if_true]
                            refine ⟨F9, ρ9, M9, env2, R9, S8.ext x9, ?_⟩
                            simp only at eqi
                            cases ee : fe env2 M9 with
                            | bad => simp only [ee] at eqi; cases eqi
                            | err x' M'' => simp only [ee] at eqi; cases eqi
                            | ok w Ma =>
                              cases w with
                              | mt jj => simp only [ee] at eqi; cases eqi
                              | d y =>
                                simp only [ee] at eqi
                                obtain ⟨ys3, Mb, ei1, ei2⟩ := bind_ok_ex eqi
                                injection ei2 with ei3 ei4
                                subst ei3 ei4
                                intro Fa ρa Ha v xa Ra rv
                                obtain ⟨z1, z2, z3⟩ := xa.keep w1 w2 w3
                                have x7a := x79.trans xa
                                have rA' := Reps.mono x7a.sub rA
                                have lA' := rA'.length
                                refine ⟨acc, z3, ?_, ?_⟩
                                · rw [← lim_line]
                                  have := congrArg List.length eqt
                                  simp only [List.length_append, List.length_cons] at this
                                  omega
                                · refine ⟨Fa, ρa, Ma, acc ++ [v], accD ++ [y], (xx9.trans xa).write hD _, s6.trans x7a.sub, p6.trans x7a.pre, Ra.writeH z1 z2 _, z1, z2, upd_same, Reps.append rA' (.cons rv .nil), ys3, ei1, ?_⟩
                                  rw [← eqt]; simp
                    · have ej : j = ds1.length := by omega
                      subst ej
                      refine .inl ⟨itw1.stop Hi (s6.trans R'.sub), ?_⟩
                      rw [List.drop_length] at eqi
                      injection eqi with eqy eqm
                      subst eqy eqm
                      refine ⟨F', ρ', M', acc, accD, xE1, R', f1, f2, f3, rA, ?_⟩
                      rw [eq3, ← eqt]; simp
        · have ei : i = ds.length := by omega
          subst ei
          refine .inl ⟨itw.stop Hc (xE.sub.trans R'.sub), ?_⟩
          rw [List.drop_length] at eq
          simp only [comp2L, Res.bind_ok, List.append_nil] at eq
          injection eq with e1 e2
          subst e1 e2
          exact p1 F' ρ' Hc _ xE R' ⟨Dd, acc, rfl, hD, f1, f2, f3, rA⟩
    · rw [if_neg hlim] at p1; exact p1.elim
section
variable {C : Ctx}
theorem pl_comp2 {elt tg iter tg1 iter1 : Expr} {ifs ifs1 : List Expr} {scope : Scope} {pos : Pos} {own own1 : List (Str × Nat)} {fi fi1 : DL} {sl sl1 : List Nat} {g g1 : DG} {ft ft1 : DT} {fe : DE} (hi : PDI C tg iter fi) (ok : blkC C.N C.sc scope own = true) (hv : ((own1.map (·.2)).all fun i => (own.map (·.2)).contains i) = true)
    (hg : PDG (C.blk scope) tg sl g) (hsl : (sl.all fun i => (own.map (·.2)).contains i) = true) (ht : PDTs (C.blk scope) ifs ft)
    (hi1 : PDI (C.blk scope) tg1 iter1 fi1) (hg1 : PDG (C.blk scope) tg1 sl1 g1) (hsl1 : (sl1.all fun i => (own1.map (·.2)).contains i) = true) (ht1 : PDTs (C.blk scope) ifs1 ft1)
    (he : PDE (C.blk scope) elt fe) (hs : ∀ env x, foldedSetIterable iter env x = pure x := by intro _ _; rfl) (hs1 : ∀ env x, foldedSetIterable iter1 env x = pure x := by intro _ _; rfl) :
    PDL C (.ListComp elt [⟨tg, iter, ifs, 0⟩, ⟨tg1, iter1, ifs1, 0⟩] scope pos) (lComp2 fi (own.map (·.2)) g ft fi1 (own1.map (·.2)) g1 ft1 fe) := by
  refine ⟨fun X Wx G tk => ?_⟩
  have hsl' : ∀ i ∈ sl, i ∈ own.map (·.2) := fun i hi => by
    have := List.all_eq_true.mp hsl i hi
    simpa using this
  have hsl1' : ∀ i ∈ sl1, i ∈ own1.map (·.2) := fun i hi => by
    have := List.all_eq_true.mp hsl1 i hi
    simpa using this
  have hv' : ∀ i ∈ own1.map (·.2), i ∈ own.map (·.2) := fun i hi => by
    have := List.all_eq_true.mp hv i hi
    simpa using this
  refine PE_imp (pe_lc2 (own := own) (vs1 := own1.map (·.2)) (g := rdT X.K X.mg sl g) (tt := rdG X.K X.mg repB wX ft) (g1 := rdT X.K X.mg sl1 g1) (tt1 := rdG X.K X.mg repB wX ft1) (wi1 := rdG X.K X.mg (repI X.K X.mg) wX fi1) (te := rdG X.K X.mg (repW X.K X.mg) wX fe) G.calm (by rw [G.N]; exact G.nd) (hi.run X Wx G tk) (by rw [G.N, G.sc]; exact blkOk_by ok) hv' (fun s H c cl fp => hg.run _ (G.blk s H scope c cl fp))
    (fun s H c cl fp => ht.run _ wX (G.blk s H scope c cl fp) takes_no) (fun s H c cl fp => hi1.run _ wX (G.blk s H scope c cl fp) takes_no) (fun s H c cl fp => hg1.run _ (G.blk s H scope c cl fp)) (fun s H c cl fp => ht1.run _ wX (G.blk s H scope c cl fp) takes_no) (fun s H c cl fp => he.run _ wX (G.blk s H scope c cl fp) takes_no) (hs _) hs1) fun σ H Q h => comp2_read hsl' hsl1' h
theorem sw_true2 {elt tg iter tg1 iter1 : Expr} {ifs ifs1 : List Expr} {scope : Scope} {pos py : Pos} {l : Nat} {env : Env} {y : Str} (h : swapsWith (.ListComp elt [⟨tg, iter, ifs, 0⟩] scope pos) (some (.Name y py)) l env = pure true) : swapsWith (.ListComp elt [⟨tg, iter, ifs, 0⟩, ⟨tg1, iter1, ifs1, 0⟩] scope pos) (some (.Name y py)) l env = pure true := h
theorem ps_lc2F {elt tg iter tg1 iter1 : Expr} {ifs ifs1 : List Expr} {scope : Scope} {pos py spos : Pos} {y : Str} {own own1 : List (Str × Nat)} {fi fi1 : DL} {sl sl1 : List Nat} {g g1 : DG} {ft ft1 : DT} {fe : DE} (i : Nat) (hy : C.N[i]? = some y) (hl : C.sc.names.lookup y = some .local) (hc : (py.line == pos.line) = true) (ha : (scope.names.any fun (n, k) => n == y && (k == .local || k == .cell)) = false)
    (hi : PDI C tg iter fi) (ok : blkC C.N C.sc scope own = true) (hv : ((own1.map (·.2)).all fun i => (own.map (·.2)).contains i) = true)
    (hg : PDG (C.blk scope) tg sl g) (hsl : (sl.all fun i => (own.map (·.2)).contains i) = true) (ht : PDTs (C.blk scope) ifs ft)
    (hi1 : PDI (C.blk scope) tg1 iter1 fi1) (hg1 : PDG (C.blk scope) tg1 sl1 g1) (hsl1 : (sl1.all fun i => (own1.map (·.2)).contains i) = true) (ht1 : PDTs (C.blk scope) ifs1 ft1)
    (he : PDE (C.blk scope) elt fe) (hs : ∀ env x, foldedSetIterable iter env x = pure x := by intro _ _; rfl) (hs1 : ∀ env x, foldedSetIterable iter1 env x = pure x := by intro _ _; rfl) :
    PDS C (.Assign [.Name y py] (.ListComp elt [⟨tg, iter, ifs, 0⟩, ⟨tg1, iter1, ifs1, 0⟩] scope pos) spos) (sAs (cFz (lComp2 fi (own.map (·.2)) g ft fi1 (own1.map (·.2)) g1 ft1 fe)) (gN i)) := by
  refine ⟨fun X Wx G tk => ?_⟩
  have hsl' : ∀ i ∈ sl, i ∈ own.map (·.2) := fun i hi => by
    have := List.all_eq_true.mp hsl i hi
    simpa using this
  have hsl1' : ∀ i ∈ sl1, i ∈ own1.map (·.2) := fun i hi => by
    have := List.all_eq_true.mp hsl1 i hi
    simpa using this
  have hv' : ∀ i ∈ own1.map (·.2), i ∈ own.map (·.2) := fun i hi => by
    have := List.all_eq_true.mp hv i hi
    simpa using this
  have hk : X.env.scope.names.lookup y = some .local := by rw [G.sc]; exact hl
  refine ⟨fun pins s σ H De I h => ?_⟩
  refine (ps_setLc2 (own := own) (vs1 := own1.map (·.2)) (g := rdT X.K X.mg sl g) (tt := rdG X.K X.mg repB wX ft) (g1 := rdT X.K X.mg sl1 g1) (tt1 := rdG X.K X.mg repB wX ft1) (wi1 := rdG X.K X.mg (repI X.K X.mg) wX fi1) (te := rdG X.K X.mg (repW X.K X.mg) wX fe) G.calm (by rw [G.N]; exact G.nd) (by rw [G.N]; exact hy) hk (sw_true2 (sw_true (l := spos.line) I.ok.kind hk hc ha)) (hi.run X Wx G tk) (by rw [G.N, G.sc]; exact blkOk_by ok) hv' (fun s H c cl fp => hg.run _ (G.blk s H scope c cl fp))
    (fun s H c cl fp => ht.run _ wX (G.blk s H scope c cl fp) takes_no) (fun s H c cl fp => hi1.run _ wX (G.blk s H scope c cl fp) takes_no) (fun s H c cl fp => hg1.run _ (G.blk s H scope c cl fp)) (fun s H c cl fp => ht1.run _ wX (G.blk s H scope c cl fp) takes_no) (fun s H c cl fp => he.run _ wX (G.blk s H scope c cl fp) takes_no) (hs _) hs1).run pins s σ H De I ?_
  exact comp2_read hsl' hsl1' (fz_read h)
/-! ### tuple(range(n)) -/
def cTR1 (f : DE) : DE := fun env M => (f env M).bind fun w M1 => match w with
  | .d (.int n) => if n ≤ 16777216 ∧ -16777216 ≤ n then .ok (.d (.tup (rngD 0 n.toNat))) M1 else .bad
  | _ => .bad
theorem pd_tr1 {e : Expr} {f : DE} {p1 p2 pos pos2 : Pos} (i j : Nat) (hi : C.blt[i]? = some "tuple") (hj : C.blt[j]? = some "range") (gi : glB C.sc "tuple" = true) (gj : glB C.sc "range" = true) (he : PDE C e f)
    (h1 : ∀ env, starEach [e] env = (false, eval e env) :: starEach [] env := by intro _; rfl)
    (h2 : ∀ env, starEach [.Call (.Name "range" p2) [e] [] pos2] env = (false, eval (.Call (.Name "range" p2) [e] [] pos2) env) :: starEach [] env := by intro _; rfl) :
    PDE C (.Call (.Name "tuple" p1) [.Call (.Name "range" p2) [e] [] pos2] [] pos) (cTR1 f) := by
  refine ⟨fun X Wx G tk => ?_⟩
  obtain ⟨g1, g2, g3⟩ := glB_gl (X := X) (x := "tuple") (by rw [G.sc]; exact gi)
  obtain ⟨k1, k2, k3⟩ := glB_gl (X := X) (x := "range") (by rw [G.sc]; exact gj)
  refine PE_imp (pe_tupRg G.calm g1 (G.blt i _ hi) (prg_1 k1 (G.blt j _ hj) (he.run X Wx G tk) (h1 _)) (h2 _)) fun σ H Q ⟨F, ρ, M, env, R, S, p⟩ => ?_
  refine ⟨F, ρ, M, env, R, S, (RPost.seq p).imp fun v H1 ⟨F1, ρ1, M1, w, x1, R1, r1, p1⟩ => ?_⟩
  split at p1
  · rename_i n
    cases (show Rep X.K X.mg F1 v (.int n) from r1)
    split at p1
    · rename_i c
      refine ⟨n, rfl, ⟨by omega, by omega, by omega, by omega, by omega⟩, fun q hq => ?_⟩
      obtain ⟨f1, f2⟩ := R1.fresh hq
      have rr := reps_rg (K := X.K) (mg := X.mg) (F := F1) 0 n
      rw [Int.sub_zero] at rr
      have s1 : Sub F1 (upd F1 q (.tup (rgV 0 n))) := Sub.upd (o := HO.tup (rgV 0 n)) f1
      exact p1 (upd F1 q (.tup (rgV 0 n))) ρ1 (upd H1 q (.tup (rgV 0 n))) _ (R1.extF hq _) (R1.newF hq _) (Rep.tup (.of upd_same) (Reps.mono s1 rr))
    · exact p1.elim
  · exact p1.elim
end
end PD
namespace PD
open PySem PySem.Spec PyProof.Rows L2
variable {K : PySem.W.Frag} {mg : MG}
/-! ### xs.pop(i), xs.index(e): xs a list that changes -/
theorem Reps.erase {F : Hp} : ∀ {xs : List V} {ds : List D} (k : Nat), Reps K mg F xs ds → Reps K mg F (xs.eraseIdx k) (ds.eraseIdx k)
  | [], _, _, .nil => by simpa using Reps.nil
  | x :: xs, d :: ds, 0, .cons h t => by simpa using t
  | x :: xs, d :: ds, k + 1, .cons h t => by simpa using Reps.cons h (Reps.erase k t)
def cPop (fo : DE) (f : DE) : DE := fun env M => (fo env M).bind fun w M1 => match w with
  | .mt j => match M1[j]? with
    | some (some _) => (f env M1).bind fun v M2 => match v, M2[j]? with
      | .d (.int n), some (some ds) => if 0 ≤ n ∧ n < ds.length ∧ ds.length ≤ LIM then (match ds[n.toNat]? with
        | some y => .ok (.d y) (M2.set j (some (ds.eraseIdx n.toNat)))
        | none => .bad) else .bad
      | _, _ => .bad
    | _ => .bad
  | _ => .bad
def idxL (ds : List D) (d : D) : Option Nat := match toPys ds, toPy d with
  | some xs, some a => if SeqAt.shaped a = true ∧ SeqAt.shaped (.list xs) = true then xs.findIdx? fun z => PyData.eqv z a else none
  | _, _ => none
def cIdxL (fo : DE) (f : DE) : DE := fun env M => (fo env M).bind fun w M1 => match w with
  | .mt j => match M1[j]? with
    | some (some _) => (f env M1).bind fun v M2 => match v, M2[j]? with
      | .d d, some (some ds) => (match idxL ds d with
        | some n => .ok (.d (.int n)) M2
        | none => .bad)
      | _, _ => .bad
    | _ => .bad
  | _ => .bad
def opFdvW : D → D → Option D
  | .int i, .int j => if 0 < j ∧ j < 1152921504606846976 then some (.int (i / j)) else none
  | _, _ => none
theorem od_fdvW {C : Ctx} : OpD C (binaryOp .FloorDiv) opFdvW := od_ints (fun X _ => op_fdivW) fun d e z h => by
  cases d <;> cases e <;> first | cases h | skip
  rename_i i j
  unfold opFdvW at h
  simp only at h
  split at h
  · rename_i c; cases h; exact ⟨_, _, rfl, rfl, wide_div (b := 60) c.1 (by omega) (by decide) (by decide), fun _ _ _ => .int _⟩
  · cases h
section
variable {C : Ctx} {o e : Expr} {fo f : DE} {apos cpos : Pos}
theorem pd_pop (ho : PDE C o fo) (he : PDE C e f) (hbase : ∀ env, attributeBase o "pop" env (eval o env) = eval o env := by intro _; rfl)
    (hfew : ∀ env, ((backTo cpos (starEach [e] env)).all (fun x => !x.1) && (backToKw cpos (keywordEach [] env)).all (fun x => x.1.isSome)
      && decide ([e].length + ([] : List Keyword).length + (if ([] : List Keyword).isEmpty then 0 else 1) < 30)) = true := by intro _; rfl)
    (hline : (apos.endLine == cpos.line) = true := by rfl) (hs : ∀ env, starEach [e] env = (false, eval e env) :: starEach [] env := by intro _; rfl) : PDE C (.Call (.Attribute o "pop" apos) [e] [] cpos) (cPop fo f) := by
  refine ⟨fun X Wx G tk => PE_imp (pe_bm PySem.F.plainAttrs_list PySem.F.slot_list_pop PySem.F.type_list_pop mt_popAt (ho.run X Wx G tk) (L2.pa_cons (he.run X Wx G tk) L2.pa_nil (hs _)) (hbase _) (hfew _) hline (hs _) rfl) fun σ H Q ⟨F, ρ, M, env, R, S, p⟩ => ?_⟩
  refine ⟨F, ρ, M, env, R, S, (RPost.seq p).imp fun v H1 ⟨F1, ρ1, M1, w, x1, R1, r1, p1⟩ => ?_⟩
  cases w with
  | d y => exact p1.elim
  | mt j =>
    obtain ⟨a, ha, rfl⟩ := r1
    simp only at p1
    split at p1
    · rename_i d0 e0
      obtain ⟨_, xs0, hx0, _⟩ := R1.cell j a d0 ha e0
      refine ⟨.inl ⟨rfl, xs0, .of hx0⟩, ?_⟩
      refine ⟨F1, ρ1, M1, env, R1, S.ext x1, (RPost.seq p1).imp fun v H2 ⟨F2, ρ2, M2, w, x2, R2, r2, p2⟩ => ?_⟩
      split at p2
      · rename_i n ds e2
        split at p2
        · rename_i c
          obtain ⟨c0, c1, c2⟩ := c
          cases (show Rep X.K X.mg F2 v (.int n) from r2)
          have ha2 := pre_get x2.pre ha
          obtain ⟨_, xs, hx, rx⟩ := R2.cell j a ds ha2 e2
          split at p2
          · rename_i y ey
            obtain ⟨x, ex, ry⟩ := rx.get ey
            have hl := rx.length
            obtain ⟨m, rfl⟩ := Int.eq_ofNat_of_zero_le c0
            have hm : m < xs.length := by omega
            have hL : ds.length ≤ 16777216 := c2
            refine ⟨a, xs, (m : Int), m, x, rfl, rfl, hx, by omega, by omega, ?_, by simpa using ex, ?_⟩
            · unfold seqIndex?
              simp
              omega
            · exact p2 F2 ρ2 _ x (Rel.extSet ha2) (R2.set ha2 e2 (by simpa using Reps.erase m rx)) ry
          · exact p2.elim
        · exact p2.elim
      · exact p2.elim
    · exact p1.elim
theorem pd_idxL (ho : PDE C o fo) (he : PDE C e f) (hbase : ∀ env, attributeBase o "index" env (eval o env) = eval o env := by intro _; rfl)
    (hfew : ∀ env, ((backTo cpos (starEach [e] env)).all (fun x => !x.1) && (backToKw cpos (keywordEach [] env)).all (fun x => x.1.isSome)
      && decide ([e].length + ([] : List Keyword).length + (if ([] : List Keyword).isEmpty then 0 else 1) < 30)) = true := by intro _; rfl)
    (hline : (apos.endLine == cpos.line) = true := by rfl) (hs : ∀ env, starEach [e] env = (false, eval e env) :: starEach [] env := by intro _; rfl) : PDE C (.Call (.Attribute o "index" apos) [e] [] cpos) (cIdxL fo f) := by
  refine ⟨fun X Wx G tk => PE_imp (pe_bm PySem.F.plainAttrs_list PySem.F.slot_list_index PySem.F.type_list_index (mt_indexD (room65 G)) (ho.run X Wx G tk) (L2.pa_cons (he.run X Wx G tk) L2.pa_nil (hs _)) (hbase _) (hfew _) hline (hs _) rfl) fun σ H Q ⟨F, ρ, M, env, R, S, p⟩ => ?_⟩
  refine ⟨F, ρ, M, env, R, S, (RPost.seq p).imp fun v H1 ⟨F1, ρ1, M1, w, x1, R1, r1, p1⟩ => ?_⟩
  cases w with
  | d y => exact p1.elim
  | mt j =>
    obtain ⟨a, ha, rfl⟩ := r1
    simp only at p1
    split at p1
    · rename_i d0 e0
      obtain ⟨_, xs0, hx0, _⟩ := R1.cell j a d0 ha e0
      refine ⟨.inl ⟨rfl, xs0, .of hx0⟩, ?_⟩
      refine ⟨F1, ρ1, M1, env, R1, S.ext x1, (RPost.seq p1).imp fun v H2 ⟨F2, ρ2, M2, w, x2, R2, r2, p2⟩ => ?_⟩
      split at p2
      · rename_i dy ds e2
        have r2 : Rep X.K X.mg F2 v dy := r2
        have ha2 := pre_get x2.pre ha
        obtain ⟨_, xs, hx, rx⟩ := R2.cell j a ds ha2 e2
        split at p2
        · rename_i n ei
          unfold idxL at ei
          cases e1 : toPys ds with
          | none => rw [e1] at ei; cases ei
          | some ps =>
            cases e3 : toPy dy with
            | none => rw [e1, e3] at ei; cases ei
            | some b =>
              rw [e1, e3] at ei
              simp only at ei
              split at ei
              · rename_i c
                obtain ⟨hn, z1, z2⟩ := List.findIdx?_eq_some_iff_getElem.mp ei
                have t1 : toPy (.lst ds) = some (.list ps) := by simp only [toPy, e1, Option.map_some]
                have rl : Rep X.K X.mg H2 (.ref a) (.lst ds) := Rep.lst (.of hx) (Reps.mono R2.sub rx)
                exact ⟨a, v, b, ps, n, ps[n], rfl, rfl, dp_of rl t1, dp_of (Rep.mono R2.sub r2) e3, c.2, c.1, List.getElem?_eq_getElem hn, z1, fun m w hm hw => by
                  obtain ⟨hml, e4⟩ := List.getElem?_eq_some_iff.mp hw
                  rw [← e4]
                  simpa using z2 m hm, p2 F2 ρ2 H2 _ .refl R2 (.int _)⟩
              · cases ei
        · exact p2.elim
      · exact p2.elim
    · exact p1.elim
/-! isinstance(e, (tuple, list)) -/
def cIsTL (f : DE) : DE := fun env M => (f env M).bind fun w M1 => match cont M1 w with
  | some d => match tyName d with
    | some m => .ok (.d (.bl (instB m "tuple" || instB m "list"))) M1
    | none => .bad
  | none => .bad
theorem kit_tl {m : String} (hm : m ∈ tyNames) : PySem.W.kitAny K (.type m) [.type "tuple", .type "list"] = some (instB m "tuple" || instB m "list") := by
  have t := inst_table
  rw [List.all_eq_true] at t
  have t2 := t m hm
  rw [List.all_eq_true] at t2
  have k1 : kitB m "tuple" = some (instB m "tuple") := of_decide_eq_true (t2 "tuple" (by decide))
  have k2 : kitB m "list" = some (instB m "list") := of_decide_eq_true (t2 "list" (by decide))
  refine kitAny_cons (kit_ty k1) (fun h => ?_) (fun h => by rw [h]; rfl)
  rw [h, Bool.false_or]
  refine kitAny_cons (kit_ty k2) (fun h => ?_) (fun h => h)
  rw [h]
  exact kitAny_nil
theorem pd_isTL {k : Nat} {p p1 p2 tpos pos : Pos} (i j l : Nat) (hi : C.blt[i]? = some "isinstance") (hj : C.blt[j]? = some "tuple") (hl : C.blt[l]? = some "list") (gi : glB C.sc "isinstance" = true) (gj : glB C.sc "tuple" = true) (gl : glB C.sc "list" = true) (he : PDE C e f)
    (h1 : ∀ env, starEach [e, .Tuple [.Name "tuple" p1, .Name "list" p2] k tpos] env = (false, eval e env) :: starEach [.Tuple [.Name "tuple" p1, .Name "list" p2] k tpos] env := by intro _; rfl)
    (h2 : ∀ env, starEach [.Tuple [.Name "tuple" p1, .Name "list" p2] k tpos] env = (false, eval (.Tuple [.Name "tuple" p1, .Name "list" p2] k tpos) env) :: starEach [] env := by intro _; rfl)
    (h3 : ∀ env, (backTo pos (starEach [.Tuple [.Name "tuple" p1, .Name "list" p2] k tpos] env)).any (·.1) = false := by intro _; rfl)
    (h4 : ∀ env, starEach [.Name "tuple" p1, .Name "list" p2] env = (false, eval (.Name "tuple" p1) env) :: starEach [.Name "list" p2] env := by intro _; rfl)
    (h5 : ∀ env, starEach [.Name "list" p2] env = (false, eval (.Name "list" p2) env) :: starEach [] env := by intro _; rfl) :
    PDE C (.Call (.Name "isinstance" p) [e, .Tuple [.Name "tuple" p1, .Name "list" p2] k tpos] [] pos) (cIsTL f) := by
  refine ⟨fun X Wx G tk => ?_⟩
  obtain ⟨g1, g2, g3⟩ := glB_gl (X := X) (x := "isinstance") (by rw [G.sc]; exact gi)
  obtain ⟨a1, a2, a3⟩ := glB_gl (X := X) (x := "tuple") (by rw [G.sc]; exact gj)
  obtain ⟨b1, b2, b3⟩ := glB_gl (X := X) (x := "list") (by rw [G.sc]; exact gl)
  have pt : PE X (.Name "tuple" p1) (tC (.ty "tuple")) := pe_bltn a1 (G.blt j _ hj) bt_tuple rfl a3 a2
  have pl : PE X (.Name "list" p2) (tC (.ty "list")) := pe_bltn b1 (G.blt l _ hl) bt_list rfl b3 b2
  have pa := L2.pe_tup (pos := tpos) (x1 := k) (L2.pa_cons pt (L2.pa_cons pl L2.pa_nil (h5 _)) (h4 _))
  refine PE_imp (pe_callB call_isiT g1 (G.blt i _ hi) bt_isinstance (L2.pa_cons (he.run X Wx G tk) (L2.pa_cons pa L2.pa_nil (h2 _)) (h1 _)) g3 g2 (h1 _) (h3 _)) fun σ H Q ⟨F, ρ, M, env, R, S, p⟩ => ?_
  refine ⟨F, ρ, M, env, R, S, (RPost.seq p).imp fun v H1 ⟨F1, ρ1, M1, w, x1, R1, r1, p1⟩ => ?_⟩
  cases ec : cont M1 w with
  | none => simp only [ec] at p1; exact p1.elim
  | some d =>
    simp only [ec] at p1
    cases e1 : tyName d with
    | none => simp only [e1] at p1; exact p1.elim
    | some m =>
      simp only [e1] at p1
      refine ⟨by show 2 ≤ sizeLine; rw [sizeLine_eq]; omega, fun q hq => ?_⟩
      have rc : RepC X.K X.mg F1 (upd H1 q (.tup [.ty "tuple", .ty "list"])) v d := RepC.ofW (R1.newH hq _) r1 ec
      have sb : Sub F1 (upd H1 q (.tup [.ty "tuple", .ty "list"])) := (R1.newH hq (.tup [.ty "tuple", .ty "list"])).sub
      exact ⟨v, q, [.ty "tuple", .ty "list"], .type m, [.type "tuple", .type "list"], _, rfl, upd_same, .cons (.ty _) (.cons (.ty _) .nil), tyX_ok sb rc e1, kit_tl (tyName_mem e1),
        p1 F1 ρ1 _ _ (R1.extH hq _) (R1.newH hq _) (Rep.bl _)⟩
end
end PD
namespace PD
open PySem PySem.Spec PyProof.Rows L2
/-! divmod(i, j) -/
def gDmd : List D → Option D
  | [.int i, .int j] => if 0 < j ∧ j < 1073741824 then some (.tup [.int (i / j), .int (i % j)]) else none
  | _ => none
section
variable {C : Ctx}
theorem cb_divmod : CallD C (.builtin "divmod") gDmd := by
  intro X G pins s σ H xs us Q I rv ⟨F, ρ, M, ds, dz, R, r, e, q⟩
  match ds, e with
  | [.int i, .int j], e =>
    unfold gDmd at e
    simp only at e
    split at e
    · rename_i c
      cases e
      obtain ⟨x, y, rfl, h, h'⟩ := two_of r
      cases (show Rep X.K X.mg F x (.int i) from h)
      cases (show Rep X.K X.mg F y (.int j) from h')
      refine call_divmod pins s σ H _ us Q I rv ⟨i, j, rfl, c, fun p hp => ?_⟩
      obtain ⟨x1, R1, r1⟩ := R.tup (xs := [.int (i / j), .int (i % j)]) (ds := [.int (i / j), .int (i % j)]) hp (.cons (.int _) (.cons (.int _) .nil))
      exact q _ _ _ x1 R1 r1
    · cases e
end
theorem bt_divmod : bootBuiltins "divmod" = some (.builtin "divmod") := by decide +kernel
end PD
namespace PD
open PySem PySem.Spec PyProof.Rows L2
/-! ### min, max of a tuple or list of alike data -/
def gMinX : List D → Option D
  | [.lst es] => gMinL [.lst es]
  | [.tup es] => gMinL [.lst es]
  | _ => none
def gMaxX : List D → Option D
  | [.lst es] => gMaxL [.lst es]
  | [.tup es] => gMaxL [.lst es]
  | _ => none
@[simp] theorem gMinX_lst (es : List D) : gMinX [.lst es] = gMinL [.lst es] := rfl
@[simp] theorem gMinX_tup (es : List D) : gMinX [.tup es] = gMinL [.lst es] := rfl
@[simp] theorem gMaxX_lst (es : List D) : gMaxX [.lst es] = gMaxL [.lst es] := rfl
@[simp] theorem gMaxX_tup (es : List D) : gMaxX [.tup es] = gMaxL [.lst es] := rfl
section
variable {C : Ctx}
theorem cb_minX : CallD C (.builtin "min") gMinX := by
  intro X G pins s σ H vs us Q I r h
  obtain ⟨F, ρ, M, ds, dz, R, rc, e, q⟩ := h
  match ds, e with
  | [.lst es], e => exact cb_minL X G pins s σ H vs us Q I r ⟨F, ρ, M, [.lst es], dz, R, rc, e, q⟩
  | [.tup es], e =>
    obtain ⟨x, rfl, rx⟩ := one_of rc
    obtain ⟨a, xs, rfl, hs0, rr⟩ : ∃ (a : Addr) (xs : List V), x = .ref a ∧ SqT X.K F a xs ∧ Reps X.K X.mg F xs es := by
      cases rx with
      | tup h1 h2 => exact ⟨_, _, rfl, h1, h2⟩
    have hs := SqT.mono R.sub hs0
    unfold gMinX gMinL at e
    simp only at e
    split at e
    · rename_i p ps ep
      split at e
      · rename_i ok
        cases e
        obtain ⟨ha, hdp⟩ := alikeOk_all ok
        obtain ⟨its, rv, hl, hz⟩ := I.tuple hs
        obtain ⟨u, rfl, ru⟩ := vals1 r
        obtain rfl : u = Value.ref a := ru
        obtain ⟨as, hr⟩ := Dp.readsAll I _ _ _ (dps_of (Reps.mono R.sub rr) ep) rv
        have hu := room65 G
        refine PySem.W.min_tuple_data (I.ok.hd G.calm) (show s.heap.IsTuple a its.toArray from hl) (by simpa using hr) ha (by omega) fun i v h' tk bs hv rd hk => ?_
        obtain ⟨x, r1, r2⟩ := pick_ok I rv rr ep hr hv rd hk
        exact ⟨x, H, I.kept (t' := tk) hk, r1, q F H x .refl R r2⟩
      · cases e
    · cases e
theorem cb_maxX : CallD C (.builtin "max") gMaxX := by
  intro X G pins s σ H vs us Q I r h
  obtain ⟨F, ρ, M, ds, dz, R, rc, e, q⟩ := h
  match ds, e with
  | [.lst es], e => exact cb_maxL X G pins s σ H vs us Q I r ⟨F, ρ, M, [.lst es], dz, R, rc, e, q⟩
  | [.tup es], e =>
    obtain ⟨x, rfl, rx⟩ := one_of rc
    obtain ⟨a, xs, rfl, hs0, rr⟩ : ∃ (a : Addr) (xs : List V), x = .ref a ∧ SqT X.K F a xs ∧ Reps X.K X.mg F xs es := by
      cases rx with
      | tup h1 h2 => exact ⟨_, _, rfl, h1, h2⟩
    have hs := SqT.mono R.sub hs0
    unfold gMaxX gMaxL at e
    simp only at e
    split at e
    · rename_i p ps ep
      split at e
      · rename_i ok
        cases e
        obtain ⟨ha, hdp⟩ := alikeOk_all ok
        obtain ⟨its, rv, hl, hz⟩ := I.tuple hs
        obtain ⟨u, rfl, ru⟩ := vals1 r
        obtain rfl : u = Value.ref a := ru
        obtain ⟨as, hr⟩ := Dp.readsAll I _ _ _ (dps_of (Reps.mono R.sub rr) ep) rv
        have hu := room65 G
        refine PySem.W.max_tuple_data (I.ok.hd G.calm) (show s.heap.IsTuple a its.toArray from hl) (by simpa using hr) ha (by omega) fun i v h' tk bs hv rd hk => ?_
        obtain ⟨x, r1, r2⟩ := pick_ok I rv rr ep hr hv rd hk
        exact ⟨x, H, I.kept (t' := tk) hk, r1, q F H x .refl R r2⟩
      · cases e
    · cases e
end
end PD
namespace PD
open PySem PySem.Spec PyProof.Rows L2
/-! ### f(e, ..), f a module's name for a built-in function; math.gcd; tuples of numbers as constants; fractions -/
def gGcd : List D → Option D
  | [.int a, .int b] => some (.int ((Nat.gcd a.natAbs b.natAbs : Nat) : Int))
  | _ => none
section
variable {C : Ctx} {e : Expr} {es : List Expr} {ga : DA} {pos : Pos}
theorem cb_gcd : CallD C (.builtin "math.gcd") gGcd := by
  intro X G pins s σ H xs us Q I rv ⟨F, ρ, M, ds, dz, R, r, e, q⟩
  match ds, e with
  | [.int i, .int j], e =>
    cases e
    obtain ⟨x, y, rfl, h, h'⟩ := two_of r
    cases (show Rep X.K X.mg F x (.int i) from h)
    cases (show Rep X.K X.mg F y (.int j) from h')
    exact cr_gcd pins s σ H _ us Q I rv ⟨i, j, rfl, q F H _ .refl R (.int _)⟩
theorem pd_bif {x : Str} {id : String} {g : List D → Option D} {p : Pos} (hi : (x, id) ∈ C.bfn) (hg : glB C.sc x = true) (hc : CallD C (.builtin id) g) (ha : PDA C (e :: es) ga)
    (he : ∀ env, starEach (e :: es) env = (false, eval e env) :: starEach es env := by intro _; rfl) (hpl : ∀ env, (backTo pos (starEach es env)).any (·.1) = false := by intro _; rfl) : PDE C (.Call (.Name x p) (e :: es) [] pos) (cB g ga) := by
  refine ⟨fun X Wx G tk => ?_⟩
  obtain ⟨g1, g2, g3⟩ := glB_gl (X := X) (x := x) (by rw [G.sc]; exact hg)
  exact PE_imp (pe_callBfun (hc X G) g1 (G.bfn x id hi) (ha.run X Wx G tk) g2 (he _) (hpl _)) fun σ H Q h => cB_post h
/-- a pair of numbers that stands for a name of the module -/
theorem cn_two {mg : MG} {K : PySem.W.Frag} {x : Str} {a : Addr} {i j : Int} {t u : Tok} {dd : Option Addr} {n : Nat} {sl : Array (Option Value)} (h : mg x = some (.ref a)) (hl : K.lookup a = some ⟨.type "tuple", dd, .seq #[.int i t, .int j u] n, sl⟩) :
    ∃ u v, mg x = some u ∧ RelV v u ∧ ∀ F, Rep K mg F v (.tup [.int i, .int j]) :=
  ⟨_, .ref a, h, rfl, fun F => .tup (xs := [.int i, .int j]) (.inr ⟨_, _, _, hl, rfl, rfl, (show 2 ≤ sizeLine by decide), .cons ⟨t, rfl⟩ (.cons ⟨u, rfl⟩ .nil)⟩) (.cons (.int i) (.cons (.int j) .nil))⟩
end
end PD
namespace PD
open PySem PySem.Spec PyProof.Rows L2
/-! ### (*e, ..) -/
def cStar (f : DE) (g : DA) : DA := fun env M => (f env M).bind fun w M1 => match w with
  | .d (.tup xs) => (g env M1).bind fun ws M2 => .ok (xs.map W.d ++ ws) M2
  | _ => .bad
section
variable {C : Ctx} {pos p : Pos} {e : Expr} {es : List Expr} {f : DE} {g : DA}
theorem repws_d {K : PySem.W.Frag} {mg : MG} {F : Hp} {ρ : List Addr} : ∀ {vs : List V} {ds : List D}, Reps K mg F vs ds → RepWs K mg F ρ vs (ds.map W.d)
  | _, _, .nil => .nil
  | _, _, .cons h r => .cons h (repws_d r)
theorem repws_app {K : PySem.W.Frag} {mg : MG} {F : Hp} {ρ : List Addr} : ∀ {vs us : List V} {ws zs : List W}, RepWs K mg F ρ vs ws → RepWs K mg F ρ us zs → RepWs K mg F ρ (vs ++ us) (ws ++ zs)
  | _, _, _, _, .nil, h => h
  | _, _, _, _, .cons a r, h => .cons a (repws_app r h)
theorem pa_starT (hf : PDE C e f) (hg : PDA C es g) (hs : ∀ env, starEach (.Starred e p :: es) env = (true, eval e env) :: starEach es env := by intro _; rfl) : PDA C (.Starred e p :: es) (cStar f g) := by
  refine ⟨fun X Wx G tk => PA_imp (StX.pa_star (hf.run X Wx G tk) (hg.run X Wx G tk) (hs _)) fun σ H Q ⟨F, ρ, M, env, R, S, p⟩ => ?_⟩
  refine ⟨F, ρ, M, env, R, S, (RPost.seq p).imp fun v H1 ⟨F1, ρ1, M1, w, x1, R1, r1, p1⟩ => ?_⟩
  match w, r1, p1 with
  | .d (.tup ds), r1, p1 =>
    cases r1 with
    | tup h1 q1 =>
      refine ⟨_, _, rfl, .inl (SqT.mono R1.sub h1), ?_⟩
      refine ⟨F1, ρ1, M1, env, R1, S.ext x1, (RPost.seq p1).imp fun vs H2 ⟨F2, ρ2, M2, ws, x2, R2, r2, p2⟩ => ?_⟩
      exact p2 F2 ρ2 H2 _ .refl R2 (repws_app (repws_d (Reps.mono x2.sub q1)) r2)
  | .d .non, _, p1 => exact p1.elim
  | .d (.bl _), _, p1 => exact p1.elim
  | .d (.int _), _, p1 => exact p1.elim
  | .d (.str _), _, p1 => exact p1.elim
  | .d (.ty _), _, p1 => exact p1.elim
  | .d (.fn _), _, p1 => exact p1.elim
  | .d (.lst _), _, p1 => exact p1.elim
  | .d (.dic _), _, p1 => exact p1.elim
  | .mt _, _, p1 => exact p1.elim
end
end PD
namespace PD
open PySem PySem.Spec PyProof.Rows L2
/-! ### t <= u of tuples of ints -/
def opLeT : D → D → Option D
  | .tup ds, .tup es => match intsOf ds, intsOf es with
    | some ns, some ms => some (.bl (Ob.lexAt (fun j => decide (ns.getD j 0 = ms.getD j 0)) (fun j => decide (ns.getD j 0 ≤ ms.getD j 0)) (decide (ns.length ≤ ms.length)) 0 (min ns.length ms.length)))
    | _, _ => none
  | d, e => opLe d e
theorem od_leT {C : Ctx} : OpD C (compareOp .LtE) opLeT := by
  intro X G pins s σ H x y v u Q I rx ry ⟨F, ρ, M, dx, dy, dz, R, r1, r2, e, q⟩
  have gen := fun e2 : opLe dx dy = some dz => od_le X G pins s σ H x y v u Q I rx ry ⟨F, ρ, M, dx, dy, dz, R, r1, r2, e2, q⟩
  cases dx with
  | tup ds =>
    cases dy with
    | tup es =>
      simp only [opLeT] at e
      cases e1 : intsOf ds with
      | none => rw [e1] at e; cases e
      | some ns =>
        cases e2 : intsOf es with
        | none => rw [e1, e2] at e; cases e
        | some ms =>
          rw [e1, e2] at e; cases e
          cases (show Rep X.K X.mg F x (.tup ds) from r1) with
          | tup h1 q1 =>
            cases (show Rep X.K X.mg F y (.tup es) from r2) with
            | tup h2 q2 =>
              have x1 := reps_ints q1 e1
              have x2 := reps_ints q2 e2
              subst x1; subst x2
              exact op_leT G.room.units0 pins s σ H _ _ v u Q I rx ry ⟨_, _, ns, ms, rfl, rfl, SqT.mono R.sub h1, SqT.mono R.sub h2, q F H _ .refl R (.bl _)⟩
    | _ => exact gen e
  | _ => exact gen e
end PD
namespace PD.LW
open PySem PySem.Spec PyProof.Rows L2 PD
def topS (i : Nat) : Stmt := PySem.Challenge.pw_pitstairs_k62_whole_firsts_by_all_result.main.body.getD i (.Pass ⟨0, 0, 0, 0⟩)
theorem kp_0 : KB ["pool", "many"] 2 [] [] := by
  intro fd us ws h h1 h2
  match us, ws, h1, h2 with
  | [a0, a1], [], _, _ =>
    unfold bindArgs
    simp only [h.args, h.po, h.ko, h.va, h.ka, h.df]
    rfl
theorem kp_1 : KB ["pool", "some"] 2 [] [] := by
  intro fd us ws h h1 h2
  match us, ws, h1, h2 with
  | [a0, a1], [], _, _ =>
    unfold bindArgs
    simp only [h.args, h.po, h.ko, h.va, h.ka, h.df]
    rfl
theorem kp_2 : KB ["pool", "most", "games"] 3 [] [] := by
  intro fd us ws h h1 h2
  match us, ws, h1, h2 with
  | [a0, a1, a2], [], _, _ =>
    unfold bindArgs
    simp only [h.args, h.po, h.ko, h.va, h.ka, h.df]
    rfl
theorem kp_3 : KB ["names", "wins", "left"] 3 [] [] := by
  intro fd us ws h h1 h2
  match us, ws, h1, h2 with
  | [a0, a1, a2], [], _, _ =>
    unfold bindArgs
    simp only [h.args, h.po, h.ko, h.va, h.ka, h.df]
    rfl
theorem kp_4 : KB ["left"] 1 [] [] := by
  intro fd us ws h h1 h2
  match us, ws, h1, h2 with
  | [a0], [], _, _ =>
    unfold bindArgs
    simp only [h.args, h.po, h.ko, h.va, h.ka, h.df]
    rfl
theorem kp_5 : KB ["value"] 1 [] [] := by
  intro fd us ws h h1 h2
  match us, ws, h1, h2 with
  | [a0], [], _, _ =>
    unfold bindArgs
    simp only [h.args, h.po, h.ko, h.va, h.ka, h.df]
    rfl
theorem kp_6 : KB ["value", "low", "high"] 3 [] [] := by
  intro fd us ws h h1 h2
  match us, ws, h1, h2 with
  | [a0, a1, a2], [], _, _ =>
    unfold bindArgs
    simp only [h.args, h.po, h.ko, h.va, h.ka, h.df]
    rfl
theorem kp_7 : KB ["value", "fewest", "most", "is_right"] 4 [] [] := by
  intro fd us ws h h1 h2
  match us, ws, h1, h2 with
  | [a0, a1, a2, a3], [], _, _ =>
    unfold bindArgs
    simp only [h.args, h.po, h.ko, h.va, h.ka, h.df]
    rfl
theorem kp_8 : KB ["value", "many"] 2 [] [] := by
  intro fd us ws h h1 h2
  match us, ws, h1, h2 with
  | [a0, a1], [], _, _ =>
    unfold bindArgs
    simp only [h.args, h.po, h.ko, h.va, h.ka, h.df]
    rfl
theorem kp_9 : KB ["many", "value"] 2 [] [] := by
  intro fd us ws h h1 h2
  match us, ws, h1, h2 with
  | [a0, a1], [], _, _ =>
    unfold bindArgs
    simp only [h.args, h.po, h.ko, h.va, h.ka, h.df]
    rfl
theorem kp_10 : KB ["many", "most", "value"] 3 [] [] := by
  intro fd us ws h h1 h2
  match us, ws, h1, h2 with
  | [a0, a1, a2], [], _, _ =>
    unfold bindArgs
    simp only [h.args, h.po, h.ko, h.va, h.ka, h.df]
    rfl
theorem kp_11 : KB ["wins", "left"] 2 [] [] := by
  intro fd us ws h h1 h2
  match us, ws, h1, h2 with
  | [a0, a1], [], _, _ =>
    unfold bindArgs
    simp only [h.args, h.po, h.ko, h.va, h.ka, h.df]
    rfl
theorem kp_12 : KB ["many", "team"] 2 [] [] := by
  intro fd us ws h h1 h2
  match us, ws, h1, h2 with
  | [a0, a1], [], _, _ =>
    unfold bindArgs
    simp only [h.args, h.po, h.ko, h.va, h.ka, h.df]
    rfl
theorem kp_13 : KB ["left", "lot"] 2 [] [] := by
  intro fd us ws h h1 h2
  match us, ws, h1, h2 with
  | [a0, a1], [], _, _ =>
    unfold bindArgs
    simp only [h.args, h.po, h.ko, h.va, h.ka, h.df]
    rfl
theorem kp_14 : KB ["wins", "left", "most", "lot"] 4 [] [] := by
  intro fd us ws h h1 h2
  match us, ws, h1, h2 with
  | [a0, a1, a2, a3], [], _, _ =>
    unfold bindArgs
    simp only [h.args, h.po, h.ko, h.va, h.ka, h.df]
    rfl
theorem kp_15 : KB ["wins", "left", "team", "most"] 4 [] [] := by
  intro fd us ws h h1 h2
  match us, ws, h1, h2 with
  | [a0, a1, a2, a3], [], _, _ =>
    unfold bindArgs
    simp only [h.args, h.po, h.ko, h.va, h.ka, h.df]
    rfl
theorem kp_16 : KB ["left", "team"] 2 [] [] := by
  intro fd us ws h h1 h2
  match us, ws, h1, h2 with
  | [a0, a1], [], _, _ =>
    unfold bindArgs
    simp only [h.args, h.po, h.ko, h.va, h.ka, h.df]
    rfl
theorem kp_17 : KB ["wins", "left", "team"] 3 [] [] := by
  intro fd us ws h h1 h2
  match us, ws, h1, h2 with
  | [a0, a1, a2], [], _, _ =>
    unfold bindArgs
    simp only [h.args, h.po, h.ko, h.va, h.ka, h.df]
    rfl
theorem kp_18 : KB ["wins", "left", "team", "value"] 4 [] [] := by
  intro fd us ws h h1 h2
  match us, ws, h1, h2 with
  | [a0, a1, a2, a3], [], _, _ =>
    unfold bindArgs
    simp only [h.args, h.po, h.ko, h.va, h.ka, h.df]
    rfl
theorem kp_19 : KB ["pool", "wins", "left"] 3 [] [] := by
  intro fd us ws h h1 h2
  match us, ws, h1, h2 with
  | [a0, a1, a2], [], _, _ =>
    unfold bindArgs
    simp only [h.args, h.po, h.ko, h.va, h.ka, h.df]
    rfl
theorem kp_20 : KB ["pool"] 1 [] [] := by
  intro fd us ws h h1 h2
  match us, ws, h1, h2 with
  | [a0], [], _, _ =>
    unfold bindArgs
    simp only [h.args, h.po, h.ko, h.va, h.ka, h.df]
    rfl
theorem kp_21 : KB ["script", "turn"] 2 [] [] := by
  intro fd us ws h h1 h2
  match us, ws, h1, h2 with
  | [a0, a1], [], _, _ =>
    unfold bindArgs
    simp only [h.args, h.po, h.ko, h.va, h.ka, h.df]
    rfl
theorem kp_22 : KB ["script"] 1 [] [] := by
  intro fd us ws h h1 h2
  match us, ws, h1, h2 with
  | [a0], [], _, _ =>
    unfold bindArgs
    simp only [h.args, h.po, h.ko, h.va, h.ka, h.df]
    rfl
/-! _law_draw -/
def B__law_draw : DS :=
  sSeq (sIf (asB (cOp opGt (cOp ixD (cVar 0) (cK (.int 1))) (cK (.int 0)))) (sSeq (sAs (cB gDmd (cCons (cOp ixD (cVar 0) (cK (.int 1))) (cCons (cVar 1) (cNil)))) (gTp 2 (gCons (gSt (cVar 0) (cK (.int 1))) (gCons (gN 2) (gNil))))) (
    sRt (cVar 2))) (sNil)) (
    sSeq (sAs (cOp opAdd (cOp ixD (cVar 0) (cK (.int 2))) (cK (.int 1))) (gSt (cVar 0) (cK (.int 2)))) (
    sSeq (sAs (cB gInt1 (cCons (cOp ixD (cVar 0) (cK (.int 0))) (cNil))) (gN 3)) (
    sSeq (sAs (cOp opMod (cB gInt1 (cCons (cOp opAdd (cOp opAdd (cOp opMul (cVar 3) (cOp opAdd (cOp opMod (cVar 3) (cK (.int 20011))) (cK (.int 30011)))) (cOp opMul (cK (.int 70001)) (cOp ixD (cVar 0) (cK (.int 2))))) (cK (.int 9))) (cNil))) (cK (.int 2147483543))) (gSt (cVar 0) (cK (.int 0)))) (
    sRt (cOp opMod (cB gInt1 (cCons (cOp opFdv (cOp ixD (cVar 0) (cK (.int 0))) (cK (.int 128))) (cNil))) (cVar 1))))))
def R__law_draw : Fn := mkFn 2 4 B__law_draw
theorem len__law_draw : lenOk 2 R__law_draw := mkFn_len _ _ _
def C__law_draw : Ctx := { N := ["pool", "many", "figure", "held"], sc := defScope (topS 37), fnc := fun _ => true, k := 0, fns := [], cns := [], blt := ["divmod", "int"], hof := [] }
theorem D__law_draw : PDB C__law_draw (defBody (topS 37)) B__law_draw :=
  pb_cons (ps_if (pdt_cmp od_gt (pd_ix (pd_var 0 rfl (by decide +kernel)) (pd_int)) (pd_int)) (pb_cons (ps_as (pd_cb 0 rfl (by decide +kernel) bt_divmod cb_divmod (pa_cons (pd_ix (pd_var 0 rfl (by decide +kernel)) (pd_int)) (pa_cons (pd_var 1 rfl (by decide +kernel)) (pa_nil)))) (pg_tp (pgs_cons (pg_st (pd_var 0 rfl (by decide +kernel)) (pd_int)) (pgs_cons (pg_n 2 rfl (by decide +kernel)) (pgs_nil))))) (
    pb_one (ps_rt (pd_var 2 rfl (by decide +kernel))))) (pb_nil)) (
    pb_cons (ps_as (pd_bin od_add (pd_ix (pd_var 0 rfl (by decide +kernel)) (pd_int)) (pd_int)) (pg_st (pd_var 0 rfl (by decide +kernel)) (pd_int))) (
    pb_cons (ps_as (pd_ct 1 rfl (by decide +kernel) bt_int ct_int (pa_cons (pd_ix (pd_var 0 rfl (by decide +kernel)) (pd_int)) (pa_nil))) (pg_n 3 rfl (by decide +kernel))) (
    pb_cons (ps_as (pd_bin od_mod (pd_ct 1 rfl (by decide +kernel) bt_int ct_int (pa_cons (pd_bin od_add (pd_bin od_add (pd_bin od_mul (pd_var 3 rfl (by decide +kernel)) (pd_bin od_add (pd_bin od_mod (pd_var 3 rfl (by decide +kernel)) (pd_int)) (pd_int))) (pd_bin od_mul (pd_int) (pd_ix (pd_var 0 rfl (by decide +kernel)) (pd_int)))) (pd_int)) (pa_nil))) (pd_int)) (pg_st (pd_var 0 rfl (by decide +kernel)) (pd_int))) (
    pb_one (ps_rt (pd_bin od_mod (pd_ct 1 rfl (by decide +kernel) bt_int ct_int (pa_cons (pd_bin od_fdv (pd_ix (pd_var 0 rfl (by decide +kernel)) (pd_int)) (pd_int)) (pa_nil))) (pd_var 1 rfl (by decide +kernel))))))))
/-! _law_pick -/
def B__law_pick : DS :=
  sRt (cOp ixD (cVar 1) (cCall R__law_draw (cCons (cVar 0) (cCons (cB gLen (cCons (cVar 1) (cNil))) (cNil)))))
def R__law_pick : Fn := mkFn 2 2 B__law_pick
theorem len__law_pick : lenOk 2 R__law_pick := mkFn_len _ _ _
def C__law_pick : Ctx := { N := ["pool", "some"], sc := defScope (topS 38), fnc := fun _ => true, k := 2, fns := [("_law_draw", ["pool", "many"], R__law_draw)], cns := [], blt := ["len"], hof := [] }
theorem D__law_pick : PDB C__law_pick (defBody (topS 38)) B__law_pick :=
  pb_one (ps_rt (pd_ix (pd_var 1 rfl (by decide +kernel)) (pd_call (ps := ["pool", "many"]) 0 rfl (by decide +kernel) len__law_draw (pa_cons (pd_var 0 rfl (by decide +kernel)) (pa_cons (pd_cb 0 rfl (by decide +kernel) bt_len cb_len (pa_cons (pd_var 1 rfl (by decide +kernel)) (pa_nil))) (pa_nil))))))
/-! _law_season -/
def F_law_season_1 : DS :=
  sAs (cOp opAdd (cVar 6) (cIf (asB (cOp opGt (cCall R__law_draw (cCons (cVar 0) (cCons (cK (.int 3)) (cNil)))) (cK (.int 0)))) (cTup (cCons (cTup (cCons (cVar 7) (cCons (cVar 8) (cCons (cOp opAdd (cK (.int 1)) (cCall R__law_draw (cCons (cVar 0) (cCons (cVar 2) (cNil))))) (cNil))))) (cNil))) (cTup (cNil)))) (gN 6)
def F_law_season_2 : DS :=
  sFor (lB iR2 (cCons (cOp opAdd (cVar 7) (cK (.int 1))) (cCons (cVar 3) (cNil)))) (gN 8) (F_law_season_1)
def B__law_season : DS :=
  sSeq (sPar [3, 4] (cCons (cOp opAdd (cK (.int 2)) (cCall R__law_draw (cCons (cVar 0) (cCons (cOp opSub (cVar 1) (cK (.int 1))) (cNil))))) (cCons (cCall R__law_pick (cCons (cVar 0) (cCons (cFz (lLst (cCons (cK (.int 2)) (cCons (cK (.int 5)) (cCons (cK (.int 9)) (cNil)))))) (cNil)))) (cNil)))) (
    sSeq (sAs (cB gTup (cCons (cFz (lComp (lB iR1 (cCons (cVar 3) (cNil))) [9] (gN 9) (tTrue) (cCall R__law_pick (cCons (cVar 0) (cCons (cFz (lLst (cCons (cVar 4) (cCons (cCall R__law_draw (cCons (cVar 0) (cCons (cOp opAdd (cVar 4) (cK (.int 1))) (cNil)))) (cNil))))) (cNil)))))) (cNil))) (gN 5)) (
    sSeq (sAs (cTup (cNil)) (gN 6)) (
    sSeq (sFor (lB iR1 (cCons (cVar 3) (cNil))) (gN 7) (F_law_season_2)) (
    sRt (cTup (cCons (cVar 5) (cCons (cVar 6) (cNil))))))))
def R__law_season : Fn := mkFn 3 10 B__law_season
theorem len__law_season : lenOk 3 R__law_season := mkFn_len _ _ _
def C__law_season : Ctx := { N := ["pool", "most", "games", "teams", "high", "wins", "left", "one", "two", "team"], sc := defScope (topS 41), fnc := fun _ => true, k := 4, fns := [("_law_pick", ["pool", "some"], R__law_pick), ("_law_draw", ["pool", "many"], R__law_draw)], cns := [], blt := ["tuple", "range"], hof := [] }
theorem D__law_season : PDB C__law_season (defBody (topS 41)) B__law_season :=
  pb_cons (ps_prc (pa_cons (pd_bin od_add (pd_int) (pd_call (ps := ["pool", "many"]) 1 rfl (by decide +kernel) len__law_draw (pa_cons (pd_var 0 rfl (by decide +kernel)) (pa_cons (pd_bin od_sub (pd_var 1 rfl (by decide +kernel)) (pd_int)) (pa_nil))))) (pa_cons (pd_call (ps := ["pool", "some"]) 0 rfl (by decide +kernel) len__law_pick (pa_cons (pd_var 0 rfl (by decide +kernel)) (pa_cons (pd_fz (pl_lst (pa_cons (pd_int) (pa_cons (pd_int) (pa_cons (pd_int) (pa_nil)))))) (pa_nil)))) (pa_nil))) (pn_cons 3 rfl (by decide +kernel) (pn_cons 4 rfl (by decide +kernel) (pn_nil))) (by decide +kernel) rfl (sw_of (by kernel_rfl))) (
    pb_cons (ps_as (pd_ct 0 rfl (by decide +kernel) bt_tuple ct_tup (pa_cons (pd_fz (pl_comp (own := [("team", 9)]) (pi_r1 1 rfl (by decide +kernel) (pa_cons (pd_var 3 rfl (by decide +kernel)) (pa_nil))) (by decide +kernel) (pg_n 9 rfl (by decide +kernel)) rfl (pts_nil) (pd_call (ps := ["pool", "some"]) 0 rfl (by decide +kernel) len__law_pick (pa_cons (pd_var 0 rfl (by decide +kernel)) (pa_cons (pd_fz (pl_lst (pa_cons (pd_var 4 rfl (by decide +kernel)) (pa_cons (pd_call (ps := ["pool", "many"]) 1 rfl (by decide +kernel) len__law_draw (pa_cons (pd_var 0 rfl (by decide +kernel)) (pa_cons (pd_bin od_add (pd_var 4 rfl (by decide +kernel)) (pd_int)) (pa_nil)))) (pa_nil))))) (pa_nil)))))) (pa_nil))) (pg_n 5 rfl (by decide +kernel))) (
    pb_cons (ps_as (pd_tup (pa_nil)) (pg_n 6 rfl (by decide +kernel))) (
    pb_cons (ps_fr (pi_r1 1 rfl (by decide +kernel) (pa_cons (pd_var 3 rfl (by decide +kernel)) (pa_nil))) (pg_n 7 rfl (by decide +kernel)) (pb_one (ps_fr (pi_r2 1 rfl (by decide +kernel) (pa_cons (pd_bin od_add (pd_var 7 rfl (by decide +kernel)) (pd_int)) (pa_cons (pd_var 3 rfl (by decide +kernel)) (pa_nil)))) (pg_n 8 rfl (by decide +kernel)) (pb_one (ps_as (pd_bin od_add (pd_var 6 rfl (by decide +kernel)) (pd_if (pdt_cmp od_gt (pd_call (ps := ["pool", "many"]) 1 rfl (by decide +kernel) len__law_draw (pa_cons (pd_var 0 rfl (by decide +kernel)) (pa_cons (pd_int) (pa_nil)))) (pd_int)) (pd_tup (pa_cons (pd_tup (pa_cons (pd_var 7 rfl (by decide +kernel)) (pa_cons (pd_var 8 rfl (by decide +kernel)) (pa_cons (pd_bin od_add (pd_int) (pd_call (ps := ["pool", "many"]) 1 rfl (by decide +kernel) len__law_draw (pa_cons (pd_var 0 rfl (by decide +kernel)) (pa_cons (pd_var 2 rfl (by decide +kernel)) (pa_nil))))) (pa_nil))))) (pa_nil))) (pd_tup (pa_nil)))) (pg_n 6 rfl (by decide +kernel))))))) (
    pb_one (ps_rt (pd_tup (pa_cons (pd_var 5 rfl (by decide +kernel)) (pa_cons (pd_var 6 rfl (by decide +kernel)) (pa_nil)))))))))
/-! _law_renamed -/
def F_law_renamed_1 : DS :=
  sSeq (sPar [7, 8] (cCons (cOp ixD (cVar 0) (cVar 4)) (cCons (cOp ixD (cVar 0) (cVar 5)) (cNil)))) (
    sEx (cApp (cVar 3) (cTup (cCons (cB gMin2 (cCons (cVar 7) (cCons (cVar 8) (cNil)))) (cCons (cB gMax2 (cCons (cVar 7) (cCons (cVar 8) (cNil)))) (cCons (cVar 6) (cNil)))))))
def B__law_renamed : DS :=
  sSeq (sAs (cMt (lLst (cNil))) (gN 3)) (
    sSeq (sFor (cIt (cVar 2)) (gTp 3 (gCons (gN 4) (gCons (gN 5) (gCons (gN 6) (gNil))))) (F_law_renamed_1)) (
    sFrz 3 (sRt (cTup (cCons (cB gTup (cCons (cFz (lComp (lB iR1 (cCons (cB gLen (cCons (cVar 1) (cNil))) (cNil))) [9] (gN 9) (tTrue) (cOp ixD (cVar 1) (cIdxL (cVar 0) (cVar 9))))) (cNil))) (cCons (cB gTup (cCons (cFz (lB gSrt (cCons (cVar 3) (cNil)))) (cNil))) (cNil)))))))
def R__law_renamed : Fn := mkFn 3 10 B__law_renamed
theorem len__law_renamed : lenOk 3 R__law_renamed := mkFn_len _ _ _
def C__law_renamed : Ctx := { N := ["names", "wins", "left", "rows", "one", "two", "many", "a", "b", "team"], sc := defScope (topS 44), fnc := fun _ => true, k := 0, fns := [], cns := [], blt := ["max", "min", "tuple", "sorted", "range", "len"], hof := [] }
theorem D__law_renamed : PDB C__law_renamed (defBody (topS 44)) B__law_renamed :=
  pb_cons (ps_as (pd_mt (pl_lst (pa_nil))) (pg_n 3 rfl (by decide +kernel))) (
    pb_cons (ps_fr (pi_sq (pd_var 2 rfl (by decide +kernel))) (pg_tp (pgs_cons (pg_n 4 rfl (by decide +kernel)) (pgs_cons (pg_n 5 rfl (by decide +kernel)) (pgs_cons (pg_n 6 rfl (by decide +kernel)) (pgs_nil))))) (pb_cons (ps_pr2 7 8 rfl rfl rfl (by decide +kernel) (by decide +kernel) (pa_cons (pd_ix (pd_var 0 rfl (by decide +kernel)) (pd_var 4 rfl (by decide +kernel))) (pa_cons (pd_ix (pd_var 0 rfl (by decide +kernel)) (pd_var 5 rfl (by decide +kernel))) (pa_nil))) (sw_of (by kernel_rfl))) (
    pb_one (ps_ex (pd_app (pd_var 3 rfl (by decide +kernel)) (pd_tup (pa_cons (pd_cb 1 rfl (by decide +kernel) bt_min cb_min2 (pa_cons (pd_var 7 rfl (by decide +kernel)) (pa_cons (pd_var 8 rfl (by decide +kernel)) (pa_nil)))) (pa_cons (pd_cb 0 rfl (by decide +kernel) bt_max cb_max2 (pa_cons (pd_var 7 rfl (by decide +kernel)) (pa_cons (pd_var 8 rfl (by decide +kernel)) (pa_nil)))) (pa_cons (pd_var 6 rfl (by decide +kernel)) (pa_nil)))))))))) (
    pb_frz 3 (pb_one (ps_rt (pd_tup (pa_cons (pd_ct 2 rfl (by decide +kernel) bt_tuple ct_tup (pa_cons (pd_fz (pl_comp (own := [("team", 9)]) (pi_r1 4 rfl (by decide +kernel) (pa_cons (pd_cb 5 rfl (by decide +kernel) bt_len cb_len (pa_cons (pd_var 1 rfl (by decide +kernel)) (pa_nil))) (pa_nil))) (by decide +kernel) (pg_n 9 rfl (by decide +kernel)) rfl (pts_nil) (pd_ix (pd_var 1 rfl (by decide +kernel)) (pd_idxL (pd_var 0 rfl (by decide +kernel)) (pd_var 9 rfl (by decide +kernel)))))) (pa_nil))) (pa_cons (pd_ct 2 rfl (by decide +kernel) bt_tuple ct_tup (pa_cons (pd_fz (pl_cb 3 rfl (by decide +kernel) bt_sorted cl_sorted (pa_cons (pd_var 3 rfl (by decide +kernel)) (pa_nil)))) (pa_nil))) (pa_nil))))))))
/-! _law_all_results -/
def F_law_all_results_1 : DS :=
  sAs (cOp opAdd (cVar 5) (cFz (lComp (lB iR1 (cCons (cOp opAdd (cVar 4) (cK (.int 1))) (cNil))) [7] (gN 7) (tTrue) (cOp opAdd (cVar 6) (cTup (cCons (cTup (cCons (cVar 7) (cCons (cOp opSub (cVar 4) (cVar 7)) (cNil)))) (cNil))))))) (gN 5)
def F_law_all_results_2 : DS :=
  sSeq (sAs (cFz (lLst (cNil))) (gN 5)) (
    sSeq (sFor (cIt (cVar 1)) (gN 6) (F_law_all_results_1)) (
    sAs (cVar 5) (gN 1)))
def B__law_all_results : DS :=
  sSeq (sAs (cFz (lLst (cCons (cTup (cNil)) (cNil)))) (gN 1)) (
    sSeq (sFor (cIt (cVar 0)) (gTp 3 (gCons (gN 2) (gCons (gN 3) (gCons (gN 4) (gNil))))) (F_law_all_results_2)) (
    sRt (cVar 1)))
def R__law_all_results : Fn := mkFn 1 8 B__law_all_results
theorem len__law_all_results : lenOk 1 R__law_all_results := mkFn_len _ _ _
def C__law_all_results : Ctx := { N := ["left", "found", "one", "two", "many", "more", "row", "won"], sc := defScope (topS 43), fnc := fun _ => true, k := 0, fns := [], cns := [], blt := ["range"], hof := [] }
theorem D__law_all_results : PDB C__law_all_results (defBody (topS 43)) B__law_all_results :=
  pb_cons (ps_as (pd_fz (pl_lst (pa_cons (pd_tup (pa_nil)) (pa_nil)))) (pg_n 1 rfl (by decide +kernel))) (
    pb_cons (ps_fr (pi_sq (pd_var 0 rfl (by decide +kernel))) (pg_tp (pgs_cons (pg_n 2 rfl (by decide +kernel)) (pgs_cons (pg_n 3 rfl (by decide +kernel)) (pgs_cons (pg_n 4 rfl (by decide +kernel)) (pgs_nil))))) (pb_cons (ps_as (pd_fz (pl_lst (pa_nil))) (pg_n 5 rfl (by decide +kernel))) (
    pb_cons (ps_fr (pi_sq (pd_var 1 rfl (by decide +kernel))) (pg_n 6 rfl (by decide +kernel)) (pb_one (ps_as (pd_bin od_add (pd_var 5 rfl (by decide +kernel)) (pd_fz (pl_comp (own := [("won", 7)]) (pi_r1 0 rfl (by decide +kernel) (pa_cons (pd_bin od_add (pd_var 4 rfl (by decide +kernel)) (pd_int)) (pa_nil))) (by decide +kernel) (pg_n 7 rfl (by decide +kernel)) rfl (pts_nil) (pd_bin od_add (pd_var 6 rfl (by decide +kernel)) (pd_tup (pa_cons (pd_tup (pa_cons (pd_var 7 rfl (by decide +kernel)) (pa_cons (pd_bin od_sub (pd_var 4 rfl (by decide +kernel)) (pd_var 7 rfl (by decide +kernel))) (pa_nil)))) (pa_nil))))))) (pg_n 5 rfl (by decide +kernel))))) (
    pb_one (ps_as (pd_var 5 rfl (by decide +kernel)) (pg_n 1 rfl (by decide +kernel))))))) (
    pb_one (ps_rt (pd_var 1 rfl (by decide +kernel)))))
/-! is_whole -/
def B_is_whole : DS :=
  sRt (cAnd (cB gIsi (cCons (cVar 0) (cCons (cK (.ty "int")) (cNil)))) (cNot (cB gIsi (cCons (cVar 0) (cCons (cK (.ty "bool")) (cNil))))))
def R_is_whole : Fn := mkFn 1 1 B_is_whole
theorem len_is_whole : lenOk 1 R_is_whole := mkFn_len _ _ _
def C_is_whole : Ctx := { N := ["value"], sc := defScope (topS 6), fnc := fun _ => true, k := 0, fns := [], cns := [], blt := ["isinstance", "int", "bool"], hof := [] }
theorem D_is_whole : PDB C_is_whole (defBody (topS 6)) B_is_whole :=
  pb_one (ps_rt (pd_and (pd_cb 0 rfl (by decide +kernel) bt_isinstance cb_isi (pa_cons (pd_var 0 rfl (by decide +kernel)) (pa_cons (pd_ty 1 rfl (by decide +kernel) bt_int) (pa_nil)))) (pd_one (pd_not (pd_cb 0 rfl (by decide +kernel) bt_isinstance cb_isi (pa_cons (pd_var 0 rfl (by decide +kernel)) (pa_cons (pd_ty 2 rfl (by decide +kernel) bt_bool) (pa_nil))))))))
/-! is_between -/
def B_is_between : DS :=
  sRt (cAnd (cCall R_is_whole (cCons (cVar 0) (cNil))) (cChain opLe opLe (cVar 1) (cVar 0) (cVar 2)))
def R_is_between : Fn := mkFn 3 3 B_is_between
theorem len_is_between : lenOk 3 R_is_between := mkFn_len _ _ _
def C_is_between : Ctx := { N := ["value", "low", "high"], sc := defScope (topS 7), fnc := fun _ => true, k := 2, fns := [("is_whole", ["value"], R_is_whole)], cns := [], blt := [], hof := [] }
theorem D_is_between : PDB C_is_between (defBody (topS 7)) B_is_between :=
  pb_one (ps_rt (pd_and (pd_call (ps := ["value"]) 0 rfl (by decide +kernel) len_is_whole (pa_cons (pd_var 0 rfl (by decide +kernel)) (pa_nil))) (pd_one (pd_chain od_le od_le (pd_var 1 rfl (by decide +kernel)) (pd_var 0 rfl (by decide +kernel)) (pd_var 2 rfl (by decide +kernel))))))
/-! is_wins -/
def B_is_wins : DS :=
  sRt (cCall R_is_between (cCons (cVar 0) (cCons (cK (.int 0)) (cCons (cK (.int 99)) (cNil)))))
def R_is_wins : Fn := mkFn 1 1 B_is_wins
theorem len_is_wins : lenOk 1 R_is_wins := mkFn_len _ _ _
def C_is_wins : Ctx := { N := ["value"], sc := defScope (topS 16), fnc := fun _ => true, k := 4, fns := [("is_between", ["value", "low", "high"], R_is_between)], cns := [("MOST_WINS", (.int 99))], blt := [], hof := [] }
theorem D_is_wins : PDB C_is_wins (defBody (topS 16)) B_is_wins :=
  pb_one (ps_rt (pd_call (ps := ["value", "low", "high"]) 0 rfl (by decide +kernel) len_is_between (pa_cons (pd_var 0 rfl (by decide +kernel)) (pa_cons (pd_int) (pa_cons (pd_cn 0 rfl (by decide +kernel)) (pa_nil))))))
/-! first_wrong -/
def hof_first_wrong : List (Str × List Str × Fn) := [("is_wins", ["value"], R_is_wins)]
theorem hofl_first_wrong : ∀ y ps R, hof_first_wrong.lookup y = some (ps, R) → lenOk ps.length R := by
  intro y ps R h
  have key : ∀ (l : List (Str × List Str × Fn)), (∀ z ∈ l, lenOk z.2.1.length z.2.2) → l.lookup y = some (ps, R) → lenOk ps.length R := fun l hl h => lk_len hl h
  refine key _ ?_ h
  intro z hz
  simp only [hof_first_wrong, List.mem_cons, List.not_mem_nil, or_false] at hz
  rcases hz with rfl
  · exact len_is_wins
def B_first_wrong : DS :=
  sSeq (sIf (tOr2 (tNt (cTru (cB gIsi (cCons (cVar 0) (cCons (cK (.ty "tuple")) (cNil)))))) (tNt (asB (cChain opLe opLe (cVar 1) (cB gLen (cCons (cVar 0) (cNil))) (cVar 2))))) (sRt (cFz (lLst (cCons (cK .non) (cNil))))) (sNil)) (
    sRt (cSl (cFz (lComp (lIt iEn (cCons (cVar 0) (cNil))) [4, 5] (gTp 2 (gCons (gN 4) (gCons (gN 5) (gNil)))) (tNt (cTru (cCallV 3 hof_first_wrong (cCons (cVar 5) (cNil))))) (cVar 4))) (oNo) (oSm (cK (.int 1)))))
def R_first_wrong : Fn := mkFn 4 6 B_first_wrong
theorem len_first_wrong : lenOk 4 R_first_wrong := mkFn_len _ _ _
def C_first_wrong : Ctx := { N := ["value", "fewest", "most", "is_right", "index", "each"], sc := defScope (topS 9), fnc := fun _ => true, k := 6, fns := [], cns := [], blt := ["isinstance", "tuple", "len", "enumerate"], hof := hof_first_wrong }
theorem D_first_wrong : PDB C_first_wrong (defBody (topS 9)) B_first_wrong :=
  pb_cons (ps_if ((pdw_or (pdt_not (pdt_tru (pd_cb 0 rfl (by decide +kernel) bt_isinstance cb_isi (pa_cons (pd_var 0 rfl (by decide +kernel)) (pa_cons (pd_ty 1 rfl (by decide +kernel) bt_tuple) (pa_nil)))))) (pdw_or1 (pdt_not (pdt_chain od_le od_le (pd_var 1 rfl (by decide +kernel)) (pd_cb 2 rfl (by decide +kernel) bt_len cb_len (pa_cons (pd_var 0 rfl (by decide +kernel)) (pa_nil))) (pd_var 2 rfl (by decide +kernel)))))).t) (pb_one (ps_rt (pd_fz (pl_lst (pa_cons (pd_non) (pa_nil)))))) (pb_nil)) (
    pb_one (ps_rt (pd_sl (pd_fz (pl_comp (own := [("index", 4), ("each", 5)]) (pi_en 3 rfl (by decide +kernel) (pa_cons (pd_var 0 rfl (by decide +kernel)) (pa_nil))) (by decide +kernel) (pg_tp (pgs_cons (pg_n 4 rfl (by decide +kernel)) (pgs_cons (pg_n 5 rfl (by decide +kernel)) (pgs_nil)))) rfl (pts_one (pdt_not (pdt_tru (pd_callv 3 rfl (by decide +kernel) hofl_first_wrong (pa_cons (pd_var 5 rfl (by decide +kernel)) (pa_nil)))))) (pd_var 4 rfl (by decide +kernel)))) (po_no) (po_sm (pd_int)))))
/-! wrong_in_wins -/
def B_wrong_in_wins : DS :=
  sRt (cCall R_first_wrong (cCons (cVar 0) (cCons (cK (.int 2)) (cCons (cK (.int 5)) (cCons (cK (.fn "is_wins")) (cNil))))))
def R_wrong_in_wins : Fn := mkFn 1 1 B_wrong_in_wins
theorem len_wrong_in_wins : lenOk 1 R_wrong_in_wins := mkFn_len _ _ _
def C_wrong_in_wins : Ctx := { N := ["value"], sc := defScope (topS 17), fnc := fun _ => true, k := 8, fns := [("first_wrong", ["value", "fewest", "most", "is_right"], R_first_wrong), ("is_wins", ["value"], R_is_wins)], cns := [("MOST_TEAMS", (.int 5)), ("FEWEST_TEAMS", (.int 2))], blt := [], hof := [] }
theorem D_wrong_in_wins : PDB C_wrong_in_wins (defBody (topS 17)) B_wrong_in_wins :=
  pb_one (ps_rt (pd_call (ps := ["value", "fewest", "most", "is_right"]) 0 rfl (by decide +kernel) len_first_wrong (pa_cons (pd_var 0 rfl (by decide +kernel)) (pa_cons (pd_cn 1 rfl (by decide +kernel)) (pa_cons (pd_cn 0 rfl (by decide +kernel)) (pa_cons (pd_fn 1 rfl (by decide +kernel)) (pa_nil)))))))
/-! is_tuple_of -/
def B_is_tuple_of : DS :=
  sRt (cAnd (cB gIsi (cCons (cVar 0) (cCons (cK (.ty "tuple")) (cNil)))) (cOp opEq (cB gLen (cCons (cVar 0) (cNil))) (cVar 1)))
def R_is_tuple_of : Fn := mkFn 2 2 B_is_tuple_of
theorem len_is_tuple_of : lenOk 2 R_is_tuple_of := mkFn_len _ _ _
def C_is_tuple_of : Ctx := { N := ["value", "many"], sc := defScope (topS 8), fnc := fun _ => true, k := 0, fns := [], cns := [], blt := ["isinstance", "tuple", "len"], hof := [] }
theorem D_is_tuple_of : PDB C_is_tuple_of (defBody (topS 8)) B_is_tuple_of :=
  pb_one (ps_rt (pd_and (pd_cb 0 rfl (by decide +kernel) bt_isinstance cb_isi (pa_cons (pd_var 0 rfl (by decide +kernel)) (pa_cons (pd_ty 1 rfl (by decide +kernel) bt_tuple) (pa_nil)))) (pd_one (pd_cmp od_eq (pd_cb 2 rfl (by decide +kernel) bt_len cb_len (pa_cons (pd_var 0 rfl (by decide +kernel)) (pa_nil))) (pd_var 1 rfl (by decide +kernel))))))
/-! are_indexes -/
def B_are_indexes : DS :=
  sRt (cAnd (cB gIsi (cCons (cVar 1) (cCons (cK (.ty "tuple")) (cNil)))) (cB gAll (cCons (cFz (lComp (cIt (cVar 1)) [2] (gN 2) (tTrue) (cCall R_is_between (cCons (cVar 2) (cCons (cK (.int 0)) (cCons (cOp opSub (cVar 0) (cK (.int 1))) (cNil))))))) (cNil))))
def R_are_indexes : Fn := mkFn 2 3 B_are_indexes
theorem len_are_indexes : lenOk 2 R_are_indexes := mkFn_len _ _ _
def C_are_indexes : Ctx := { N := ["many", "value", "each"], sc := defScope (topS 10), fnc := fun _ => true, k := 4, fns := [("is_between", ["value", "low", "high"], R_is_between)], cns := [], blt := ["isinstance", "tuple", "all"], hof := [] }
theorem D_are_indexes : PDB C_are_indexes (defBody (topS 10)) B_are_indexes :=
  pb_one (ps_rt (pd_and (pd_cb 0 rfl (by decide +kernel) bt_isinstance cb_isi (pa_cons (pd_var 1 rfl (by decide +kernel)) (pa_cons (pd_ty 1 rfl (by decide +kernel) bt_tuple) (pa_nil)))) (pd_one (pd_cb 2 rfl (by decide +kernel) bt_all cb_all (pa_cons (pd_fz (pl_comp (own := [("each", 2)]) (pi_sq (pd_var 1 rfl (by decide +kernel))) (by decide +kernel) (pg_n 2 rfl (by decide +kernel)) rfl (pts_nil) (pd_call (ps := ["value", "low", "high"]) 0 rfl (by decide +kernel) len_is_between (pa_cons (pd_var 2 rfl (by decide +kernel)) (pa_cons (pd_int) (pa_cons (pd_bin od_sub (pd_var 0 rfl (by decide +kernel)) (pd_int)) (pa_nil))))))) (pa_nil))))))
/-! is_triple -/
def B_is_triple : DS :=
  sSeq (sIf (tOr2 (tNt (cTru (cCall R_is_tuple_of (cCons (cVar 2) (cCons (cK (.int 3)) (cNil)))))) (tNt (cTru (cCall R_are_indexes (cCons (cVar 0) (cCons (cSl (cVar 2) (oNo) (oSm (cK (.int 2)))) (cNil))))))) (sRt (cK (.bl false))) (sNil)) (
    sRt (cAnd (cOp opLt (cOp ixD (cVar 2) (cK (.int 0))) (cOp ixD (cVar 2) (cK (.int 1)))) (cCall R_is_between (cCons (cOp ixD (cVar 2) (cK (.int 2))) (cCons (cK (.int 1)) (cCons (cVar 1) (cNil)))))))
def R_is_triple : Fn := mkFn 3 3 B_is_triple
theorem len_is_triple : lenOk 3 R_is_triple := mkFn_len _ _ _
def C_is_triple : Ctx := { N := ["many", "most", "value"], sc := defScope (topS 18), fnc := fun _ => true, k := 6, fns := [("is_tuple_of", ["value", "many"], R_is_tuple_of), ("are_indexes", ["many", "value"], R_are_indexes), ("is_between", ["value", "low", "high"], R_is_between)], cns := [], blt := [], hof := [] }
theorem D_is_triple : PDB C_is_triple (defBody (topS 18)) B_is_triple :=
  pb_cons (ps_if ((pdw_or (pdt_not (pdt_tru (pd_call (ps := ["value", "many"]) 0 rfl (by decide +kernel) len_is_tuple_of (pa_cons (pd_var 2 rfl (by decide +kernel)) (pa_cons (pd_int) (pa_nil)))))) (pdw_or1 (pdt_not (pdt_tru (pd_call (ps := ["many", "value"]) 1 rfl (by decide +kernel) len_are_indexes (pa_cons (pd_var 0 rfl (by decide +kernel)) (pa_cons (pd_sl (pd_var 2 rfl (by decide +kernel)) (po_no) (po_sm (pd_int))) (pa_nil)))))))).t) (pb_one (ps_rt (pd_bl))) (pb_nil)) (
    pb_one (ps_rt (pd_and (pd_cmp od_lt (pd_ix (pd_var 2 rfl (by decide +kernel)) (pd_int)) (pd_ix (pd_var 2 rfl (by decide +kernel)) (pd_int))) (pd_one (pd_call (ps := ["value", "low", "high"]) 2 rfl (by decide +kernel) len_is_between (pa_cons (pd_ix (pd_var 2 rfl (by decide +kernel)) (pd_int)) (pa_cons (pd_int) (pa_cons (pd_var 1 rfl (by decide +kernel)) (pa_nil)))))))))
/-! wrong_in_triples -/
def F_wrong_in_triples_1 : DS :=
  sIf (tOr2 (tNt (cTru (cCall R_is_triple (cCons (cVar 0) (cCons (cVar 1) (cCons (cVar 4) (cNil))))))) (tAn (asB (cOp opGt (cVar 3) (cK (.int 0)))) (asB (cOp opLeT (cSl (cVar 4) (oNo) (oSm (cK (.int 2)))) (cSl (cOp ixD (cVar 2) (cOp opSub (cVar 3) (cK (.int 1)))) (oNo) (oSm (cK (.int 2)))))))) (sRt (cFz (lLst (cCons (cVar 3) (cNil))))) (sNil)
def B_wrong_in_triples : DS :=
  sSeq (sIf (tNt (cTru (cB gIsi (cCons (cVar 2) (cCons (cK (.ty "tuple")) (cNil)))))) (sRt (cFz (lLst (cCons (cK .non) (cNil))))) (sNil)) (
    sSeq (sFor (lIt iEn (cCons (cVar 2) (cNil))) (gTp 2 (gCons (gN 3) (gCons (gN 4) (gNil)))) (F_wrong_in_triples_1)) (
    sRt (cFz (lLst (cNil)))))
def R_wrong_in_triples : Fn := mkFn 3 5 B_wrong_in_triples
theorem len_wrong_in_triples : lenOk 3 R_wrong_in_triples := mkFn_len _ _ _
def C_wrong_in_triples : Ctx := { N := ["many", "most", "value", "index", "each"], sc := defScope (topS 19), fnc := fun _ => true, k := 8, fns := [("is_triple", ["many", "most", "value"], R_is_triple)], cns := [], blt := ["isinstance", "tuple", "enumerate"], hof := [] }
theorem D_wrong_in_triples : PDB C_wrong_in_triples (defBody (topS 19)) B_wrong_in_triples :=
  pb_cons (ps_if (pdt_not (pdt_tru (pd_cb 0 rfl (by decide +kernel) bt_isinstance cb_isi (pa_cons (pd_var 2 rfl (by decide +kernel)) (pa_cons (pd_ty 1 rfl (by decide +kernel) bt_tuple) (pa_nil)))))) (pb_one (ps_rt (pd_fz (pl_lst (pa_cons (pd_non) (pa_nil)))))) (pb_nil)) (
    pb_cons (ps_fr (pi_en 2 rfl (by decide +kernel) (pa_cons (pd_var 2 rfl (by decide +kernel)) (pa_nil))) (pg_tp (pgs_cons (pg_n 3 rfl (by decide +kernel)) (pgs_cons (pg_n 4 rfl (by decide +kernel)) (pgs_nil)))) (pb_one (ps_if ((pdw_or (pdt_not (pdt_tru (pd_call (ps := ["many", "most", "value"]) 0 rfl (by decide +kernel) len_is_triple (pa_cons (pd_var 0 rfl (by decide +kernel)) (pa_cons (pd_var 1 rfl (by decide +kernel)) (pa_cons (pd_var 4 rfl (by decide +kernel)) (pa_nil))))))) (pdw_or1 ((pdw_and (pdt_cmp od_gt (pd_var 3 rfl (by decide +kernel)) (pd_int)) (pdw_and1 (pdt_cmp od_leT (pd_sl (pd_var 4 rfl (by decide +kernel)) (po_no) (po_sm (pd_int))) (pd_sl (pd_ix (pd_var 2 rfl (by decide +kernel)) (pd_bin od_sub (pd_var 3 rfl (by decide +kernel)) (pd_int))) (po_no) (po_sm (pd_int)))))).t))).t) (pb_one (ps_rt (pd_fz (pl_lst (pa_cons (pd_var 3 rfl (by decide +kernel)) (pa_nil)))))) (pb_nil)))) (
    pb_one (ps_rt (pd_fz (pl_lst (pa_nil))))))
/-! wrong_in_left -/
def B_wrong_in_left : DS :=
  sRt (cCall R_wrong_in_triples (cCons (cVar 0) (cCons (cK (.int 20)) (cCons (cVar 1) (cNil)))))
def R_wrong_in_left : Fn := mkFn 2 2 B_wrong_in_left
theorem len_wrong_in_left : lenOk 2 R_wrong_in_left := mkFn_len _ _ _
def C_wrong_in_left : Ctx := { N := ["many", "value"], sc := defScope (topS 20), fnc := fun _ => true, k := 10, fns := [("wrong_in_triples", ["many", "most", "value"], R_wrong_in_triples)], cns := [("MOST_GAMES", (.int 20))], blt := [], hof := [] }
theorem D_wrong_in_left : PDB C_wrong_in_left (defBody (topS 20)) B_wrong_in_left :=
  pb_one (ps_rt (pd_call (ps := ["many", "most", "value"]) 0 rfl (by decide +kernel) len_wrong_in_triples (pa_cons (pd_var 0 rfl (by decide +kernel)) (pa_cons (pd_cn 0 rfl (by decide +kernel)) (pa_cons (pd_var 1 rfl (by decide +kernel)) (pa_nil))))))
/-! check_season -/
def F_check_season_1 : DS :=
  sBad
def F_check_season_2 : DS :=
  sBad
def B_check_season : DS :=
  sSeq (sFor (cIt (cCall R_wrong_in_wins (cCons (cVar 0) (cNil)))) (gN 2) (F_check_season_1)) (
    sFor (cIt (cCall R_wrong_in_left (cCons (cB gLen (cCons (cVar 0) (cNil))) (cCons (cVar 1) (cNil))))) (gN 2) (F_check_season_2))
def R_check_season : Fn := mkFn 2 3 B_check_season
theorem len_check_season : lenOk 2 R_check_season := mkFn_len _ _ _
def C_check_season : Ctx := { N := ["wins", "left", "index"], sc := defScope (topS 30), fnc := fun _ => true, k := 12, fns := [("wrong_in_wins", ["value"], R_wrong_in_wins), ("wrong_in_left", ["many", "value"], R_wrong_in_left)], cns := [], blt := ["len"], hof := [] }
theorem D_check_season : PDB C_check_season (defBody (topS 30)) B_check_season :=
  pb_cons (ps_fr (pi_sq (pd_call (ps := ["value"]) 0 rfl (by decide +kernel) len_wrong_in_wins (pa_cons (pd_var 0 rfl (by decide +kernel)) (pa_nil)))) (pg_n 2 rfl (by decide +kernel)) (pb_one (ps_bad))) (
    pb_one (ps_fr (pi_sq (pd_call (ps := ["many", "value"]) 1 rfl (by decide +kernel) len_wrong_in_left (pa_cons (pd_cb 0 rfl (by decide +kernel) bt_len cb_len (pa_cons (pd_var 0 rfl (by decide +kernel)) (pa_nil))) (pa_cons (pd_var 1 rfl (by decide +kernel)) (pa_nil))))) (pg_n 2 rfl (by decide +kernel)) (pb_one (ps_bad))))
/-! lots_of_others -/
def F_lots_of_others_1 : DS :=
  sIf (asB (cOp opNe (cVar 3) (cVar 1))) (sAs (cOp opAdd (cVar 2) (cFz (lComp (cIt (cVar 2)) [4] (gN 4) (tTrue) (cTup (cStar (cVar 4) (cCons (cVar 3) (cNil))))))) (gN 2)) (sNil)
def B_lots_of_others : DS :=
  sSeq (sAs (cFz (lLst (cCons (cTup (cNil)) (cNil)))) (gN 2)) (
    sSeq (sFor (lB iR1 (cCons (cVar 0) (cNil))) (gN 3) (F_lots_of_others_1)) (
    sRt (cSl (cFz (lB gSrt (cCons (cVar 2) (cNil)))) (oSm (cK (.int 1))) (oNo))))
def R_lots_of_others : Fn := mkFn 2 5 B_lots_of_others
theorem len_lots_of_others : lenOk 2 R_lots_of_others := mkFn_len _ _ _
def C_lots_of_others : Ctx := { N := ["many", "team", "found", "other", "lot"], sc := defScope (topS 25), fnc := fun _ => true, k := 0, fns := [], cns := [], blt := ["range", "sorted"], hof := [] }
theorem D_lots_of_others : PDB C_lots_of_others (defBody (topS 25)) B_lots_of_others :=
  pb_cons (ps_as (pd_fz (pl_lst (pa_cons (pd_tup (pa_nil)) (pa_nil)))) (pg_n 2 rfl (by decide +kernel))) (
    pb_cons (ps_fr (pi_r1 0 rfl (by decide +kernel) (pa_cons (pd_var 0 rfl (by decide +kernel)) (pa_nil))) (pg_n 3 rfl (by decide +kernel)) (pb_one (ps_if (pdt_cmp od_ne (pd_var 3 rfl (by decide +kernel)) (pd_var 1 rfl (by decide +kernel))) (pb_one (ps_as (pd_bin od_add (pd_var 2 rfl (by decide +kernel)) (pd_fz (pl_comp (own := [("lot", 4)]) (pi_sq (pd_var 2 rfl (by decide +kernel))) (by decide +kernel) (pg_n 4 rfl (by decide +kernel)) rfl (pts_nil) (pd_tup (pa_starT (pd_var 4 rfl (by decide +kernel)) (pa_cons (pd_var 3 rfl (by decide +kernel)) (pa_nil))))))) (pg_n 2 rfl (by decide +kernel)))) (pb_nil)))) (
    pb_one (ps_rt (pd_sl (pd_fz (pl_cb 1 rfl (by decide +kernel) bt_sorted cl_sorted (pa_cons (pd_var 2 rfl (by decide +kernel)) (pa_nil)))) (po_sm (pd_int)) (po_no)))))
/-! games_among -/
def B_games_among : DS :=
  sRt (cB gSum (cCons (cFz (lComp (cIt (cVar 0)) [2, 3, 4] (gTp 3 (gCons (gN 2) (gCons (gN 3) (gCons (gN 4) (gNil))))) (tAn (asB (cOp opIn (cVar 2) (cVar 1))) (asB (cOp opIn (cVar 3) (cVar 1)))) (cVar 4))) (cNil)))
def R_games_among : Fn := mkFn 2 5 B_games_among
theorem len_games_among : lenOk 2 R_games_among := mkFn_len _ _ _
def C_games_among : Ctx := { N := ["left", "lot", "one", "two", "games"], sc := defScope (topS 23), fnc := fun _ => true, k := 0, fns := [], cns := [], blt := ["sum"], hof := [] }
theorem D_games_among : PDB C_games_among (defBody (topS 23)) B_games_among :=
  pb_one (ps_rt (pd_cb 0 rfl (by decide +kernel) bt_sum cb_sum (pa_cons (pd_fz (pl_comp (own := [("one", 2), ("two", 3), ("games", 4)]) (pi_sq (pd_var 0 rfl (by decide +kernel))) (by decide +kernel) (pg_tp (pgs_cons (pg_n 2 rfl (by decide +kernel)) (pgs_cons (pg_n 3 rfl (by decide +kernel)) (pgs_cons (pg_n 4 rfl (by decide +kernel)) (pgs_nil))))) rfl (pts_one ((pdw_and (pdt_cmp od_in (pd_var 2 rfl (by decide +kernel)) (pd_var 1 rfl (by decide +kernel))) (pdw_and1 (pdt_cmp od_in (pd_var 3 rfl (by decide +kernel)) (pd_var 1 rfl (by decide +kernel))))).t)) (pd_var 4 rfl (by decide +kernel)))) (pa_nil))))
/-! is_over -/
def B_is_over : DS :=
  sRt (cOp opGt (cOp opAdd (cB gSum (cCons (cFz (lComp (cIt (cVar 3)) [4] (gN 4) (tTrue) (cOp ixD (cVar 0) (cVar 4)))) (cNil))) (cCall R_games_among (cCons (cVar 1) (cCons (cVar 3) (cNil))))) (cOp opMul (cVar 2) (cB gLen (cCons (cVar 3) (cNil)))))
def R_is_over : Fn := mkFn 4 5 B_is_over
theorem len_is_over : lenOk 4 R_is_over := mkFn_len _ _ _
def C_is_over : Ctx := { N := ["wins", "left", "most", "lot", "team"], sc := defScope (topS 24), fnc := fun _ => true, k := 2, fns := [("games_among", ["left", "lot"], R_games_among)], cns := [], blt := ["sum", "len"], hof := [] }
theorem D_is_over : PDB C_is_over (defBody (topS 24)) B_is_over :=
  pb_one (ps_rt (pd_cmp od_gt (pd_bin od_add (pd_cb 0 rfl (by decide +kernel) bt_sum cb_sum (pa_cons (pd_fz (pl_comp (own := [("team", 4)]) (pi_sq (pd_var 3 rfl (by decide +kernel))) (by decide +kernel) (pg_n 4 rfl (by decide +kernel)) rfl (pts_nil) (pd_ix (pd_var 0 rfl (by decide +kernel)) (pd_var 4 rfl (by decide +kernel))))) (pa_nil))) (pd_call (ps := ["left", "lot"]) 0 rfl (by decide +kernel) len_games_among (pa_cons (pd_var 1 rfl (by decide +kernel)) (pa_cons (pd_var 3 rfl (by decide +kernel)) (pa_nil))))) (pd_bin od_mul (pd_var 2 rfl (by decide +kernel)) (pd_cb 1 rfl (by decide +kernel) bt_len cb_len (pa_cons (pd_var 3 rfl (by decide +kernel)) (pa_nil))))))
/-! lot_over_most -/
def F_lot_over_most_1 : DS :=
  sIf (cTru (cCall R_is_over (cCons (cVar 0) (cCons (cVar 1) (cCons (cVar 3) (cCons (cVar 4) (cNil))))))) (sRt (cVar 4)) (sNil)
def B_lot_over_most : DS :=
  sSeq (sFor (cIt (cCall R_lots_of_others (cCons (cB gLen (cCons (cVar 0) (cNil))) (cCons (cVar 2) (cNil))))) (gN 4) (F_lot_over_most_1)) (
    sRt (cK .non))
def R_lot_over_most : Fn := mkFn 4 5 B_lot_over_most
theorem len_lot_over_most : lenOk 4 R_lot_over_most := mkFn_len _ _ _
def C_lot_over_most : Ctx := { N := ["wins", "left", "team", "most", "lot"], sc := defScope (topS 26), fnc := fun _ => true, k := 4, fns := [("lots_of_others", ["many", "team"], R_lots_of_others), ("is_over", ["wins", "left", "most", "lot"], R_is_over)], cns := [], blt := ["len"], hof := [] }
theorem D_lot_over_most : PDB C_lot_over_most (defBody (topS 26)) B_lot_over_most :=
  pb_cons (ps_fr (pi_sq (pd_call (ps := ["many", "team"]) 0 rfl (by decide +kernel) len_lots_of_others (pa_cons (pd_cb 0 rfl (by decide +kernel) bt_len cb_len (pa_cons (pd_var 0 rfl (by decide +kernel)) (pa_nil))) (pa_cons (pd_var 2 rfl (by decide +kernel)) (pa_nil))))) (pg_n 4 rfl (by decide +kernel)) (pb_one (ps_if (pdt_tru (pd_call (ps := ["wins", "left", "most", "lot"]) 1 rfl (by decide +kernel) len_is_over (pa_cons (pd_var 0 rfl (by decide +kernel)) (pa_cons (pd_var 1 rfl (by decide +kernel)) (pa_cons (pd_var 3 rfl (by decide +kernel)) (pa_cons (pd_var 4 rfl (by decide +kernel)) (pa_nil))))))) (pb_one (ps_rt (pd_var 4 rfl (by decide +kernel)))) (pb_nil)))) (
    pb_one (ps_rt (pd_non)))
/-! games_left_by -/
def B_games_left_by : DS :=
  sRt (cB gSum (cCons (cFz (lComp (cIt (cVar 0)) [2, 3, 4] (gTp 3 (gCons (gN 2) (gCons (gN 3) (gCons (gN 4) (gNil))))) (asB (cOp opIn (cVar 1) (cTup (cCons (cVar 2) (cCons (cVar 3) (cNil)))))) (cVar 4))) (cNil)))
def R_games_left_by : Fn := mkFn 2 5 B_games_left_by
theorem len_games_left_by : lenOk 2 R_games_left_by := mkFn_len _ _ _
def C_games_left_by : Ctx := { N := ["left", "team", "one", "two", "games"], sc := defScope (topS 21), fnc := fun _ => true, k := 0, fns := [], cns := [], blt := ["sum"], hof := [] }
theorem D_games_left_by : PDB C_games_left_by (defBody (topS 21)) B_games_left_by :=
  pb_one (ps_rt (pd_cb 0 rfl (by decide +kernel) bt_sum cb_sum (pa_cons (pd_fz (pl_comp (own := [("one", 2), ("two", 3), ("games", 4)]) (pi_sq (pd_var 0 rfl (by decide +kernel))) (by decide +kernel) (pg_tp (pgs_cons (pg_n 2 rfl (by decide +kernel)) (pgs_cons (pg_n 3 rfl (by decide +kernel)) (pgs_cons (pg_n 4 rfl (by decide +kernel)) (pgs_nil))))) rfl (pts_one (pdt_cmp od_in (pd_var 1 rfl (by decide +kernel)) (pd_tup (pa_cons (pd_var 2 rfl (by decide +kernel)) (pa_cons (pd_var 3 rfl (by decide +kernel)) (pa_nil)))))) (pd_var 4 rfl (by decide +kernel)))) (pa_nil))))
/-! most_wins_by -/
def B_most_wins_by : DS :=
  sRt (cOp opAdd (cOp ixD (cVar 0) (cVar 2)) (cCall R_games_left_by (cCons (cVar 1) (cCons (cVar 2) (cNil)))))
def R_most_wins_by : Fn := mkFn 3 3 B_most_wins_by
theorem len_most_wins_by : lenOk 3 R_most_wins_by := mkFn_len _ _ _
def C_most_wins_by : Ctx := { N := ["wins", "left", "team"], sc := defScope (topS 22), fnc := fun _ => true, k := 2, fns := [("games_left_by", ["left", "team"], R_games_left_by)], cns := [], blt := [], hof := [] }
theorem D_most_wins_by : PDB C_most_wins_by (defBody (topS 22)) B_most_wins_by :=
  pb_one (ps_rt (pd_bin od_add (pd_ix (pd_var 0 rfl (by decide +kernel)) (pd_var 2 rfl (by decide +kernel))) (pd_call (ps := ["left", "team"]) 0 rfl (by decide +kernel) len_games_left_by (pa_cons (pd_var 1 rfl (by decide +kernel)) (pa_cons (pd_var 2 rfl (by decide +kernel)) (pa_nil))))))
/-! lot_over_by -/
def B_lot_over_by : DS :=
  sRt (cCall R_lot_over_most (cCons (cVar 0) (cCons (cVar 1) (cCons (cVar 2) (cCons (cCall R_most_wins_by (cCons (cVar 0) (cCons (cVar 1) (cCons (cVar 2) (cNil))))) (cNil))))))
def R_lot_over_by : Fn := mkFn 3 3 B_lot_over_by
theorem len_lot_over_by : lenOk 3 R_lot_over_by := mkFn_len _ _ _
def C_lot_over_by : Ctx := { N := ["wins", "left", "team"], sc := defScope (topS 27), fnc := fun _ => true, k := 6, fns := [("lot_over_most", ["wins", "left", "team", "most"], R_lot_over_most), ("most_wins_by", ["wins", "left", "team"], R_most_wins_by)], cns := [], blt := [], hof := [] }
theorem D_lot_over_by : PDB C_lot_over_by (defBody (topS 27)) B_lot_over_by :=
  pb_one (ps_rt (pd_call (ps := ["wins", "left", "team", "most"]) 0 rfl (by decide +kernel) len_lot_over_most (pa_cons (pd_var 0 rfl (by decide +kernel)) (pa_cons (pd_var 1 rfl (by decide +kernel)) (pa_cons (pd_var 2 rfl (by decide +kernel)) (pa_cons (pd_call (ps := ["wins", "left", "team"]) 1 rfl (by decide +kernel) len_most_wins_by (pa_cons (pd_var 0 rfl (by decide +kernel)) (pa_cons (pd_var 1 rfl (by decide +kernel)) (pa_cons (pd_var 2 rfl (by decide +kernel)) (pa_nil))))) (pa_nil)))))))
/-! can_be_first_by -/
def B_can_be_first_by : DS :=
  sRt (cOp opIs (cCall R_lot_over_by (cCons (cVar 0) (cCons (cVar 1) (cCons (cVar 2) (cNil))))) (cK .non))
def R_can_be_first_by : Fn := mkFn 3 3 B_can_be_first_by
theorem len_can_be_first_by : lenOk 3 R_can_be_first_by := mkFn_len _ _ _
def C_can_be_first_by : Ctx := { N := ["wins", "left", "team"], sc := defScope (topS 28), fnc := fun _ => true, k := 8, fns := [("lot_over_by", ["wins", "left", "team"], R_lot_over_by)], cns := [], blt := [], hof := [] }
theorem D_can_be_first_by : PDB C_can_be_first_by (defBody (topS 28)) B_can_be_first_by :=
  pb_one (ps_rt (pd_cmp od_is (pd_call (ps := ["wins", "left", "team"]) 0 rfl (by decide +kernel) len_lot_over_by (pa_cons (pd_var 0 rfl (by decide +kernel)) (pa_cons (pd_var 1 rfl (by decide +kernel)) (pa_cons (pd_var 2 rfl (by decide +kernel)) (pa_nil))))) (pd_non)))
/-! firsts -/
def B_firsts : DS :=
  sSeq (sEx (cCall R_check_season (cCons (cVar 0) (cCons (cVar 1) (cNil))))) (
    sRt (cB gTup (cCons (cFz (lComp (lB iR1 (cCons (cB gLen (cCons (cVar 0) (cNil))) (cNil))) [2] (gN 2) (cTru (cCall R_can_be_first_by (cCons (cVar 0) (cCons (cVar 1) (cCons (cVar 2) (cNil)))))) (cVar 2))) (cNil))))
def R_firsts : Fn := mkFn 2 3 B_firsts
theorem len_firsts : lenOk 2 R_firsts := mkFn_len _ _ _
def C_firsts : Ctx := { N := ["wins", "left", "team"], sc := defScope (topS 34), fnc := fun _ => true, k := 14, fns := [("check_season", ["wins", "left"], R_check_season), ("can_be_first_by", ["wins", "left", "team"], R_can_be_first_by)], cns := [], blt := ["tuple", "range", "len"], hof := [] }
theorem D_firsts : PDB C_firsts (defBody (topS 34)) B_firsts :=
  pb_cons (ps_ex (pd_call (ps := ["wins", "left"]) 0 rfl (by decide +kernel) len_check_season (pa_cons (pd_var 0 rfl (by decide +kernel)) (pa_cons (pd_var 1 rfl (by decide +kernel)) (pa_nil))))) (
    pb_one (ps_rt (pd_ct 0 rfl (by decide +kernel) bt_tuple ct_tup (pa_cons (pd_fz (pl_comp (own := [("team", 2)]) (pi_r1 1 rfl (by decide +kernel) (pa_cons (pd_cb 2 rfl (by decide +kernel) bt_len cb_len (pa_cons (pd_var 0 rfl (by decide +kernel)) (pa_nil))) (pa_nil))) (by decide +kernel) (pg_n 2 rfl (by decide +kernel)) rfl (pts_one (pdt_tru (pd_call (ps := ["wins", "left", "team"]) 1 rfl (by decide +kernel) len_can_be_first_by (pa_cons (pd_var 0 rfl (by decide +kernel)) (pa_cons (pd_var 1 rfl (by decide +kernel)) (pa_cons (pd_var 2 rfl (by decide +kernel)) (pa_nil))))))) (pd_var 2 rfl (by decide +kernel)))) (pa_nil)))))
/-! check_team -/
def B_check_team : DS :=
  sSeq (sEx (cCall R_check_season (cCons (cVar 0) (cCons (cVar 1) (cNil))))) (
    sIf (tNt (cTru (cCall R_is_between (cCons (cVar 2) (cCons (cK (.int 0)) (cCons (cOp opSub (cB gLen (cCons (cVar 0) (cNil))) (cK (.int 1))) (cNil))))))) (sBad) (sNil))
def R_check_team : Fn := mkFn 3 3 B_check_team
theorem len_check_team : lenOk 3 R_check_team := mkFn_len _ _ _
def C_check_team : Ctx := { N := ["wins", "left", "team"], sc := defScope (topS 31), fnc := fun _ => true, k := 14, fns := [("check_season", ["wins", "left"], R_check_season), ("is_between", ["value", "low", "high"], R_is_between)], cns := [], blt := ["len"], hof := [] }
theorem D_check_team : PDB C_check_team (defBody (topS 31)) B_check_team :=
  pb_cons (ps_ex (pd_call (ps := ["wins", "left"]) 0 rfl (by decide +kernel) len_check_season (pa_cons (pd_var 0 rfl (by decide +kernel)) (pa_cons (pd_var 1 rfl (by decide +kernel)) (pa_nil))))) (
    pb_one (ps_if (pdt_not (pdt_tru (pd_call (ps := ["value", "low", "high"]) 1 rfl (by decide +kernel) len_is_between (pa_cons (pd_var 2 rfl (by decide +kernel)) (pa_cons (pd_int) (pa_cons (pd_bin od_sub (pd_cb 0 rfl (by decide +kernel) bt_len cb_len (pa_cons (pd_var 0 rfl (by decide +kernel)) (pa_nil))) (pd_int)) (pa_nil))))))) (pb_one (ps_bad)) (pb_nil)))
/-! most_wins -/
def B_most_wins : DS :=
  sSeq (sEx (cCall R_check_team (cCons (cVar 0) (cCons (cVar 1) (cCons (cVar 2) (cNil)))))) (
    sRt (cCall R_most_wins_by (cCons (cVar 0) (cCons (cVar 1) (cCons (cVar 2) (cNil))))))
def R_most_wins : Fn := mkFn 3 3 B_most_wins
theorem len_most_wins : lenOk 3 R_most_wins := mkFn_len _ _ _
def C_most_wins : Ctx := { N := ["wins", "left", "team"], sc := defScope (topS 32), fnc := fun _ => true, k := 16, fns := [("check_team", ["wins", "left", "team"], R_check_team), ("most_wins_by", ["wins", "left", "team"], R_most_wins_by)], cns := [], blt := [], hof := [] }
theorem D_most_wins : PDB C_most_wins (defBody (topS 32)) B_most_wins :=
  pb_cons (ps_ex (pd_call (ps := ["wins", "left", "team"]) 0 rfl (by decide +kernel) len_check_team (pa_cons (pd_var 0 rfl (by decide +kernel)) (pa_cons (pd_var 1 rfl (by decide +kernel)) (pa_cons (pd_var 2 rfl (by decide +kernel)) (pa_nil)))))) (
    pb_one (ps_rt (pd_call (ps := ["wins", "left", "team"]) 1 rfl (by decide +kernel) len_most_wins_by (pa_cons (pd_var 0 rfl (by decide +kernel)) (pa_cons (pd_var 1 rfl (by decide +kernel)) (pa_cons (pd_var 2 rfl (by decide +kernel)) (pa_nil)))))))
/-! can_be_first -/
def B_can_be_first : DS :=
  sSeq (sEx (cCall R_check_team (cCons (cVar 0) (cCons (cVar 1) (cCons (cVar 2) (cNil)))))) (
    sRt (cCall R_can_be_first_by (cCons (cVar 0) (cCons (cVar 1) (cCons (cVar 2) (cNil))))))
def R_can_be_first : Fn := mkFn 3 3 B_can_be_first
theorem len_can_be_first : lenOk 3 R_can_be_first := mkFn_len _ _ _
def C_can_be_first : Ctx := { N := ["wins", "left", "team"], sc := defScope (topS 33), fnc := fun _ => true, k := 16, fns := [("check_team", ["wins", "left", "team"], R_check_team), ("can_be_first_by", ["wins", "left", "team"], R_can_be_first_by)], cns := [], blt := [], hof := [] }
theorem D_can_be_first : PDB C_can_be_first (defBody (topS 33)) B_can_be_first :=
  pb_cons (ps_ex (pd_call (ps := ["wins", "left", "team"]) 0 rfl (by decide +kernel) len_check_team (pa_cons (pd_var 0 rfl (by decide +kernel)) (pa_cons (pd_var 1 rfl (by decide +kernel)) (pa_cons (pd_var 2 rfl (by decide +kernel)) (pa_nil)))))) (
    pb_one (ps_rt (pd_call (ps := ["wins", "left", "team"]) 1 rfl (by decide +kernel) len_can_be_first_by (pa_cons (pd_var 0 rfl (by decide +kernel)) (pa_cons (pd_var 1 rfl (by decide +kernel)) (pa_cons (pd_var 2 rfl (by decide +kernel)) (pa_nil)))))))
/-! _law_is_num -/
def B__law_is_num : DS :=
  sRt (cAnd (cB gIsi (cCons (cVar 0) (cCons (cK (.ty "int")) (cNil)))) (cNot (cB gIsi (cCons (cVar 0) (cCons (cK (.ty "bool")) (cNil))))))
def R__law_is_num : Fn := mkFn 1 1 B__law_is_num
theorem len__law_is_num : lenOk 1 R__law_is_num := mkFn_len _ _ _
def C__law_is_num : Ctx := { N := ["value"], sc := defScope (topS 39), fnc := fun _ => true, k := 0, fns := [], cns := [], blt := ["isinstance", "int", "bool"], hof := [] }
theorem D__law_is_num : PDB C__law_is_num (defBody (topS 39)) B__law_is_num :=
  pb_one (ps_rt (pd_and (pd_cb 0 rfl (by decide +kernel) bt_isinstance cb_isi (pa_cons (pd_var 0 rfl (by decide +kernel)) (pa_cons (pd_ty 1 rfl (by decide +kernel) bt_int) (pa_nil)))) (pd_one (pd_not (pd_cb 0 rfl (by decide +kernel) bt_isinstance cb_isi (pa_cons (pd_var 0 rfl (by decide +kernel)) (pa_cons (pd_ty 2 rfl (by decide +kernel) bt_bool) (pa_nil))))))))
/-! _law_is_in -/
def B__law_is_in : DS :=
  sRt (cAnd (cCall R__law_is_num (cCons (cVar 0) (cNil))) (cChain opLe opLe (cVar 1) (cVar 0) (cVar 2)))
def R__law_is_in : Fn := mkFn 3 3 B__law_is_in
theorem len__law_is_in : lenOk 3 R__law_is_in := mkFn_len _ _ _
def C__law_is_in : Ctx := { N := ["value", "low", "high"], sc := defScope (topS 40), fnc := fun _ => true, k := 2, fns := [("_law_is_num", ["value"], R__law_is_num)], cns := [], blt := [], hof := [] }
theorem D__law_is_in : PDB C__law_is_in (defBody (topS 40)) B__law_is_in :=
  pb_one (ps_rt (pd_and (pd_call (ps := ["value"]) 0 rfl (by decide +kernel) len__law_is_num (pa_cons (pd_var 0 rfl (by decide +kernel)) (pa_nil))) (pd_one (pd_chain od_le od_le (pd_var 1 rfl (by decide +kernel)) (pd_var 0 rfl (by decide +kernel)) (pd_var 2 rfl (by decide +kernel))))))
/-! _law_are_results -/
def F_law_are_results_1 : DS :=
  sSeq (sAs (cOp ixD (cVar 1) (cVar 5)) (gTp 3 (gCons (gN 6) (gCons (gN 7) (gCons (gN 8) (gNil)))))) (
    sSeq (sAs (cOp ixD (cVar 3) (cVar 5)) (gN 9)) (
    sSeq (sIf (tOr2 (tNt (cTru (cB gIsi (cCons (cVar 9) (cCons (cK (.ty "tuple")) (cNil)))))) (tOr2 (asB (cOp opNe (cB gLen (cCons (cVar 9) (cNil))) (cK (.int 2)))) (tOr2 (asB (cOp opIn (cK (.bl false)) (cFz (lComp (cIt (cVar 9)) [10] (gN 10) (tTrue) (cCall R__law_is_in (cCons (cVar 10) (cCons (cK (.int 0)) (cCons (cVar 8) (cNil))))))))) (asB (cOp opNe (cB gSum2 (cCons (cVar 9) (cNil))) (cVar 8)))))) (sRt (cK (.bl false))) (sNil)) (
    sAs (cTup (cCons (cOp opAdd (cOp ixD (cVar 4) (cVar 6)) (cOp ixD (cVar 9) (cK (.int 0)))) (cCons (cOp opAdd (cOp ixD (cVar 4) (cVar 7)) (cOp ixD (cVar 9) (cK (.int 1)))) (cNil)))) (gTp 2 (gCons (gSt (cVar 4) (cVar 6)) (gCons (gSt (cVar 4) (cVar 7)) (gNil)))))))
def B__law_are_results : DS :=
  sSeq (sIf (tOr2 (tNt (cTru (cB gIsi (cCons (cVar 3) (cCons (cK (.ty "tuple")) (cNil)))))) (asB (cOp opNe (cB gLen (cCons (cVar 3) (cNil))) (cB gLen (cCons (cVar 1) (cNil)))))) (sRt (cK (.bl false))) (sNil)) (
    sSeq (sAs (cMt (lB gList (cCons (cVar 0) (cNil)))) (gN 4)) (
    sSeq (sFor (lB iR1 (cCons (cB gLen (cCons (cVar 1) (cNil))) (cNil))) (gN 5) (F_law_are_results_1)) (
    sFrz 4 (sRt (cOp opEq (cB gMaxL (cCons (cVar 4) (cNil))) (cOp ixD (cVar 4) (cVar 2)))))))
def R__law_are_results : Fn := mkFn 4 11 B__law_are_results
theorem len__law_are_results : lenOk 4 R__law_are_results := mkFn_len _ _ _
def C__law_are_results : Ctx := { N := ["wins", "left", "team", "value", "whole", "k", "one", "two", "many", "each", "some"], sc := defScope (topS 42), fnc := fun _ => true, k := 4, fns := [("_law_is_in", ["value", "low", "high"], R__law_is_in)], cns := [], blt := ["isinstance", "tuple", "len", "list", "range", "sum", "max"], hof := [] }
theorem D__law_are_results : PDB C__law_are_results (defBody (topS 42)) B__law_are_results :=
  pb_cons (ps_if ((pdw_or (pdt_not (pdt_tru (pd_cb 0 rfl (by decide +kernel) bt_isinstance cb_isi (pa_cons (pd_var 3 rfl (by decide +kernel)) (pa_cons (pd_ty 1 rfl (by decide +kernel) bt_tuple) (pa_nil)))))) (pdw_or1 (pdt_cmp od_ne (pd_cb 2 rfl (by decide +kernel) bt_len cb_len (pa_cons (pd_var 3 rfl (by decide +kernel)) (pa_nil))) (pd_cb 2 rfl (by decide +kernel) bt_len cb_len (pa_cons (pd_var 1 rfl (by decide +kernel)) (pa_nil)))))).t) (pb_one (ps_rt (pd_bl))) (pb_nil)) (
    pb_cons (ps_as (pd_mt (pl_ct 3 rfl (by decide +kernel) bt_list ct_list (pa_cons (pd_var 0 rfl (by decide +kernel)) (pa_nil)))) (pg_n 4 rfl (by decide +kernel))) (
    pb_cons (ps_fr (pi_r1 4 rfl (by decide +kernel) (pa_cons (pd_cb 2 rfl (by decide +kernel) bt_len cb_len (pa_cons (pd_var 1 rfl (by decide +kernel)) (pa_nil))) (pa_nil))) (pg_n 5 rfl (by decide +kernel)) (pb_cons (ps_as (pd_ix (pd_var 1 rfl (by decide +kernel)) (pd_var 5 rfl (by decide +kernel))) (pg_tp (pgs_cons (pg_n 6 rfl (by decide +kernel)) (pgs_cons (pg_n 7 rfl (by decide +kernel)) (pgs_cons (pg_n 8 rfl (by decide +kernel)) (pgs_nil)))))) (
    pb_cons (ps_as (pd_ix (pd_var 3 rfl (by decide +kernel)) (pd_var 5 rfl (by decide +kernel))) (pg_n 9 rfl (by decide +kernel))) (
    pb_cons (ps_if ((pdw_or (pdt_not (pdt_tru (pd_cb 0 rfl (by decide +kernel) bt_isinstance cb_isi (pa_cons (pd_var 9 rfl (by decide +kernel)) (pa_cons (pd_ty 1 rfl (by decide +kernel) bt_tuple) (pa_nil)))))) (pdw_or (pdt_cmp od_ne (pd_cb 2 rfl (by decide +kernel) bt_len cb_len (pa_cons (pd_var 9 rfl (by decide +kernel)) (pa_nil))) (pd_int)) (pdw_or (pdt_cmp od_in (pd_bl) (pd_fz (pl_comp (own := [("some", 10)]) (pi_sq (pd_var 9 rfl (by decide +kernel))) (by decide +kernel) (pg_n 10 rfl (by decide +kernel)) rfl (pts_nil) (pd_call (ps := ["value", "low", "high"]) 0 rfl (by decide +kernel) len__law_is_in (pa_cons (pd_var 10 rfl (by decide +kernel)) (pa_cons (pd_int) (pa_cons (pd_var 8 rfl (by decide +kernel)) (pa_nil)))))))) (pdw_or1 (pdt_cmp od_ne (pd_cb 5 rfl (by decide +kernel) bt_sum cb_sum2 (pa_cons (pd_var 9 rfl (by decide +kernel)) (pa_nil))) (pd_var 8 rfl (by decide +kernel))))))).t) (pb_one (ps_rt (pd_bl))) (pb_nil)) (
    pb_one (ps_asw (pd_tup (pa_cons (pd_bin od_add (pd_ix (pd_var 4 rfl (by decide +kernel)) (pd_var 6 rfl (by decide +kernel))) (pd_ix (pd_var 9 rfl (by decide +kernel)) (pd_int))) (pa_cons (pd_bin od_add (pd_ix (pd_var 4 rfl (by decide +kernel)) (pd_var 7 rfl (by decide +kernel))) (pd_ix (pd_var 9 rfl (by decide +kernel)) (pd_int))) (pa_nil)))) (pg_tp (pgs_cons (pg_st (pd_var 4 rfl (by decide +kernel)) (pd_var 6 rfl (by decide +kernel))) (pgs_cons (pg_st (pd_var 4 rfl (by decide +kernel)) (pd_var 7 rfl (by decide +kernel))) (pgs_nil)))) (sw_of (by kernel_rfl)))))))) (
    pb_frz 4 (pb_one (ps_rt (pd_cmp od_eq (pd_cb 6 rfl (by decide +kernel) bt_max cb_maxL (pa_cons (pd_var 4 rfl (by decide +kernel)) (pa_nil))) (pd_ix (pd_var 4 rfl (by decide +kernel)) (pd_var 2 rfl (by decide +kernel)))))))))
/-! _law_season_right -/
def F_law_season_right_1 : DS :=
  sEx (cApp (cVar 6) (cPop (cVar 7) (cCall R__law_draw (cCons (cVar 0) (cCons (cB gLen (cCons (cVar 7) (cNil))) (cNil))))))
def B__law_season_right : DS :=
  sSeq (sPar [3, 4] (cCons (cCall R__law_all_results (cCons (cVar 2) (cNil))) (cCons (cB gLen (cCons (cVar 1) (cNil))) (cNil)))) (
    sSeq (sAs (cB gTup (cCons (cFz (lComp (lB iR1 (cCons (cVar 4) (cNil))) [10] (gN 10) (asB (cOp opIn (cK (.bl true)) (cFz (lComp (cIt (cVar 3)) [18] (gN 18) (tTrue) (cCall R__law_are_results (cCons (cVar 1) (cCons (cVar 2) (cCons (cVar 10) (cCons (cVar 18) (cNil)))))))))) (cVar 10))) (cNil))) (gN 5)) (
    sSeq (sIf (tOr2 (asB (cOp opNe (cCall R_firsts (cCons (cVar 1) (cCons (cVar 2) (cNil)))) (cVar 5))) (asB (cOp opNe (cFz (lComp (lB iR1 (cCons (cVar 4) (cNil))) [10] (gN 10) (tTrue) (cCall R_can_be_first (cCons (cVar 1) (cCons (cVar 2) (cCons (cVar 10) (cNil))))))) (cFz (lComp (lB iR1 (cCons (cVar 4) (cNil))) [10] (gN 10) (tTrue) (cOp opIn (cVar 10) (cVar 5))))))) (sRt (cK (.bl false))) (sNil)) (
    sSeq (sPar [6, 7] (cCons (cMt (lLst (cNil))) (cCons (cMt (lLR1 (cVar 4))) (cNil)))) (
    sSeq (sFor (lB iR1 (cCons (cVar 4) (cNil))) (gN 8) (F_law_season_right_1)) (
    sSeq (sAs (cCall R__law_renamed (cCons (cVar 6) (cCons (cVar 1) (cCons (cVar 2) (cNil))))) (gN 9)) (
    sSeq (sIf (asB (cOp opNe (cCall R_firsts (cCons (cOp ixD (cVar 9) (cK (.int 0))) (cCons (cOp ixD (cVar 9) (cK (.int 1))) (cNil)))) (cB gTup (cCons (cFz (lB gSrtD (cCons (cFz (lComp (cIt (cVar 5)) [10] (gN 10) (tTrue) (cOp ixD (cVar 6) (cVar 10)))) (cNil)))) (cNil))))) (sRt (cK (.bl false))) (sNil)) (
    sSeq (sAs (cCall R__law_draw (cCons (cVar 0) (cCons (cVar 4) (cNil)))) (gN 10)) (
    sSeq (sAs (cOp opAdd (cOp opAdd (cSl (cVar 1) (oNo) (oSm (cVar 10))) (cTup (cCons (cOp opAdd (cOp ixD (cVar 1) (cVar 10)) (cK (.int 1))) (cNil)))) (cSl (cVar 1) (oSm (cOp opAdd (cVar 10) (cK (.int 1)))) (oNo))) (gN 11)) (
    sSeq (sIf (tOr2 (tAn (asB (cOp opIn (cVar 10) (cVar 5))) (asB (cOp opNin (cVar 10) (cCall R_firsts (cCons (cVar 11) (cCons (cVar 2) (cNil))))))) (asB (cOp opNe (cCall R_most_wins (cCons (cVar 11) (cCons (cVar 2) (cCons (cVar 10) (cNil))))) (cOp opAdd (cCall R_most_wins (cCons (cVar 1) (cCons (cVar 2) (cCons (cVar 10) (cNil))))) (cK (.int 1)))))) (sRt (cK (.bl false))) (sNil)) (
    sSeq (sIf (asB (cOp opEq (cVar 2) (cTup (cNil)))) (sRt (cOp opEq (cVar 5) (cB gTup (cCons (cFz (lComp (lB iR1 (cCons (cVar 4) (cNil))) [17] (gN 17) (asB (cOp opEq (cOp ixD (cVar 1) (cVar 17)) (cB gMaxX (cCons (cVar 1) (cNil))))) (cVar 17))) (cNil))))) (sNil)) (
    sSeq (sAs (cOp ixD (cVar 2) (cK (.int 0))) (gTp 3 (gCons (gN 12) (gCons (gN 13) (gCons (gN 14) (gNil)))))) (
    sSeq (sAs (cOp opAdd (cOp opAdd (cSl (cVar 1) (oNo) (oSm (cVar 12))) (cTup (cCons (cOp opAdd (cOp ixD (cVar 1) (cVar 12)) (cK (.int 1))) (cNil)))) (cSl (cVar 1) (oSm (cOp opAdd (cVar 12) (cK (.int 1)))) (oNo))) (gN 15)) (
    sSeq (sAs (cOp opAdd (cIf (asB (cOp opGt (cVar 14) (cK (.int 1)))) (cTup (cCons (cTup (cCons (cVar 12) (cCons (cVar 13) (cCons (cOp opSub (cVar 14) (cK (.int 1))) (cNil))))) (cNil))) (cTup (cNil))) (cSl (cVar 2) (oSm (cK (.int 1))) (oNo))) (gN 16)) (
    sRt (cOp opEq (cFz (lComp (cIt (cCall R_firsts (cCons (cVar 15) (cCons (cVar 16) (cNil))))) [17] (gN 17) (asB (cOp opNin (cVar 17) (cVar 5))) (cVar 17))) (cFz (lLst (cNil))))))))))))))))))
def R__law_season_right : Fn := mkFn 3 19 B__law_season_right
theorem len__law_season_right : lenOk 3 R__law_season_right := mkFn_len _ _ _
def C__law_season_right : Ctx := { N := ["pool", "wins", "left", "rows", "teams", "due", "names", "rest", "step", "fresh", "team", "more", "one", "two", "many", "ahead", "fewer", "each", "row"], sc := defScope (topS 45), fnc := fun _ => true, k := 18, fns := [("_law_all_results", ["left"], R__law_all_results), ("_law_are_results", ["wins", "left", "team", "value"], R__law_are_results), ("firsts", ["wins", "left"], R_firsts), ("can_be_first", ["wins", "left", "team"], R_can_be_first), ("_law_draw", ["pool", "many"], R__law_draw), ("_law_renamed", ["names", "wins", "left"], R__law_renamed), ("most_wins", ["wins", "left", "team"], R_most_wins)], cns := [], blt := ["len", "tuple", "range", "list", "sorted", "max"], hof := [] }
theorem D__law_season_right : PDB C__law_season_right (defBody (topS 45)) B__law_season_right :=
  pb_cons (ps_prc (pa_cons (pd_call (ps := ["left"]) 0 rfl (by decide +kernel) len__law_all_results (pa_cons (pd_var 2 rfl (by decide +kernel)) (pa_nil))) (pa_cons (pd_cb 0 rfl (by decide +kernel) bt_len cb_len (pa_cons (pd_var 1 rfl (by decide +kernel)) (pa_nil))) (pa_nil))) (pn_cons 3 rfl (by decide +kernel) (pn_cons 4 rfl (by decide +kernel) (pn_nil))) (by decide +kernel) rfl (sw_of (by kernel_rfl))) (
    pb_cons (ps_as (pd_ct 1 rfl (by decide +kernel) bt_tuple ct_tup (pa_cons (pd_fz (pl_comp (own := [("team", 10)]) (pi_r1 2 rfl (by decide +kernel) (pa_cons (pd_var 4 rfl (by decide +kernel)) (pa_nil))) (by decide +kernel) (pg_n 10 rfl (by decide +kernel)) rfl (pts_one (pdt_cmp od_in (pd_bl) (pd_fz (pl_comp (own := [("row", 18)]) (pi_sq (pd_var 3 rfl (by decide +kernel))) (by decide +kernel) (pg_n 18 rfl (by decide +kernel)) rfl (pts_nil) (pd_call (ps := ["wins", "left", "team", "value"]) 1 rfl (by decide +kernel) len__law_are_results (pa_cons (pd_var 1 rfl (by decide +kernel)) (pa_cons (pd_var 2 rfl (by decide +kernel)) (pa_cons (pd_var 10 rfl (by decide +kernel)) (pa_cons (pd_var 18 rfl (by decide +kernel)) (pa_nil)))))))))) (pd_var 10 rfl (by decide +kernel)))) (pa_nil))) (pg_n 5 rfl (by decide +kernel))) (
    pb_cons (ps_if ((pdw_or (pdt_cmp od_ne (pd_call (ps := ["wins", "left"]) 2 rfl (by decide +kernel) len_firsts (pa_cons (pd_var 1 rfl (by decide +kernel)) (pa_cons (pd_var 2 rfl (by decide +kernel)) (pa_nil)))) (pd_var 5 rfl (by decide +kernel))) (pdw_or1 (pdt_cmp od_ne (pd_fz (pl_comp (own := [("team", 10)]) (pi_r1 2 rfl (by decide +kernel) (pa_cons (pd_var 4 rfl (by decide +kernel)) (pa_nil))) (by decide +kernel) (pg_n 10 rfl (by decide +kernel)) rfl (pts_nil) (pd_call (ps := ["wins", "left", "team"]) 3 rfl (by decide +kernel) len_can_be_first (pa_cons (pd_var 1 rfl (by decide +kernel)) (pa_cons (pd_var 2 rfl (by decide +kernel)) (pa_cons (pd_var 10 rfl (by decide +kernel)) (pa_nil))))))) (pd_fz (pl_comp (own := [("team", 10)]) (pi_r1 2 rfl (by decide +kernel) (pa_cons (pd_var 4 rfl (by decide +kernel)) (pa_nil))) (by decide +kernel) (pg_n 10 rfl (by decide +kernel)) rfl (pts_nil) (pd_cmp od_in (pd_var 10 rfl (by decide +kernel)) (pd_var 5 rfl (by decide +kernel)))))))).t) (pb_one (ps_rt (pd_bl))) (pb_nil)) (
    pb_cons (ps_prc (pa_cons (pd_mt (pl_lst (pa_nil))) (pa_cons (pd_mt (pl_lr1 3 2 rfl rfl (by decide +kernel) (by decide +kernel) (pd_var 4 rfl (by decide +kernel)))) (pa_nil))) (pn_cons 6 rfl (by decide +kernel) (pn_cons 7 rfl (by decide +kernel) (pn_nil))) (by decide +kernel) rfl (sw_of (by kernel_rfl))) (
    pb_cons (ps_fr (pi_r1 2 rfl (by decide +kernel) (pa_cons (pd_var 4 rfl (by decide +kernel)) (pa_nil))) (pg_n 8 rfl (by decide +kernel)) (pb_one (ps_ex (pd_app (pd_var 6 rfl (by decide +kernel)) (pd_pop (pd_var 7 rfl (by decide +kernel)) (pd_call (ps := ["pool", "many"]) 4 rfl (by decide +kernel) len__law_draw (pa_cons (pd_var 0 rfl (by decide +kernel)) (pa_cons (pd_cb 0 rfl (by decide +kernel) bt_len cb_len (pa_cons (pd_var 7 rfl (by decide +kernel)) (pa_nil))) (pa_nil))))))))) (
    pb_cons (ps_as (pd_call (ps := ["names", "wins", "left"]) 5 rfl (by decide +kernel) len__law_renamed (pa_cons (pd_var 6 rfl (by decide +kernel)) (pa_cons (pd_var 1 rfl (by decide +kernel)) (pa_cons (pd_var 2 rfl (by decide +kernel)) (pa_nil))))) (pg_n 9 rfl (by decide +kernel))) (
    pb_cons (ps_if (pdt_cmp od_ne (pd_call (ps := ["wins", "left"]) 2 rfl (by decide +kernel) len_firsts (pa_cons (pd_ix (pd_var 9 rfl (by decide +kernel)) (pd_int)) (pa_cons (pd_ix (pd_var 9 rfl (by decide +kernel)) (pd_int)) (pa_nil)))) (pd_ct 1 rfl (by decide +kernel) bt_tuple ct_tup (pa_cons (pd_fz (pl_cb 4 rfl (by decide +kernel) bt_sorted cl_sortD (pa_cons (pd_fz (pl_comp (own := [("team", 10)]) (pi_sq (pd_var 5 rfl (by decide +kernel))) (by decide +kernel) (pg_n 10 rfl (by decide +kernel)) rfl (pts_nil) (pd_ix (pd_var 6 rfl (by decide +kernel)) (pd_var 10 rfl (by decide +kernel))))) (pa_nil)))) (pa_nil)))) (pb_one (ps_rt (pd_bl))) (pb_nil)) (
    pb_cons (ps_as (pd_call (ps := ["pool", "many"]) 4 rfl (by decide +kernel) len__law_draw (pa_cons (pd_var 0 rfl (by decide +kernel)) (pa_cons (pd_var 4 rfl (by decide +kernel)) (pa_nil)))) (pg_n 10 rfl (by decide +kernel))) (
    pb_cons (ps_as (pd_bin od_add (pd_bin od_add (pd_sl (pd_var 1 rfl (by decide +kernel)) (po_no) (po_sm (pd_var 10 rfl (by decide +kernel)))) (pd_tup (pa_cons (pd_bin od_add (pd_ix (pd_var 1 rfl (by decide +kernel)) (pd_var 10 rfl (by decide +kernel))) (pd_int)) (pa_nil)))) (pd_sl (pd_var 1 rfl (by decide +kernel)) (po_sm (pd_bin od_add (pd_var 10 rfl (by decide +kernel)) (pd_int))) (po_no))) (pg_n 11 rfl (by decide +kernel))) (
    pb_cons (ps_if ((pdw_or ((pdw_and (pdt_cmp od_in (pd_var 10 rfl (by decide +kernel)) (pd_var 5 rfl (by decide +kernel))) (pdw_and1 (pdt_cmp od_nin (pd_var 10 rfl (by decide +kernel)) (pd_call (ps := ["wins", "left"]) 2 rfl (by decide +kernel) len_firsts (pa_cons (pd_var 11 rfl (by decide +kernel)) (pa_cons (pd_var 2 rfl (by decide +kernel)) (pa_nil))))))).t) (pdw_or1 (pdt_cmp od_ne (pd_call (ps := ["wins", "left", "team"]) 6 rfl (by decide +kernel) len_most_wins (pa_cons (pd_var 11 rfl (by decide +kernel)) (pa_cons (pd_var 2 rfl (by decide +kernel)) (pa_cons (pd_var 10 rfl (by decide +kernel)) (pa_nil))))) (pd_bin od_add (pd_call (ps := ["wins", "left", "team"]) 6 rfl (by decide +kernel) len_most_wins (pa_cons (pd_var 1 rfl (by decide +kernel)) (pa_cons (pd_var 2 rfl (by decide +kernel)) (pa_cons (pd_var 10 rfl (by decide +kernel)) (pa_nil))))) (pd_int))))).t) (pb_one (ps_rt (pd_bl))) (pb_nil)) (
    pb_cons (ps_if (pdt_cmp od_eq (pd_var 2 rfl (by decide +kernel)) (pd_tup (pa_nil))) (pb_one (ps_rt (pd_cmp od_eq (pd_var 5 rfl (by decide +kernel)) (pd_ct 1 rfl (by decide +kernel) bt_tuple ct_tup (pa_cons (pd_fz (pl_comp (own := [("each", 17)]) (pi_r1 2 rfl (by decide +kernel) (pa_cons (pd_var 4 rfl (by decide +kernel)) (pa_nil))) (by decide +kernel) (pg_n 17 rfl (by decide +kernel)) rfl (pts_one (pdt_cmp od_eq (pd_ix (pd_var 1 rfl (by decide +kernel)) (pd_var 17 rfl (by decide +kernel))) (pd_cb 5 rfl (by decide +kernel) bt_max cb_maxX (pa_cons (pd_var 1 rfl (by decide +kernel)) (pa_nil))))) (pd_var 17 rfl (by decide +kernel)))) (pa_nil)))))) (pb_nil)) (
    pb_cons (ps_as (pd_ix (pd_var 2 rfl (by decide +kernel)) (pd_int)) (pg_tp (pgs_cons (pg_n 12 rfl (by decide +kernel)) (pgs_cons (pg_n 13 rfl (by decide +kernel)) (pgs_cons (pg_n 14 rfl (by decide +kernel)) (pgs_nil)))))) (
    pb_cons (ps_as (pd_bin od_add (pd_bin od_add (pd_sl (pd_var 1 rfl (by decide +kernel)) (po_no) (po_sm (pd_var 12 rfl (by decide +kernel)))) (pd_tup (pa_cons (pd_bin od_add (pd_ix (pd_var 1 rfl (by decide +kernel)) (pd_var 12 rfl (by decide +kernel))) (pd_int)) (pa_nil)))) (pd_sl (pd_var 1 rfl (by decide +kernel)) (po_sm (pd_bin od_add (pd_var 12 rfl (by decide +kernel)) (pd_int))) (po_no))) (pg_n 15 rfl (by decide +kernel))) (
    pb_cons (ps_as (pd_bin od_add (pd_if (pdt_cmp od_gt (pd_var 14 rfl (by decide +kernel)) (pd_int)) (pd_tup (pa_cons (pd_tup (pa_cons (pd_var 12 rfl (by decide +kernel)) (pa_cons (pd_var 13 rfl (by decide +kernel)) (pa_cons (pd_bin od_sub (pd_var 14 rfl (by decide +kernel)) (pd_int)) (pa_nil))))) (pa_nil))) (pd_tup (pa_nil))) (pd_sl (pd_var 2 rfl (by decide +kernel)) (po_sm (pd_int)) (po_no))) (pg_n 16 rfl (by decide +kernel))) (
    pb_one (ps_rt (pd_cmp od_eq (pd_fz (pl_comp (own := [("each", 17)]) (pi_sq (pd_call (ps := ["wins", "left"]) 2 rfl (by decide +kernel) len_firsts (pa_cons (pd_var 15 rfl (by decide +kernel)) (pa_cons (pd_var 16 rfl (by decide +kernel)) (pa_nil))))) (by decide +kernel) (pg_n 17 rfl (by decide +kernel)) rfl (pts_one (pdt_cmp od_nin (pd_var 17 rfl (by decide +kernel)) (pd_var 5 rfl (by decide +kernel)))) (pd_var 17 rfl (by decide +kernel)))) (pd_fz (pl_lst (pa_nil)))))))))))))))))))
/-! _law_right -/
def F_law_right_1 : DS :=
  sSeq (sAs (cCall R__law_season (cCons (cVar 0) (cCons (cK (.int 4)) (cCons (cK (.int 2)) (cNil))))) (gTp 2 (gCons (gN 2) (gCons (gN 3) (gNil))))) (
    sIf (tNt (cTru (cCall R__law_season_right (cCons (cVar 0) (cCons (cVar 2) (cCons (cSl (cVar 3) (oNo) (oSm (cK (.int 5)))) (cNil))))))) (sRt (cK (.bl false))) (sNil))
def B__law_right : DS :=
  sSeq (sFor (lB iR1 (cCons (cK (.int 6)) (cNil))) (gN 1) (F_law_right_1)) (
    sRt (cAnd (cCall R__law_season_right (cCons (cVar 0) (cCons (cTup (cCons (cK (.int 3)) (cCons (cK (.int 3)) (cCons (cK (.int 0)) (cNil))))) (cCons (cTup (cCons (cTup (cCons (cK (.int 0)) (cCons (cK (.int 1)) (cCons (cK (.int 1)) (cNil))))) (cCons (cTup (cCons (cK (.int 0)) (cCons (cK (.int 2)) (cCons (cK (.int 1)) (cNil))))) (cNil)))) (cNil))))) (cOp opEq (cCall R_firsts (cCons (cTup (cCons (cK (.int 0)) (cCons (cK (.int 0)) (cNil)))) (cCons (cTup (cNil)) (cNil)))) (cTup (cCons (cK (.int 0)) (cCons (cK (.int 1)) (cNil)))))))
def R__law_right : Fn := mkFn 1 4 B__law_right
theorem len__law_right : lenOk 1 R__law_right := mkFn_len _ _ _
def C__law_right : Ctx := { N := ["pool", "turn", "wins", "left"], sc := defScope (topS 46), fnc := fun _ => true, k := 20, fns := [("_law_season", ["pool", "most", "games"], R__law_season), ("_law_season_right", ["pool", "wins", "left"], R__law_season_right), ("firsts", ["wins", "left"], R_firsts)], cns := [], blt := ["range"], hof := [] }
theorem D__law_right : PDB C__law_right (defBody (topS 46)) B__law_right :=
  pb_cons (ps_fr (pi_r1 0 rfl (by decide +kernel) (pa_cons (pd_int) (pa_nil))) (pg_n 1 rfl (by decide +kernel)) (pb_cons (ps_as (pd_call (ps := ["pool", "most", "games"]) 0 rfl (by decide +kernel) len__law_season (pa_cons (pd_var 0 rfl (by decide +kernel)) (pa_cons (pd_int) (pa_cons (pd_int) (pa_nil))))) (pg_tp (pgs_cons (pg_n 2 rfl (by decide +kernel)) (pgs_cons (pg_n 3 rfl (by decide +kernel)) (pgs_nil))))) (
    pb_one (ps_if (pdt_not (pdt_tru (pd_call (ps := ["pool", "wins", "left"]) 1 rfl (by decide +kernel) len__law_season_right (pa_cons (pd_var 0 rfl (by decide +kernel)) (pa_cons (pd_var 2 rfl (by decide +kernel)) (pa_cons (pd_sl (pd_var 3 rfl (by decide +kernel)) (po_no) (po_sm (pd_int))) (pa_nil))))))) (pb_one (ps_rt (pd_bl))) (pb_nil))))) (
    pb_one (ps_rt (pd_and (pd_call (ps := ["pool", "wins", "left"]) 1 rfl (by decide +kernel) len__law_season_right (pa_cons (pd_var 0 rfl (by decide +kernel)) (pa_cons (pd_tup (pa_cons (pd_int) (pa_cons (pd_int) (pa_cons (pd_int) (pa_nil))))) (pa_cons (pd_tup (pa_cons (pd_tup (pa_cons (pd_int) (pa_cons (pd_int) (pa_cons (pd_int) (pa_nil))))) (pa_cons (pd_tup (pa_cons (pd_int) (pa_cons (pd_int) (pa_cons (pd_int) (pa_nil))))) (pa_nil)))) (pa_nil))))) (pd_one (pd_cmp od_eq (pd_call (ps := ["wins", "left"]) 2 rfl (by decide +kernel) len_firsts (pa_cons (pd_tup (pa_cons (pd_int) (pa_cons (pd_int) (pa_nil)))) (pa_cons (pd_tup (pa_nil)) (pa_nil)))) (pd_tup (pa_cons (pd_int) (pa_cons (pd_int) (pa_nil)))))))))
/-! _law_pool -/
def F_law_pool_1 : DS :=
  sAs (cOp opMod (cB gInt1 (cCons (cOp opAdd (cOp opAdd (cOp opMul (cVar 3) (cK (.int 48271))) (cOp opMod (cB gInt1 (cCons (cVar 4) (cNil))) (cK (.int 2147483543)))) (cK (.int 453))) (cNil))) (cK (.int 2147483543))) (gN 3)
def B__law_pool : DS :=
  sSeq (sPar [2, 3] (cCons (cIf (asB (cOp opLt (cVar 1) (cB gLen (cCons (cVar 0) (cNil))))) (cB gInt1 (cCons (cOp ixD (cVar 0) (cVar 1)) (cNil))) (cOp opAdd (cOp opMul (cK (.int 70001)) (cVar 1)) (cK (.int 2754)))) (cCons (cOp opAdd (cK (.int 778395)) (cOp opMul (cK (.int 5087)) (cVar 1))) (cNil)))) (
    sSeq (sFor (cIt (cSl (cVar 0) (oNo) (oSm (cK (.int 63))))) (gN 4) (F_law_pool_1)) (
    sRt (cMt (lLst (cCons (cOp opMod (cB gInt1 (cCons (cOp opAdd (cVar 3) (cOp opMul (cVar 2) (cK (.int 1013)))) (cNil))) (cK (.int 2147483543))) (cCons (cIf (tOr2 (asB (cOp opLt (cVar 2) (cK (.int 0)))) (asB (cOp opGe (cVar 2) (cOp opPow (cK (.int 10)) (cK (.int 18)))))) (cB gAbs (cCons (cVar 2) (cNil))) (cK (.int 0))) (cCons (cK (.int 0)) (cNil))))))))
def R__law_pool : Fn := mkFn 2 5 B__law_pool
theorem len__law_pool : lenOk 2 R__law_pool := mkFn_len _ _ _
def C__law_pool : Ctx := { N := ["script", "turn", "own", "stirred", "cell"], sc := defScope (topS 36), fnc := fun _ => true, k := 0, fns := [], cns := [], blt := ["len", "int", "abs"], hof := [] }
theorem D__law_pool : PDB C__law_pool (defBody (topS 36)) B__law_pool :=
  pb_cons (ps_pr2 2 3 rfl rfl rfl (by decide +kernel) (by decide +kernel) (pa_cons (pd_if (pdt_cmp od_lt (pd_var 1 rfl (by decide +kernel)) (pd_cb 0 rfl (by decide +kernel) bt_len cb_len (pa_cons (pd_var 0 rfl (by decide +kernel)) (pa_nil)))) (pd_ct 1 rfl (by decide +kernel) bt_int ct_int (pa_cons (pd_ix (pd_var 0 rfl (by decide +kernel)) (pd_var 1 rfl (by decide +kernel))) (pa_nil))) (pd_bin od_add (pd_bin od_mul (pd_int) (pd_var 1 rfl (by decide +kernel))) (pd_int))) (pa_cons (pd_bin od_add (pd_int) (pd_bin od_mul (pd_int) (pd_var 1 rfl (by decide +kernel)))) (pa_nil))) (sw_of (by kernel_rfl))) (
    pb_cons (ps_fr (pi_sq (pd_sl (pd_var 0 rfl (by decide +kernel)) (po_no) (po_sm (pd_int)))) (pg_n 4 rfl (by decide +kernel)) (pb_one (ps_as (pd_bin od_mod (pd_ct 1 rfl (by decide +kernel) bt_int ct_int (pa_cons (pd_bin od_add (pd_bin od_add (pd_bin od_mul (pd_var 3 rfl (by decide +kernel)) (pd_int)) (pd_bin od_mod (pd_ct 1 rfl (by decide +kernel) bt_int ct_int (pa_cons (pd_var 4 rfl (by decide +kernel)) (pa_nil))) (pd_int))) (pd_int)) (pa_nil))) (pd_int)) (pg_n 3 rfl (by decide +kernel))))) (
    pb_one (ps_rt (pd_mt (pl_lst (pa_cons (pd_bin od_mod (pd_ct 1 rfl (by decide +kernel) bt_int ct_int (pa_cons (pd_bin od_add (pd_var 3 rfl (by decide +kernel)) (pd_bin od_mul (pd_var 2 rfl (by decide +kernel)) (pd_int))) (pa_nil))) (pd_int)) (pa_cons (pd_if ((pdw_or (pdt_cmp od_lt (pd_var 2 rfl (by decide +kernel)) (pd_int)) (pdw_or1 (pdt_cmp od_ge (pd_var 2 rfl (by decide +kernel)) (pd_bin od_pow (pd_int) (pd_int))))).t) (pd_cb 2 rfl (by decide +kernel) bt_abs cb_abs (pa_cons (pd_var 2 rfl (by decide +kernel)) (pa_nil))) (pd_int)) (pa_cons (pd_int) (pa_nil)))))))))
/-! law -/
def F_law_1 : DS :=
  sIf (tNt (cTru (cCall R__law_right (cCons (cCall R__law_pool (cCons (cVar 0) (cCons (cVar 1) (cNil)))) (cNil))))) (sRt (cK (.bl false))) (sNil)
def B_law : DS :=
  sSeq (sFor (lB iR1 (cCons (cB gMax2 (cCons (cK (.int 2)) (cCons (cB gMin2 (cCons (cB gLen (cCons (cVar 0) (cNil))) (cCons (cK (.int 3)) (cNil)))) (cNil)))) (cNil))) (gN 1) (F_law_1)) (
    sRt (cK (.bl true)))
def R_law : Fn := mkFn 1 2 B_law
theorem len_law : lenOk 1 R_law := mkFn_len _ _ _
def C_law : Ctx := { N := ["script", "turn"], sc := defScope (topS 47), fnc := fun _ => true, k := 22, fns := [("_law_right", ["pool"], R__law_right), ("_law_pool", ["script", "turn"], R__law_pool)], cns := [], blt := ["range", "max", "min", "len"], hof := [] }
theorem D_law : PDB C_law (defBody (topS 47)) B_law :=
  pb_cons (ps_fr (pi_r1 0 rfl (by decide +kernel) (pa_cons (pd_cb 1 rfl (by decide +kernel) bt_max cb_max2 (pa_cons (pd_int) (pa_cons (pd_cb 2 rfl (by decide +kernel) bt_min cb_min2 (pa_cons (pd_cb 3 rfl (by decide +kernel) bt_len cb_len (pa_cons (pd_var 0 rfl (by decide +kernel)) (pa_nil))) (pa_cons (pd_int) (pa_nil)))) (pa_nil)))) (pa_nil))) (pg_n 1 rfl (by decide +kernel)) (pb_one (ps_if (pdt_not (pdt_tru (pd_call (ps := ["pool"]) 0 rfl (by decide +kernel) len__law_right (pa_cons (pd_call (ps := ["script", "turn"]) 1 rfl (by decide +kernel) len__law_pool (pa_cons (pd_var 0 rfl (by decide +kernel)) (pa_cons (pd_var 1 rfl (by decide +kernel)) (pa_nil)))) (pa_nil))))) (pb_one (ps_rt (pd_bl))) (pb_nil)))) (
    pb_one (ps_rt (pd_bl)))
theorem all_mk {l : PySem.W.OpenLaw} {w : World} {K : PySem.W.Frag} {h : Heap} {mg : Str → Option Value} {fa : Addr} (X : K.In h) (G : h.Ns mainGlobals mg) (hfa : mg "law" = some (.ref fa)) (hR : ∀ ns : List Int, ns.length ≤ 63 → ∃ Mz, R_law [.d (.lst (ns.map .int))] [] = .ok (.d (.bl true)) Mz)
    {f0 : Addr} {od0 an0 : Option Addr} {sl0 : Array (Option Value)} {oc0 kV0 dc0 pm0 cd0 ct0 : Value}
    {f1 : Addr} {od1 an1 : Option Addr} {sl1 : Array (Option Value)} {oc1 kV1 dc1 pm1 cd1 ct1 : Value}
    {f2 : Addr} {od2 an2 : Option Addr} {sl2 : Array (Option Value)} {oc2 kV2 dc2 pm2 cd2 ct2 : Value}
    {f3 : Addr} {od3 an3 : Option Addr} {sl3 : Array (Option Value)} {oc3 kV3 dc3 pm3 cd3 ct3 : Value}
    {f4 : Addr} {od4 an4 : Option Addr} {sl4 : Array (Option Value)} {oc4 kV4 dc4 pm4 cd4 ct4 : Value}
    {f5 : Addr} {od5 an5 : Option Addr} {sl5 : Array (Option Value)} {oc5 kV5 dc5 pm5 cd5 ct5 : Value}
    {f6 : Addr} {od6 an6 : Option Addr} {sl6 : Array (Option Value)} {oc6 kV6 dc6 pm6 cd6 ct6 : Value}
    {f7 : Addr} {od7 an7 : Option Addr} {sl7 : Array (Option Value)} {oc7 kV7 dc7 pm7 cd7 ct7 : Value}
    {f8 : Addr} {od8 an8 : Option Addr} {sl8 : Array (Option Value)} {oc8 kV8 dc8 pm8 cd8 ct8 : Value}
    {f9 : Addr} {od9 an9 : Option Addr} {sl9 : Array (Option Value)} {oc9 kV9 dc9 pm9 cd9 ct9 : Value}
    {f10 : Addr} {od10 an10 : Option Addr} {sl10 : Array (Option Value)} {oc10 kV10 dc10 pm10 cd10 ct10 : Value}
    {f11 : Addr} {od11 an11 : Option Addr} {sl11 : Array (Option Value)} {oc11 kV11 dc11 pm11 cd11 ct11 : Value}
    {f12 : Addr} {od12 an12 : Option Addr} {sl12 : Array (Option Value)} {oc12 kV12 dc12 pm12 cd12 ct12 : Value}
    {f13 : Addr} {od13 an13 : Option Addr} {sl13 : Array (Option Value)} {oc13 kV13 dc13 pm13 cd13 ct13 : Value}
    {f14 : Addr} {od14 an14 : Option Addr} {sl14 : Array (Option Value)} {oc14 kV14 dc14 pm14 cd14 ct14 : Value}
    {f15 : Addr} {od15 an15 : Option Addr} {sl15 : Array (Option Value)} {oc15 kV15 dc15 pm15 cd15 ct15 : Value}
    {f16 : Addr} {od16 an16 : Option Addr} {sl16 : Array (Option Value)} {oc16 kV16 dc16 pm16 cd16 ct16 : Value}
    {f17 : Addr} {od17 an17 : Option Addr} {sl17 : Array (Option Value)} {oc17 kV17 dc17 pm17 cd17 ct17 : Value}
    {f18 : Addr} {od18 an18 : Option Addr} {sl18 : Array (Option Value)} {oc18 kV18 dc18 pm18 cd18 ct18 : Value}
    {f19 : Addr} {od19 an19 : Option Addr} {sl19 : Array (Option Value)} {oc19 kV19 dc19 pm19 cd19 ct19 : Value}
    {f20 : Addr} {od20 an20 : Option Addr} {sl20 : Array (Option Value)} {oc20 kV20 dc20 pm20 cd20 ct20 : Value}
    {f21 : Addr} {od21 an21 : Option Addr} {sl21 : Array (Option Value)} {oc21 kV21 dc21 pm21 cd21 ct21 : Value}
    {f22 : Addr} {od22 an22 : Option Addr} {sl22 : Array (Option Value)} {oc22 kV22 dc22 pm22 cd22 ct22 : Value}
    {f23 : Addr} {od23 an23 : Option Addr} {sl23 : Array (Option Value)} {oc23 kV23 dc23 pm23 cd23 ct23 : Value}
    {f24 : Addr} {od24 an24 : Option Addr} {sl24 : Array (Option Value)} {oc24 kV24 dc24 pm24 cd24 ct24 : Value}
    {f25 : Addr} {od25 an25 : Option Addr} {sl25 : Array (Option Value)} {oc25 kV25 dc25 pm25 cd25 ct25 : Value}
    {f26 : Addr} {od26 an26 : Option Addr} {sl26 : Array (Option Value)} {oc26 kV26 dc26 pm26 cd26 ct26 : Value}
    {f27 : Addr} {od27 an27 : Option Addr} {sl27 : Array (Option Value)} {oc27 kV27 dc27 pm27 cd27 ct27 : Value}
    {f28 : Addr} {od28 an28 : Option Addr} {sl28 : Array (Option Value)} {oc28 kV28 dc28 pm28 cd28 ct28 : Value}
    {f29 : Addr} {od29 an29 : Option Addr} {sl29 : Array (Option Value)} {oc29 kV29 dc29 pm29 cd29 ct29 : Value}
    {f30 : Addr} {od30 an30 : Option Addr} {sl30 : Array (Option Value)} {oc30 kV30 dc30 pm30 cd30 ct30 : Value}
    {f31 : Addr} {od31 an31 : Option Addr} {sl31 : Array (Option Value)} {oc31 kV31 dc31 pm31 cd31 ct31 : Value}
    {f32 : Addr} {od32 an32 : Option Addr} {sl32 : Array (Option Value)} {oc32 kV32 dc32 pm32 cd32 ct32 : Value}
    {f33 : Addr} {od33 an33 : Option Addr} {sl33 : Array (Option Value)} {oc33 kV33 dc33 pm33 cd33 ct33 : Value}
    {f34 : Addr} {od34 an34 : Option Addr} {sl34 : Array (Option Value)} {oc34 kV34 dc34 pm34 cd34 ct34 : Value}
    {t_MOST_WINS : Tok}
    {t_MOST_TEAMS : Tok}
    {t_FEWEST_TEAMS : Tok}
    {t_MOST_GAMES : Tok}
    (a0 : PySem.W.nsIn K mainGlobals "_law_draw" = some (some (.ref f0))) (l0 : K.lookup f0 = some ⟨oc0, od0, .func (PySem.W.fnOf "_law_draw" "_law_draw" (defArgs (topS 37)) (defBody (topS 37)) (defScope (topS 37)) .none kV0 dc0 pm0 an0 cd0 ct0), sl0⟩) (c0 : PySem.W.codeIn K cd0 "_law_draw" = true) (k0 : PySem.W.keepIn K (.ref f0) = true)
    (a1 : PySem.W.nsIn K mainGlobals "_law_pick" = some (some (.ref f1))) (l1 : K.lookup f1 = some ⟨oc1, od1, .func (PySem.W.fnOf "_law_pick" "_law_pick" (defArgs (topS 38)) (defBody (topS 38)) (defScope (topS 38)) .none kV1 dc1 pm1 an1 cd1 ct1), sl1⟩) (c1 : PySem.W.codeIn K cd1 "_law_pick" = true) (k1 : PySem.W.keepIn K (.ref f1) = true)
    (a2 : PySem.W.nsIn K mainGlobals "_law_season" = some (some (.ref f2))) (l2 : K.lookup f2 = some ⟨oc2, od2, .func (PySem.W.fnOf "_law_season" "_law_season" (defArgs (topS 41)) (defBody (topS 41)) (defScope (topS 41)) .none kV2 dc2 pm2 an2 cd2 ct2), sl2⟩) (c2 : PySem.W.codeIn K cd2 "_law_season" = true) (k2 : PySem.W.keepIn K (.ref f2) = true)
    (a3 : PySem.W.nsIn K mainGlobals "_law_renamed" = some (some (.ref f3))) (l3 : K.lookup f3 = some ⟨oc3, od3, .func (PySem.W.fnOf "_law_renamed" "_law_renamed" (defArgs (topS 44)) (defBody (topS 44)) (defScope (topS 44)) .none kV3 dc3 pm3 an3 cd3 ct3), sl3⟩) (c3 : PySem.W.codeIn K cd3 "_law_renamed" = true) (k3 : PySem.W.keepIn K (.ref f3) = true)
    (a4 : PySem.W.nsIn K mainGlobals "_law_all_results" = some (some (.ref f4))) (l4 : K.lookup f4 = some ⟨oc4, od4, .func (PySem.W.fnOf "_law_all_results" "_law_all_results" (defArgs (topS 43)) (defBody (topS 43)) (defScope (topS 43)) .none kV4 dc4 pm4 an4 cd4 ct4), sl4⟩) (c4 : PySem.W.codeIn K cd4 "_law_all_results" = true) (k4 : PySem.W.keepIn K (.ref f4) = true)
    (a5 : PySem.W.nsIn K mainGlobals "is_whole" = some (some (.ref f5))) (l5 : K.lookup f5 = some ⟨oc5, od5, .func (PySem.W.fnOf "is_whole" "is_whole" (defArgs (topS 6)) (defBody (topS 6)) (defScope (topS 6)) .none kV5 dc5 pm5 an5 cd5 ct5), sl5⟩) (c5 : PySem.W.codeIn K cd5 "is_whole" = true) (k5 : PySem.W.keepIn K (.ref f5) = true)
    (a6 : PySem.W.nsIn K mainGlobals "is_between" = some (some (.ref f6))) (l6 : K.lookup f6 = some ⟨oc6, od6, .func (PySem.W.fnOf "is_between" "is_between" (defArgs (topS 7)) (defBody (topS 7)) (defScope (topS 7)) .none kV6 dc6 pm6 an6 cd6 ct6), sl6⟩) (c6 : PySem.W.codeIn K cd6 "is_between" = true) (k6 : PySem.W.keepIn K (.ref f6) = true)
    (a7 : PySem.W.nsIn K mainGlobals "is_wins" = some (some (.ref f7))) (l7 : K.lookup f7 = some ⟨oc7, od7, .func (PySem.W.fnOf "is_wins" "is_wins" (defArgs (topS 16)) (defBody (topS 16)) (defScope (topS 16)) .none kV7 dc7 pm7 an7 cd7 ct7), sl7⟩) (c7 : PySem.W.codeIn K cd7 "is_wins" = true) (k7 : PySem.W.keepIn K (.ref f7) = true)
    (a8 : PySem.W.nsIn K mainGlobals "first_wrong" = some (some (.ref f8))) (l8 : K.lookup f8 = some ⟨oc8, od8, .func (PySem.W.fnOf "first_wrong" "first_wrong" (defArgs (topS 9)) (defBody (topS 9)) (defScope (topS 9)) .none kV8 dc8 pm8 an8 cd8 ct8), sl8⟩) (c8 : PySem.W.codeIn K cd8 "first_wrong" = true) (k8 : PySem.W.keepIn K (.ref f8) = true)
    (a9 : PySem.W.nsIn K mainGlobals "wrong_in_wins" = some (some (.ref f9))) (l9 : K.lookup f9 = some ⟨oc9, od9, .func (PySem.W.fnOf "wrong_in_wins" "wrong_in_wins" (defArgs (topS 17)) (defBody (topS 17)) (defScope (topS 17)) .none kV9 dc9 pm9 an9 cd9 ct9), sl9⟩) (c9 : PySem.W.codeIn K cd9 "wrong_in_wins" = true) (k9 : PySem.W.keepIn K (.ref f9) = true)
    (a10 : PySem.W.nsIn K mainGlobals "is_tuple_of" = some (some (.ref f10))) (l10 : K.lookup f10 = some ⟨oc10, od10, .func (PySem.W.fnOf "is_tuple_of" "is_tuple_of" (defArgs (topS 8)) (defBody (topS 8)) (defScope (topS 8)) .none kV10 dc10 pm10 an10 cd10 ct10), sl10⟩) (c10 : PySem.W.codeIn K cd10 "is_tuple_of" = true) (k10 : PySem.W.keepIn K (.ref f10) = true)
    (a11 : PySem.W.nsIn K mainGlobals "are_indexes" = some (some (.ref f11))) (l11 : K.lookup f11 = some ⟨oc11, od11, .func (PySem.W.fnOf "are_indexes" "are_indexes" (defArgs (topS 10)) (defBody (topS 10)) (defScope (topS 10)) .none kV11 dc11 pm11 an11 cd11 ct11), sl11⟩) (c11 : PySem.W.codeIn K cd11 "are_indexes" = true) (k11 : PySem.W.keepIn K (.ref f11) = true)
    (a12 : PySem.W.nsIn K mainGlobals "is_triple" = some (some (.ref f12))) (l12 : K.lookup f12 = some ⟨oc12, od12, .func (PySem.W.fnOf "is_triple" "is_triple" (defArgs (topS 18)) (defBody (topS 18)) (defScope (topS 18)) .none kV12 dc12 pm12 an12 cd12 ct12), sl12⟩) (c12 : PySem.W.codeIn K cd12 "is_triple" = true) (k12 : PySem.W.keepIn K (.ref f12) = true)
    (a13 : PySem.W.nsIn K mainGlobals "wrong_in_triples" = some (some (.ref f13))) (l13 : K.lookup f13 = some ⟨oc13, od13, .func (PySem.W.fnOf "wrong_in_triples" "wrong_in_triples" (defArgs (topS 19)) (defBody (topS 19)) (defScope (topS 19)) .none kV13 dc13 pm13 an13 cd13 ct13), sl13⟩) (c13 : PySem.W.codeIn K cd13 "wrong_in_triples" = true) (k13 : PySem.W.keepIn K (.ref f13) = true)
    (a14 : PySem.W.nsIn K mainGlobals "wrong_in_left" = some (some (.ref f14))) (l14 : K.lookup f14 = some ⟨oc14, od14, .func (PySem.W.fnOf "wrong_in_left" "wrong_in_left" (defArgs (topS 20)) (defBody (topS 20)) (defScope (topS 20)) .none kV14 dc14 pm14 an14 cd14 ct14), sl14⟩) (c14 : PySem.W.codeIn K cd14 "wrong_in_left" = true) (k14 : PySem.W.keepIn K (.ref f14) = true)
    (a15 : PySem.W.nsIn K mainGlobals "check_season" = some (some (.ref f15))) (l15 : K.lookup f15 = some ⟨oc15, od15, .func (PySem.W.fnOf "check_season" "check_season" (defArgs (topS 30)) (defBody (topS 30)) (defScope (topS 30)) .none kV15 dc15 pm15 an15 cd15 ct15), sl15⟩) (c15 : PySem.W.codeIn K cd15 "check_season" = true) (k15 : PySem.W.keepIn K (.ref f15) = true)
    (a16 : PySem.W.nsIn K mainGlobals "lots_of_others" = some (some (.ref f16))) (l16 : K.lookup f16 = some ⟨oc16, od16, .func (PySem.W.fnOf "lots_of_others" "lots_of_others" (defArgs (topS 25)) (defBody (topS 25)) (defScope (topS 25)) .none kV16 dc16 pm16 an16 cd16 ct16), sl16⟩) (c16 : PySem.W.codeIn K cd16 "lots_of_others" = true) (k16 : PySem.W.keepIn K (.ref f16) = true)
    (a17 : PySem.W.nsIn K mainGlobals "games_among" = some (some (.ref f17))) (l17 : K.lookup f17 = some ⟨oc17, od17, .func (PySem.W.fnOf "games_among" "games_among" (defArgs (topS 23)) (defBody (topS 23)) (defScope (topS 23)) .none kV17 dc17 pm17 an17 cd17 ct17), sl17⟩) (c17 : PySem.W.codeIn K cd17 "games_among" = true) (k17 : PySem.W.keepIn K (.ref f17) = true)
    (a18 : PySem.W.nsIn K mainGlobals "is_over" = some (some (.ref f18))) (l18 : K.lookup f18 = some ⟨oc18, od18, .func (PySem.W.fnOf "is_over" "is_over" (defArgs (topS 24)) (defBody (topS 24)) (defScope (topS 24)) .none kV18 dc18 pm18 an18 cd18 ct18), sl18⟩) (c18 : PySem.W.codeIn K cd18 "is_over" = true) (k18 : PySem.W.keepIn K (.ref f18) = true)
    (a19 : PySem.W.nsIn K mainGlobals "lot_over_most" = some (some (.ref f19))) (l19 : K.lookup f19 = some ⟨oc19, od19, .func (PySem.W.fnOf "lot_over_most" "lot_over_most" (defArgs (topS 26)) (defBody (topS 26)) (defScope (topS 26)) .none kV19 dc19 pm19 an19 cd19 ct19), sl19⟩) (c19 : PySem.W.codeIn K cd19 "lot_over_most" = true) (k19 : PySem.W.keepIn K (.ref f19) = true)
    (a20 : PySem.W.nsIn K mainGlobals "games_left_by" = some (some (.ref f20))) (l20 : K.lookup f20 = some ⟨oc20, od20, .func (PySem.W.fnOf "games_left_by" "games_left_by" (defArgs (topS 21)) (defBody (topS 21)) (defScope (topS 21)) .none kV20 dc20 pm20 an20 cd20 ct20), sl20⟩) (c20 : PySem.W.codeIn K cd20 "games_left_by" = true) (k20 : PySem.W.keepIn K (.ref f20) = true)
    (a21 : PySem.W.nsIn K mainGlobals "most_wins_by" = some (some (.ref f21))) (l21 : K.lookup f21 = some ⟨oc21, od21, .func (PySem.W.fnOf "most_wins_by" "most_wins_by" (defArgs (topS 22)) (defBody (topS 22)) (defScope (topS 22)) .none kV21 dc21 pm21 an21 cd21 ct21), sl21⟩) (c21 : PySem.W.codeIn K cd21 "most_wins_by" = true) (k21 : PySem.W.keepIn K (.ref f21) = true)
    (a22 : PySem.W.nsIn K mainGlobals "lot_over_by" = some (some (.ref f22))) (l22 : K.lookup f22 = some ⟨oc22, od22, .func (PySem.W.fnOf "lot_over_by" "lot_over_by" (defArgs (topS 27)) (defBody (topS 27)) (defScope (topS 27)) .none kV22 dc22 pm22 an22 cd22 ct22), sl22⟩) (c22 : PySem.W.codeIn K cd22 "lot_over_by" = true) (k22 : PySem.W.keepIn K (.ref f22) = true)
    (a23 : PySem.W.nsIn K mainGlobals "can_be_first_by" = some (some (.ref f23))) (l23 : K.lookup f23 = some ⟨oc23, od23, .func (PySem.W.fnOf "can_be_first_by" "can_be_first_by" (defArgs (topS 28)) (defBody (topS 28)) (defScope (topS 28)) .none kV23 dc23 pm23 an23 cd23 ct23), sl23⟩) (c23 : PySem.W.codeIn K cd23 "can_be_first_by" = true) (k23 : PySem.W.keepIn K (.ref f23) = true)
    (a24 : PySem.W.nsIn K mainGlobals "firsts" = some (some (.ref f24))) (l24 : K.lookup f24 = some ⟨oc24, od24, .func (PySem.W.fnOf "firsts" "firsts" (defArgs (topS 34)) (defBody (topS 34)) (defScope (topS 34)) .none kV24 dc24 pm24 an24 cd24 ct24), sl24⟩) (c24 : PySem.W.codeIn K cd24 "firsts" = true) (k24 : PySem.W.keepIn K (.ref f24) = true)
    (a25 : PySem.W.nsIn K mainGlobals "check_team" = some (some (.ref f25))) (l25 : K.lookup f25 = some ⟨oc25, od25, .func (PySem.W.fnOf "check_team" "check_team" (defArgs (topS 31)) (defBody (topS 31)) (defScope (topS 31)) .none kV25 dc25 pm25 an25 cd25 ct25), sl25⟩) (c25 : PySem.W.codeIn K cd25 "check_team" = true) (k25 : PySem.W.keepIn K (.ref f25) = true)
    (a26 : PySem.W.nsIn K mainGlobals "most_wins" = some (some (.ref f26))) (l26 : K.lookup f26 = some ⟨oc26, od26, .func (PySem.W.fnOf "most_wins" "most_wins" (defArgs (topS 32)) (defBody (topS 32)) (defScope (topS 32)) .none kV26 dc26 pm26 an26 cd26 ct26), sl26⟩) (c26 : PySem.W.codeIn K cd26 "most_wins" = true) (k26 : PySem.W.keepIn K (.ref f26) = true)
    (a27 : PySem.W.nsIn K mainGlobals "can_be_first" = some (some (.ref f27))) (l27 : K.lookup f27 = some ⟨oc27, od27, .func (PySem.W.fnOf "can_be_first" "can_be_first" (defArgs (topS 33)) (defBody (topS 33)) (defScope (topS 33)) .none kV27 dc27 pm27 an27 cd27 ct27), sl27⟩) (c27 : PySem.W.codeIn K cd27 "can_be_first" = true) (k27 : PySem.W.keepIn K (.ref f27) = true)
    (a28 : PySem.W.nsIn K mainGlobals "_law_is_num" = some (some (.ref f28))) (l28 : K.lookup f28 = some ⟨oc28, od28, .func (PySem.W.fnOf "_law_is_num" "_law_is_num" (defArgs (topS 39)) (defBody (topS 39)) (defScope (topS 39)) .none kV28 dc28 pm28 an28 cd28 ct28), sl28⟩) (c28 : PySem.W.codeIn K cd28 "_law_is_num" = true) (k28 : PySem.W.keepIn K (.ref f28) = true)
    (a29 : PySem.W.nsIn K mainGlobals "_law_is_in" = some (some (.ref f29))) (l29 : K.lookup f29 = some ⟨oc29, od29, .func (PySem.W.fnOf "_law_is_in" "_law_is_in" (defArgs (topS 40)) (defBody (topS 40)) (defScope (topS 40)) .none kV29 dc29 pm29 an29 cd29 ct29), sl29⟩) (c29 : PySem.W.codeIn K cd29 "_law_is_in" = true) (k29 : PySem.W.keepIn K (.ref f29) = true)
    (a30 : PySem.W.nsIn K mainGlobals "_law_are_results" = some (some (.ref f30))) (l30 : K.lookup f30 = some ⟨oc30, od30, .func (PySem.W.fnOf "_law_are_results" "_law_are_results" (defArgs (topS 42)) (defBody (topS 42)) (defScope (topS 42)) .none kV30 dc30 pm30 an30 cd30 ct30), sl30⟩) (c30 : PySem.W.codeIn K cd30 "_law_are_results" = true) (k30 : PySem.W.keepIn K (.ref f30) = true)
    (a31 : PySem.W.nsIn K mainGlobals "_law_season_right" = some (some (.ref f31))) (l31 : K.lookup f31 = some ⟨oc31, od31, .func (PySem.W.fnOf "_law_season_right" "_law_season_right" (defArgs (topS 45)) (defBody (topS 45)) (defScope (topS 45)) .none kV31 dc31 pm31 an31 cd31 ct31), sl31⟩) (c31 : PySem.W.codeIn K cd31 "_law_season_right" = true) (k31 : PySem.W.keepIn K (.ref f31) = true)
    (a32 : PySem.W.nsIn K mainGlobals "_law_right" = some (some (.ref f32))) (l32 : K.lookup f32 = some ⟨oc32, od32, .func (PySem.W.fnOf "_law_right" "_law_right" (defArgs (topS 46)) (defBody (topS 46)) (defScope (topS 46)) .none kV32 dc32 pm32 an32 cd32 ct32), sl32⟩) (c32 : PySem.W.codeIn K cd32 "_law_right" = true) (k32 : PySem.W.keepIn K (.ref f32) = true)
    (a33 : PySem.W.nsIn K mainGlobals "_law_pool" = some (some (.ref f33))) (l33 : K.lookup f33 = some ⟨oc33, od33, .func (PySem.W.fnOf "_law_pool" "_law_pool" (defArgs (topS 36)) (defBody (topS 36)) (defScope (topS 36)) .none kV33 dc33 pm33 an33 cd33 ct33), sl33⟩) (c33 : PySem.W.codeIn K cd33 "_law_pool" = true) (k33 : PySem.W.keepIn K (.ref f33) = true)
    (a34 : PySem.W.nsIn K mainGlobals "law" = some (some (.ref f34))) (l34 : K.lookup f34 = some ⟨oc34, od34, .func (PySem.W.fnOf "law" "law" (defArgs (topS 47)) (defBody (topS 47)) (defScope (topS 47)) .none kV34 dc34 pm34 an34 cd34 ct34), sl34⟩) (c34 : PySem.W.codeIn K cd34 "law" = true) (k34 : PySem.W.keepIn K (.ref f34) = true)
    (z_divmod : PySem.W.nsIn K mainGlobals "divmod" = some none)
    (z_int : PySem.W.nsIn K mainGlobals "int" = some none)
    (z_len : PySem.W.nsIn K mainGlobals "len" = some none)
    (z_tuple : PySem.W.nsIn K mainGlobals "tuple" = some none)
    (z_range : PySem.W.nsIn K mainGlobals "range" = some none)
    (z_max : PySem.W.nsIn K mainGlobals "max" = some none)
    (z_min : PySem.W.nsIn K mainGlobals "min" = some none)
    (z_sorted : PySem.W.nsIn K mainGlobals "sorted" = some none)
    (z_isinstance : PySem.W.nsIn K mainGlobals "isinstance" = some none)
    (z_bool : PySem.W.nsIn K mainGlobals "bool" = some none)
    (z_enumerate : PySem.W.nsIn K mainGlobals "enumerate" = some none)
    (z_all : PySem.W.nsIn K mainGlobals "all" = some none)
    (z_sum : PySem.W.nsIn K mainGlobals "sum" = some none)
    (z_list : PySem.W.nsIn K mainGlobals "list" = some none)
    (z_abs : PySem.W.nsIn K mainGlobals "abs" = some none)
    (n_MOST_WINS : PySem.W.nsIn K mainGlobals "MOST_WINS" = some (some (.int 99 t_MOST_WINS)))
    (n_MOST_TEAMS : PySem.W.nsIn K mainGlobals "MOST_TEAMS" = some (some (.int 5 t_MOST_TEAMS)))
    (n_FEWEST_TEAMS : PySem.W.nsIn K mainGlobals "FEWEST_TEAMS" = some (some (.int 2 t_FEWEST_TEAMS)))
    (n_MOST_GAMES : PySem.W.nsIn K mainGlobals "MOST_GAMES" = some (some (.int 20 t_MOST_GAMES)))
    : ∃ fd : FuncData, (∀ (s : Shared) (v : Value), BindsTo s fd ⟨[v], []⟩ [("script", v)]) ∧ ∀ base : Heap, K.In base → base.Ns mainGlobals mg → FnOk l.prog w K mg base (L2.CX l.prog w) 24 fa fd ["script"] (spLaw K) := by
  have e := hfa.symm.trans (PySem.W.mg_of X G a34)
  cases e
  refine ⟨PySem.W.fnOf "law" "law" (defArgs (topS 47)) (defBody (topS 47)) (defScope (topS 47)) .none kV34 dc34 pm34 an34 cd34 ct34, fun s v => .of_eq rfl, fun base _ _ => ?_⟩
  have d__law_draw := def_mk (P := l.prog) (w := w) (base := base) (x := "_law_draw") (ps := ["pool", "many"]) (C := C__law_draw) (nn := 4) (PySem.W.mg_of X G a0) (fun_mk (st := topS 37) l0 c0 k0) kp_0 ⟨⟨rfl, rfl, rfl, rfl⟩, rfl, rfl⟩ (show FnScope ["pool", "many", "figure", "held"] ["pool", "many"] (defScope (topS 37)) from ⟨rfl, rfl, rfl, by decide +kernel, rfl, by decide +kernel, by decide +kernel⟩) rfl rfl rfl D__law_draw .nil .nil .nil (.cons (PySem.W.mg_none_of X G z_divmod) (.cons (PySem.W.mg_none_of X G z_int) .nil))
  have d__law_pick := def_mk (P := l.prog) (w := w) (base := base) (x := "_law_pick") (ps := ["pool", "some"]) (C := C__law_pick) (nn := 2) (PySem.W.mg_of X G a1) (fun_mk (st := topS 38) l1 c1 k1) kp_1 ⟨⟨rfl, rfl, rfl, rfl⟩, rfl, rfl⟩ (show FnScope ["pool", "some"] ["pool", "some"] (defScope (topS 38)) from ⟨rfl, rfl, rfl, by decide +kernel, rfl, by decide +kernel, by decide +kernel⟩) rfl rfl rfl D__law_pick (.cons d__law_draw (by decide) .nil) .nil .nil (.cons (PySem.W.mg_none_of X G z_len) .nil)
  have d__law_season := def_mk (P := l.prog) (w := w) (base := base) (x := "_law_season") (ps := ["pool", "most", "games"]) (C := C__law_season) (nn := 10) (PySem.W.mg_of X G a2) (fun_mk (st := topS 41) l2 c2 k2) kp_2 ⟨⟨rfl, rfl, rfl, rfl⟩, rfl, rfl⟩ (show FnScope ["pool", "most", "games", "teams", "high", "wins", "left", "one", "two", "team"] ["pool", "most", "games"] (defScope (topS 41)) from ⟨rfl, rfl, rfl, by decide +kernel, rfl, by decide +kernel, by decide +kernel⟩) rfl rfl rfl D__law_season (.cons d__law_pick (by decide) (.cons d__law_draw (by decide) .nil)) .nil .nil (.cons (PySem.W.mg_none_of X G z_tuple) (.cons (PySem.W.mg_none_of X G z_range) .nil))
  have d__law_renamed := def_mk (P := l.prog) (w := w) (base := base) (x := "_law_renamed") (ps := ["names", "wins", "left"]) (C := C__law_renamed) (nn := 10) (PySem.W.mg_of X G a3) (fun_mk (st := topS 44) l3 c3 k3) kp_3 ⟨⟨rfl, rfl, rfl, rfl⟩, rfl, rfl⟩ (show FnScope ["names", "wins", "left", "rows", "one", "two", "many", "a", "b", "team"] ["names", "wins", "left"] (defScope (topS 44)) from ⟨rfl, rfl, rfl, by decide +kernel, rfl, by decide +kernel, by decide +kernel⟩) rfl rfl rfl D__law_renamed .nil .nil .nil (.cons (PySem.W.mg_none_of X G z_max) (.cons (PySem.W.mg_none_of X G z_min) (.cons (PySem.W.mg_none_of X G z_tuple) (.cons (PySem.W.mg_none_of X G z_sorted) (.cons (PySem.W.mg_none_of X G z_range) (.cons (PySem.W.mg_none_of X G z_len) .nil))))))
  have d__law_all_results := def_mk (P := l.prog) (w := w) (base := base) (x := "_law_all_results") (ps := ["left"]) (C := C__law_all_results) (nn := 8) (PySem.W.mg_of X G a4) (fun_mk (st := topS 43) l4 c4 k4) kp_4 ⟨⟨rfl, rfl, rfl, rfl⟩, rfl, rfl⟩ (show FnScope ["left", "found", "one", "two", "many", "more", "row", "won"] ["left"] (defScope (topS 43)) from ⟨rfl, rfl, rfl, by decide +kernel, rfl, by decide +kernel, by decide +kernel⟩) rfl rfl rfl D__law_all_results .nil .nil .nil (.cons (PySem.W.mg_none_of X G z_range) .nil)
  have d_is_whole := def_mk (P := l.prog) (w := w) (base := base) (x := "is_whole") (ps := ["value"]) (C := C_is_whole) (nn := 1) (PySem.W.mg_of X G a5) (fun_mk (st := topS 6) l5 c5 k5) kp_5 ⟨⟨rfl, rfl, rfl, rfl⟩, rfl, rfl⟩ (show FnScope ["value"] ["value"] (defScope (topS 6)) from ⟨rfl, rfl, rfl, by decide +kernel, rfl, by decide +kernel, by decide +kernel⟩) rfl rfl rfl D_is_whole .nil .nil .nil (.cons (PySem.W.mg_none_of X G z_isinstance) (.cons (PySem.W.mg_none_of X G z_int) (.cons (PySem.W.mg_none_of X G z_bool) .nil)))
  have d_is_between := def_mk (P := l.prog) (w := w) (base := base) (x := "is_between") (ps := ["value", "low", "high"]) (C := C_is_between) (nn := 3) (PySem.W.mg_of X G a6) (fun_mk (st := topS 7) l6 c6 k6) kp_6 ⟨⟨rfl, rfl, rfl, rfl⟩, rfl, rfl⟩ (show FnScope ["value", "low", "high"] ["value", "low", "high"] (defScope (topS 7)) from ⟨rfl, rfl, rfl, by decide +kernel, rfl, by decide +kernel, by decide +kernel⟩) rfl rfl rfl D_is_between (.cons d_is_whole (by decide) .nil) .nil .nil .nil
  have d_is_wins := def_mk (P := l.prog) (w := w) (base := base) (x := "is_wins") (ps := ["value"]) (C := C_is_wins) (nn := 1) (PySem.W.mg_of X G a7) (fun_mk (st := topS 16) l7 c7 k7) kp_5 ⟨⟨rfl, rfl, rfl, rfl⟩, rfl, rfl⟩ (show FnScope ["value"] ["value"] (defScope (topS 16)) from ⟨rfl, rfl, rfl, by decide +kernel, rfl, by decide +kernel, by decide +kernel⟩) rfl rfl rfl D_is_wins (.cons d_is_between (by decide) .nil) .nil (.cons (cn_int (PySem.W.mg_of X G n_MOST_WINS)) .nil) .nil
  have d_first_wrong := def_mk (P := l.prog) (w := w) (base := base) (x := "first_wrong") (ps := ["value", "fewest", "most", "is_right"]) (C := C_first_wrong) (nn := 6) (PySem.W.mg_of X G a8) (fun_mk (st := topS 9) l8 c8 k8) kp_7 ⟨⟨rfl, rfl, rfl, rfl⟩, rfl, rfl⟩ (show FnScope ["value", "fewest", "most", "is_right", "index", "each"] ["value", "fewest", "most", "is_right"] (defScope (topS 9)) from ⟨rfl, rfl, rfl, by decide +kernel, rfl, by decide +kernel, by decide +kernel⟩) rfl rfl rfl D_first_wrong .nil (.cons d_is_wins (by decide) .nil) .nil (.cons (PySem.W.mg_none_of X G z_isinstance) (.cons (PySem.W.mg_none_of X G z_tuple) (.cons (PySem.W.mg_none_of X G z_len) (.cons (PySem.W.mg_none_of X G z_enumerate) .nil))))
  have d_wrong_in_wins := def_mk (P := l.prog) (w := w) (base := base) (x := "wrong_in_wins") (ps := ["value"]) (C := C_wrong_in_wins) (nn := 1) (PySem.W.mg_of X G a9) (fun_mk (st := topS 17) l9 c9 k9) kp_5 ⟨⟨rfl, rfl, rfl, rfl⟩, rfl, rfl⟩ (show FnScope ["value"] ["value"] (defScope (topS 17)) from ⟨rfl, rfl, rfl, by decide +kernel, rfl, by decide +kernel, by decide +kernel⟩) rfl rfl rfl D_wrong_in_wins (.cons d_first_wrong (by decide) (.cons d_is_wins (by decide) .nil)) .nil (.cons (cn_int (PySem.W.mg_of X G n_MOST_TEAMS)) (.cons (cn_int (PySem.W.mg_of X G n_FEWEST_TEAMS)) .nil)) .nil
  have d_is_tuple_of := def_mk (P := l.prog) (w := w) (base := base) (x := "is_tuple_of") (ps := ["value", "many"]) (C := C_is_tuple_of) (nn := 2) (PySem.W.mg_of X G a10) (fun_mk (st := topS 8) l10 c10 k10) kp_8 ⟨⟨rfl, rfl, rfl, rfl⟩, rfl, rfl⟩ (show FnScope ["value", "many"] ["value", "many"] (defScope (topS 8)) from ⟨rfl, rfl, rfl, by decide +kernel, rfl, by decide +kernel, by decide +kernel⟩) rfl rfl rfl D_is_tuple_of .nil .nil .nil (.cons (PySem.W.mg_none_of X G z_isinstance) (.cons (PySem.W.mg_none_of X G z_tuple) (.cons (PySem.W.mg_none_of X G z_len) .nil)))
  have d_are_indexes := def_mk (P := l.prog) (w := w) (base := base) (x := "are_indexes") (ps := ["many", "value"]) (C := C_are_indexes) (nn := 3) (PySem.W.mg_of X G a11) (fun_mk (st := topS 10) l11 c11 k11) kp_9 ⟨⟨rfl, rfl, rfl, rfl⟩, rfl, rfl⟩ (show FnScope ["many", "value", "each"] ["many", "value"] (defScope (topS 10)) from ⟨rfl, rfl, rfl, by decide +kernel, rfl, by decide +kernel, by decide +kernel⟩) rfl rfl rfl D_are_indexes (.cons d_is_between (by decide) .nil) .nil .nil (.cons (PySem.W.mg_none_of X G z_isinstance) (.cons (PySem.W.mg_none_of X G z_tuple) (.cons (PySem.W.mg_none_of X G z_all) .nil)))
  have d_is_triple := def_mk (P := l.prog) (w := w) (base := base) (x := "is_triple") (ps := ["many", "most", "value"]) (C := C_is_triple) (nn := 3) (PySem.W.mg_of X G a12) (fun_mk (st := topS 18) l12 c12 k12) kp_10 ⟨⟨rfl, rfl, rfl, rfl⟩, rfl, rfl⟩ (show FnScope ["many", "most", "value"] ["many", "most", "value"] (defScope (topS 18)) from ⟨rfl, rfl, rfl, by decide +kernel, rfl, by decide +kernel, by decide +kernel⟩) rfl rfl rfl D_is_triple (.cons d_is_tuple_of (by decide) (.cons d_are_indexes (by decide) (.cons d_is_between (by decide) .nil))) .nil .nil .nil
  have d_wrong_in_triples := def_mk (P := l.prog) (w := w) (base := base) (x := "wrong_in_triples") (ps := ["many", "most", "value"]) (C := C_wrong_in_triples) (nn := 5) (PySem.W.mg_of X G a13) (fun_mk (st := topS 19) l13 c13 k13) kp_10 ⟨⟨rfl, rfl, rfl, rfl⟩, rfl, rfl⟩ (show FnScope ["many", "most", "value", "index", "each"] ["many", "most", "value"] (defScope (topS 19)) from ⟨rfl, rfl, rfl, by decide +kernel, rfl, by decide +kernel, by decide +kernel⟩) rfl rfl rfl D_wrong_in_triples (.cons d_is_triple (by decide) .nil) .nil .nil (.cons (PySem.W.mg_none_of X G z_isinstance) (.cons (PySem.W.mg_none_of X G z_tuple) (.cons (PySem.W.mg_none_of X G z_enumerate) .nil)))
  have d_wrong_in_left := def_mk (P := l.prog) (w := w) (base := base) (x := "wrong_in_left") (ps := ["many", "value"]) (C := C_wrong_in_left) (nn := 2) (PySem.W.mg_of X G a14) (fun_mk (st := topS 20) l14 c14 k14) kp_9 ⟨⟨rfl, rfl, rfl, rfl⟩, rfl, rfl⟩ (show FnScope ["many", "value"] ["many", "value"] (defScope (topS 20)) from ⟨rfl, rfl, rfl, by decide +kernel, rfl, by decide +kernel, by decide +kernel⟩) rfl rfl rfl D_wrong_in_left (.cons d_wrong_in_triples (by decide) .nil) .nil (.cons (cn_int (PySem.W.mg_of X G n_MOST_GAMES)) .nil) .nil
  have d_check_season := def_mk (P := l.prog) (w := w) (base := base) (x := "check_season") (ps := ["wins", "left"]) (C := C_check_season) (nn := 3) (PySem.W.mg_of X G a15) (fun_mk (st := topS 30) l15 c15 k15) kp_11 ⟨⟨rfl, rfl, rfl, rfl⟩, rfl, rfl⟩ (show FnScope ["wins", "left", "index"] ["wins", "left"] (defScope (topS 30)) from ⟨rfl, rfl, rfl, by decide +kernel, rfl, by decide +kernel, by decide +kernel⟩) rfl rfl rfl D_check_season (.cons d_wrong_in_wins (by decide) (.cons d_wrong_in_left (by decide) .nil)) .nil .nil (.cons (PySem.W.mg_none_of X G z_len) .nil)
  have d_lots_of_others := def_mk (P := l.prog) (w := w) (base := base) (x := "lots_of_others") (ps := ["many", "team"]) (C := C_lots_of_others) (nn := 5) (PySem.W.mg_of X G a16) (fun_mk (st := topS 25) l16 c16 k16) kp_12 ⟨⟨rfl, rfl, rfl, rfl⟩, rfl, rfl⟩ (show FnScope ["many", "team", "found", "other", "lot"] ["many", "team"] (defScope (topS 25)) from ⟨rfl, rfl, rfl, by decide +kernel, rfl, by decide +kernel, by decide +kernel⟩) rfl rfl rfl D_lots_of_others .nil .nil .nil (.cons (PySem.W.mg_none_of X G z_range) (.cons (PySem.W.mg_none_of X G z_sorted) .nil))
  have d_games_among := def_mk (P := l.prog) (w := w) (base := base) (x := "games_among") (ps := ["left", "lot"]) (C := C_games_among) (nn := 5) (PySem.W.mg_of X G a17) (fun_mk (st := topS 23) l17 c17 k17) kp_13 ⟨⟨rfl, rfl, rfl, rfl⟩, rfl, rfl⟩ (show FnScope ["left", "lot", "one", "two", "games"] ["left", "lot"] (defScope (topS 23)) from ⟨rfl, rfl, rfl, by decide +kernel, rfl, by decide +kernel, by decide +kernel⟩) rfl rfl rfl D_games_among .nil .nil .nil (.cons (PySem.W.mg_none_of X G z_sum) .nil)
  have d_is_over := def_mk (P := l.prog) (w := w) (base := base) (x := "is_over") (ps := ["wins", "left", "most", "lot"]) (C := C_is_over) (nn := 5) (PySem.W.mg_of X G a18) (fun_mk (st := topS 24) l18 c18 k18) kp_14 ⟨⟨rfl, rfl, rfl, rfl⟩, rfl, rfl⟩ (show FnScope ["wins", "left", "most", "lot", "team"] ["wins", "left", "most", "lot"] (defScope (topS 24)) from ⟨rfl, rfl, rfl, by decide +kernel, rfl, by decide +kernel, by decide +kernel⟩) rfl rfl rfl D_is_over (.cons d_games_among (by decide) .nil) .nil .nil (.cons (PySem.W.mg_none_of X G z_sum) (.cons (PySem.W.mg_none_of X G z_len) .nil))
  have d_lot_over_most := def_mk (P := l.prog) (w := w) (base := base) (x := "lot_over_most") (ps := ["wins", "left", "team", "most"]) (C := C_lot_over_most) (nn := 5) (PySem.W.mg_of X G a19) (fun_mk (st := topS 26) l19 c19 k19) kp_15 ⟨⟨rfl, rfl, rfl, rfl⟩, rfl, rfl⟩ (show FnScope ["wins", "left", "team", "most", "lot"] ["wins", "left", "team", "most"] (defScope (topS 26)) from ⟨rfl, rfl, rfl, by decide +kernel, rfl, by decide +kernel, by decide +kernel⟩) rfl rfl rfl D_lot_over_most (.cons d_lots_of_others (by decide) (.cons d_is_over (by decide) .nil)) .nil .nil (.cons (PySem.W.mg_none_of X G z_len) .nil)
  have d_games_left_by := def_mk (P := l.prog) (w := w) (base := base) (x := "games_left_by") (ps := ["left", "team"]) (C := C_games_left_by) (nn := 5) (PySem.W.mg_of X G a20) (fun_mk (st := topS 21) l20 c20 k20) kp_16 ⟨⟨rfl, rfl, rfl, rfl⟩, rfl, rfl⟩ (show FnScope ["left", "team", "one", "two", "games"] ["left", "team"] (defScope (topS 21)) from ⟨rfl, rfl, rfl, by decide +kernel, rfl, by decide +kernel, by decide +kernel⟩) rfl rfl rfl D_games_left_by .nil .nil .nil (.cons (PySem.W.mg_none_of X G z_sum) .nil)
  have d_most_wins_by := def_mk (P := l.prog) (w := w) (base := base) (x := "most_wins_by") (ps := ["wins", "left", "team"]) (C := C_most_wins_by) (nn := 3) (PySem.W.mg_of X G a21) (fun_mk (st := topS 22) l21 c21 k21) kp_17 ⟨⟨rfl, rfl, rfl, rfl⟩, rfl, rfl⟩ (show FnScope ["wins", "left", "team"] ["wins", "left", "team"] (defScope (topS 22)) from ⟨rfl, rfl, rfl, by decide +kernel, rfl, by decide +kernel, by decide +kernel⟩) rfl rfl rfl D_most_wins_by (.cons d_games_left_by (by decide) .nil) .nil .nil .nil
  have d_lot_over_by := def_mk (P := l.prog) (w := w) (base := base) (x := "lot_over_by") (ps := ["wins", "left", "team"]) (C := C_lot_over_by) (nn := 3) (PySem.W.mg_of X G a22) (fun_mk (st := topS 27) l22 c22 k22) kp_17 ⟨⟨rfl, rfl, rfl, rfl⟩, rfl, rfl⟩ (show FnScope ["wins", "left", "team"] ["wins", "left", "team"] (defScope (topS 27)) from ⟨rfl, rfl, rfl, by decide +kernel, rfl, by decide +kernel, by decide +kernel⟩) rfl rfl rfl D_lot_over_by (.cons d_lot_over_most (by decide) (.cons d_most_wins_by (by decide) .nil)) .nil .nil .nil
  have d_can_be_first_by := def_mk (P := l.prog) (w := w) (base := base) (x := "can_be_first_by") (ps := ["wins", "left", "team"]) (C := C_can_be_first_by) (nn := 3) (PySem.W.mg_of X G a23) (fun_mk (st := topS 28) l23 c23 k23) kp_17 ⟨⟨rfl, rfl, rfl, rfl⟩, rfl, rfl⟩ (show FnScope ["wins", "left", "team"] ["wins", "left", "team"] (defScope (topS 28)) from ⟨rfl, rfl, rfl, by decide +kernel, rfl, by decide +kernel, by decide +kernel⟩) rfl rfl rfl D_can_be_first_by (.cons d_lot_over_by (by decide) .nil) .nil .nil .nil
  have d_firsts := def_mk (P := l.prog) (w := w) (base := base) (x := "firsts") (ps := ["wins", "left"]) (C := C_firsts) (nn := 3) (PySem.W.mg_of X G a24) (fun_mk (st := topS 34) l24 c24 k24) kp_11 ⟨⟨rfl, rfl, rfl, rfl⟩, rfl, rfl⟩ (show FnScope ["wins", "left", "team"] ["wins", "left"] (defScope (topS 34)) from ⟨rfl, rfl, rfl, by decide +kernel, rfl, by decide +kernel, by decide +kernel⟩) rfl rfl rfl D_firsts (.cons d_check_season (by decide) (.cons d_can_be_first_by (by decide) .nil)) .nil .nil (.cons (PySem.W.mg_none_of X G z_tuple) (.cons (PySem.W.mg_none_of X G z_range) (.cons (PySem.W.mg_none_of X G z_len) .nil)))
  have d_check_team := def_mk (P := l.prog) (w := w) (base := base) (x := "check_team") (ps := ["wins", "left", "team"]) (C := C_check_team) (nn := 3) (PySem.W.mg_of X G a25) (fun_mk (st := topS 31) l25 c25 k25) kp_17 ⟨⟨rfl, rfl, rfl, rfl⟩, rfl, rfl⟩ (show FnScope ["wins", "left", "team"] ["wins", "left", "team"] (defScope (topS 31)) from ⟨rfl, rfl, rfl, by decide +kernel, rfl, by decide +kernel, by decide +kernel⟩) rfl rfl rfl D_check_team (.cons d_check_season (by decide) (.cons d_is_between (by decide) .nil)) .nil .nil (.cons (PySem.W.mg_none_of X G z_len) .nil)
  have d_most_wins := def_mk (P := l.prog) (w := w) (base := base) (x := "most_wins") (ps := ["wins", "left", "team"]) (C := C_most_wins) (nn := 3) (PySem.W.mg_of X G a26) (fun_mk (st := topS 32) l26 c26 k26) kp_17 ⟨⟨rfl, rfl, rfl, rfl⟩, rfl, rfl⟩ (show FnScope ["wins", "left", "team"] ["wins", "left", "team"] (defScope (topS 32)) from ⟨rfl, rfl, rfl, by decide +kernel, rfl, by decide +kernel, by decide +kernel⟩) rfl rfl rfl D_most_wins (.cons d_check_team (by decide) (.cons d_most_wins_by (by decide) .nil)) .nil .nil .nil
  have d_can_be_first := def_mk (P := l.prog) (w := w) (base := base) (x := "can_be_first") (ps := ["wins", "left", "team"]) (C := C_can_be_first) (nn := 3) (PySem.W.mg_of X G a27) (fun_mk (st := topS 33) l27 c27 k27) kp_17 ⟨⟨rfl, rfl, rfl, rfl⟩, rfl, rfl⟩ (show FnScope ["wins", "left", "team"] ["wins", "left", "team"] (defScope (topS 33)) from ⟨rfl, rfl, rfl, by decide +kernel, rfl, by decide +kernel, by decide +kernel⟩) rfl rfl rfl D_can_be_first (.cons d_check_team (by decide) (.cons d_can_be_first_by (by decide) .nil)) .nil .nil .nil
  have d__law_is_num := def_mk (P := l.prog) (w := w) (base := base) (x := "_law_is_num") (ps := ["value"]) (C := C__law_is_num) (nn := 1) (PySem.W.mg_of X G a28) (fun_mk (st := topS 39) l28 c28 k28) kp_5 ⟨⟨rfl, rfl, rfl, rfl⟩, rfl, rfl⟩ (show FnScope ["value"] ["value"] (defScope (topS 39)) from ⟨rfl, rfl, rfl, by decide +kernel, rfl, by decide +kernel, by decide +kernel⟩) rfl rfl rfl D__law_is_num .nil .nil .nil (.cons (PySem.W.mg_none_of X G z_isinstance) (.cons (PySem.W.mg_none_of X G z_int) (.cons (PySem.W.mg_none_of X G z_bool) .nil)))
  have d__law_is_in := def_mk (P := l.prog) (w := w) (base := base) (x := "_law_is_in") (ps := ["value", "low", "high"]) (C := C__law_is_in) (nn := 3) (PySem.W.mg_of X G a29) (fun_mk (st := topS 40) l29 c29 k29) kp_6 ⟨⟨rfl, rfl, rfl, rfl⟩, rfl, rfl⟩ (show FnScope ["value", "low", "high"] ["value", "low", "high"] (defScope (topS 40)) from ⟨rfl, rfl, rfl, by decide +kernel, rfl, by decide +kernel, by decide +kernel⟩) rfl rfl rfl D__law_is_in (.cons d__law_is_num (by decide) .nil) .nil .nil .nil
  have d__law_are_results := def_mk (P := l.prog) (w := w) (base := base) (x := "_law_are_results") (ps := ["wins", "left", "team", "value"]) (C := C__law_are_results) (nn := 11) (PySem.W.mg_of X G a30) (fun_mk (st := topS 42) l30 c30 k30) kp_18 ⟨⟨rfl, rfl, rfl, rfl⟩, rfl, rfl⟩ (show FnScope ["wins", "left", "team", "value", "whole", "k", "one", "two", "many", "each", "some"] ["wins", "left", "team", "value"] (defScope (topS 42)) from ⟨rfl, rfl, rfl, by decide +kernel, rfl, by decide +kernel, by decide +kernel⟩) rfl rfl rfl D__law_are_results (.cons d__law_is_in (by decide) .nil) .nil .nil (.cons (PySem.W.mg_none_of X G z_isinstance) (.cons (PySem.W.mg_none_of X G z_tuple) (.cons (PySem.W.mg_none_of X G z_len) (.cons (PySem.W.mg_none_of X G z_list) (.cons (PySem.W.mg_none_of X G z_range) (.cons (PySem.W.mg_none_of X G z_sum) (.cons (PySem.W.mg_none_of X G z_max) .nil)))))))
  have d__law_season_right := def_mk (P := l.prog) (w := w) (base := base) (x := "_law_season_right") (ps := ["pool", "wins", "left"]) (C := C__law_season_right) (nn := 19) (PySem.W.mg_of X G a31) (fun_mk (st := topS 45) l31 c31 k31) kp_19 ⟨⟨rfl, rfl, rfl, rfl⟩, rfl, rfl⟩ (show FnScope ["pool", "wins", "left", "rows", "teams", "due", "names", "rest", "step", "fresh", "team", "more", "one", "two", "many", "ahead", "fewer", "each", "row"] ["pool", "wins", "left"] (defScope (topS 45)) from ⟨rfl, rfl, rfl, by decide +kernel, rfl, by decide +kernel, by decide +kernel⟩) rfl rfl rfl D__law_season_right (.cons d__law_all_results (by decide) (.cons d__law_are_results (by decide) (.cons d_firsts (by decide) (.cons d_can_be_first (by decide) (.cons d__law_draw (by decide) (.cons d__law_renamed (by decide) (.cons d_most_wins (by decide) .nil))))))) .nil .nil (.cons (PySem.W.mg_none_of X G z_len) (.cons (PySem.W.mg_none_of X G z_tuple) (.cons (PySem.W.mg_none_of X G z_range) (.cons (PySem.W.mg_none_of X G z_list) (.cons (PySem.W.mg_none_of X G z_sorted) (.cons (PySem.W.mg_none_of X G z_max) .nil))))))
  have d__law_right := def_mk (P := l.prog) (w := w) (base := base) (x := "_law_right") (ps := ["pool"]) (C := C__law_right) (nn := 4) (PySem.W.mg_of X G a32) (fun_mk (st := topS 46) l32 c32 k32) kp_20 ⟨⟨rfl, rfl, rfl, rfl⟩, rfl, rfl⟩ (show FnScope ["pool", "turn", "wins", "left"] ["pool"] (defScope (topS 46)) from ⟨rfl, rfl, rfl, by decide +kernel, rfl, by decide +kernel, by decide +kernel⟩) rfl rfl rfl D__law_right (.cons d__law_season (by decide) (.cons d__law_season_right (by decide) (.cons d_firsts (by decide) .nil))) .nil .nil (.cons (PySem.W.mg_none_of X G z_range) .nil)
  have d__law_pool := def_mk (P := l.prog) (w := w) (base := base) (x := "_law_pool") (ps := ["script", "turn"]) (C := C__law_pool) (nn := 5) (PySem.W.mg_of X G a33) (fun_mk (st := topS 36) l33 c33 k33) kp_21 ⟨⟨rfl, rfl, rfl, rfl⟩, rfl, rfl⟩ (show FnScope ["script", "turn", "own", "stirred", "cell"] ["script", "turn"] (defScope (topS 36)) from ⟨rfl, rfl, rfl, by decide +kernel, rfl, by decide +kernel, by decide +kernel⟩) rfl rfl rfl D__law_pool .nil .nil .nil (.cons (PySem.W.mg_none_of X G z_len) (.cons (PySem.W.mg_none_of X G z_int) (.cons (PySem.W.mg_none_of X G z_abs) .nil)))
  have d_law := fn_mk (P := l.prog) (w := w) (base := base) (ps := ["script"]) (C := C_law) (nn := 2) (fun_mk (st := topS 47) l34 c34 k34) (show FnScope ["script", "turn"] ["script"] (defScope (topS 47)) from ⟨rfl, rfl, rfl, by decide +kernel, rfl, by decide +kernel, by decide +kernel⟩) rfl rfl rfl D_law (.cons d__law_right (by decide) (.cons d__law_pool (by decide) .nil)) .nil .nil (.cons (PySem.W.mg_none_of X G z_range) (.cons (PySem.W.mg_none_of X G z_max) (.cons (PySem.W.mg_none_of X G z_min) (.cons (PySem.W.mg_none_of X G z_len) .nil))))
  exact law_fn hR d_law
end PD.LW
namespace PD.LW
open PySem PySem.Spec PyProof.Rows L2 PD
/-! sorted(list of ints) -/
def srtI (l : List Int) : List Int := l.mergeSort fun a b => decide (a ≤ b)
theorem srtI_perm (l : List Int) : (srtI l).Perm l := List.mergeSort_perm l _
theorem srtI_up (l : List Int) : (srtI l).Pairwise (· ≤ ·) := by
  have := List.pairwise_mergeSort (le := fun a b : Int => decide (a ≤ b)) (fun a b c h1 h2 => by simp only [decide_eq_true_eq] at *; omega) (fun a b => by simp only [Bool.or_eq_true, decide_eq_true_eq]; omega) l
  exact this.imp fun h => of_decide_eq_true h
theorem gSrtD_ints (l : List Int) (hl : l.length ≤ 16777216) : gSrtD [.lst (l.map .int)] = some ((srtI l).map .int) := by
  have e2 : srtP (l.map .int) = (srtI l).map PyData.int := by
    unfold srtP srtI
    symm
    refine List.map_mergeSort fun a _ b _ => ?_
    rw [PySem.W.dataLe_eq]
    show decide (a ≤ b) = !PySem.W.dataLt (.int b) (.int a)
    rw [PySem.W.dataLt_int, Bool.eq_iff_iff]
    simp only [decide_eq_true_eq, Bool.not_eq_true', decide_eq_false_iff_not]
    omega
  have e3 : sortOk (l.map PyData.int) = true := by
    unfold sortOk
    rw [alikeOk_ints]
    rw [Bool.and_eq_true, Bool.and_eq_true, Bool.or_eq_true]
    refine ⟨⟨rfl, .inr ?_⟩, decide_eq_true (by rw [List.length_map]; exact hl)⟩
    rw [List.all_eq_true]
    intro x hx
    obtain ⟨i, _, rfl⟩ := List.mem_map.mp hx
    rfl
  unfold gSrtD
  simp only [toPys_ints]
  rw [if_pos e3, e2, List.map_map]
  rfl
theorem take_fr {p : Nat} {M M' : Store} (h : Fr p M M') : Fr p M (M'.take M.length) := by
  rw [List.take_of_length_le (by rw [h.len]; exact Nat.le_refl _)]
  exact h
theorem frAll {p : Nat} {M M' : Store} (h : Fr p M M') : Fr p M (M'.take M.length) := by
  rw [List.take_of_length_le (by rw [h.len]; exact Nat.le_refl _)]
  exact h
/-! a call in the midst: the pool, cells of its own behind -/
structure StX (p : Nat) (M : Store) (cells : List (Option (List D))) (M' : Store) : Prop where
  len : M'.length = M.length + cells.length
  rest : ∀ i, i < M.length → i ≠ p → M'[i]? = M[i]?
  pl : Pl p M'
  at_ : ∀ j, j < cells.length → M'[M.length + j]? = cells[j]?
theorem StX.of {p : Nat} {M M' : Store} (h : Fr p M M') : StX p M [] M' := ⟨h.len, fun i _ hi => h.rest i hi, h.pl, fun _ h => nomatch h⟩
theorem StX.fr {p : Nat} {M M' M'' : Store} {cells : List (Option (List D))} (hp : p < M.length) (s : StX p M cells M') (h : Fr p M' M'') : StX p M cells M'' :=
  ⟨h.len.trans s.len, fun i hi hp' => (h.rest i hp').trans (s.rest i hi hp'), h.pl, fun j hj => (h.rest _ (by omega)).trans (s.at_ j hj)⟩
theorem StX.put {p : Nat} {M M' : Store} {cells : List (Option (List D))} (hp : p < M.length) (s : StX p M cells M') (j : Nat) (v : Option (List D)) : StX p M (cells.set j v) (M'.set (M.length + j) v) := by
  refine ⟨by rw [List.length_set, List.length_set]; exact s.len, fun i hi hip => by rw [List.getElem?_set_ne (by omega)]; exact s.rest i hi hip, ?_, fun i hi => ?_⟩
  · obtain ⟨a, b, c, e⟩ := s.pl
    exact ⟨a, b, c, by rw [List.getElem?_set_ne (by omega)]; exact e⟩
  · rw [List.length_set] at hi
    by_cases e : j = i
    · subst e
      rw [List.getElem?_set_self (by rw [s.len]; omega), List.getElem?_set_self hi]
    · rw [List.getElem?_set_ne (by omega), List.getElem?_set_ne e]
      exact s.at_ i hi
theorem StX.push {p : Nat} {M M' : Store} {cells : List (Option (List D))} (hp : p < M.length) (s : StX p M cells M') (v : Option (List D)) : StX p M (cells ++ [v]) (M' ++ [v]) := by
  refine ⟨by rw [List.length_append, List.length_append, s.len]; rfl, fun i hi hip => by rw [List.getElem?_append_left (by rw [s.len]; omega)]; exact s.rest i hi hip, ?_, fun i hi => ?_⟩
  · obtain ⟨a, b, c, e⟩ := s.pl
    exact ⟨a, b, c, by rw [List.getElem?_append_left (by rw [s.len]; omega)]; exact e⟩
  · rw [List.length_append, List.length_singleton] at hi
    by_cases e : i < cells.length
    · rw [List.getElem?_append_left (by rw [s.len]; omega), List.getElem?_append_left e]
      exact s.at_ i e
    · have e2 : i = cells.length := by omega
      subst e2
      rw [← s.len, List.getElem?_append_right (Nat.le_refl _), List.getElem?_append_right (Nat.le_refl _), Nat.sub_self, Nat.sub_self]
theorem StX.done {p : Nat} {M M' : Store} {cells : List (Option (List D))} (hp : p < M.length) (s : StX p M cells M') : Fr p M (M'.take M.length) := by
  refine ⟨by rw [List.length_take, s.len]; omega, fun i hi => ?_, ?_⟩
  · rw [List.getElem?_take]
    split
    · rename_i q; exact s.rest i q hi
    · rename_i q; rw [List.getElem?_eq_none (by omega)]
  · obtain ⟨a, b, c, e⟩ := s.pl
    exact ⟨a, b, c, by rw [List.getElem?_take, if_pos hp]; exact e⟩
theorem sp_draw {p : Nat} {M : Store} {many : Int} (h : Pl p M) (h0 : 0 < many) (h1 : many < 1073741824) : Ok (R__law_draw [.mt p, .d (.int many)] M) fun w M' => ∃ n : Int, w = .d (.int n) ∧ 0 ≤ n ∧ n < many ∧ Fr p M M' := by
  obtain ⟨a, b, c, e⟩ := h
  have hp := (List.getElem?_eq_some_iff.mp e).1
  refine Ok_fn rfl ?_
  have hs : ∀ v, (M.set p v)[p]? = some v := fun v => List.getElem?_set_self hp
  refine OkS_seq fun n1 k1 => ?_
  by_cases c0 : 0 < b
  · simp [cVar, cK, cOp, cB, cCons, cNil, conts, cTup, lLst, cFz, cMt, pures, asB, cTru, tNt, tAn, tOr2, cAnd, cOr, cNot, cIf, cUn, cChain, oNo, oSm, cSl, lB, lIt, cIt, seqOf, lLR1, lLR2, lSS, ssL, lSX, lSY, opAnd, opBor, opShl, opShr, opIn, opNin, cCall, cCallK, cCallV, cApp, truth, tTrue, gN, gTp, gNil, gCons, gSt, sNil, sSeq, sEx, sRt, sRtN, sIf, sAs, sFor, sPar, setAll, sFrz, sAug, lComp, wipeE, opAdd, opSub, opMul, opFdv, opMod, opPow, opEq, opNe, opLt, opLe, opGt, opGe, opIs, opIsn, isNon, opNeg, revD, ixD, slD, gLen, gAbs, gInt1, gMax2, gMin2, gSrt, LIM, gSum, gTup, gList, gIsi, tyName, instB, tyNames, iR1, iR2, iEn, iZp, iAdd, opt, ixN, kwPerm, finish, startE, opMul2, gSum2, cCnt, iZp2, cDix, cItK, keyD, dIf, dIfN, dEx, dPut, dAs, dFor, dRet, dComp, msk, bDc3, ofRd, lSDk, cStar, cPop, cIdxL, gMaxX_lst, gMaxX_tup, opLeT, gDmd, e, hs, c0, h0, h1]
    exact ⟨Int.emod_nonneg _ (by omega), Int.emod_lt_of_pos _ h0, by rw [List.take_of_length_le (by simp)]; exact Fr.set hp _ _ _⟩
  · simp [cVar, cK, cOp, cB, cCons, cNil, conts, cTup, lLst, cFz, cMt, pures, asB, cTru, tNt, tAn, tOr2, cAnd, cOr, cNot, cIf, cUn, cChain, oNo, oSm, cSl, lB, lIt, cIt, seqOf, lLR1, lLR2, lSS, ssL, lSX, lSY, opAnd, opBor, opShl, opShr, opIn, opNin, cCall, cCallK, cCallV, cApp, truth, tTrue, gN, gTp, gNil, gCons, gSt, sNil, sSeq, sEx, sRt, sRtN, sIf, sAs, sFor, sPar, setAll, sFrz, sAug, lComp, wipeE, opAdd, opSub, opMul, opFdv, opMod, opPow, opEq, opNe, opLt, opLe, opGt, opGe, opIs, opIsn, isNon, opNeg, revD, ixD, slD, gLen, gAbs, gInt1, gMax2, gMin2, gSrt, LIM, gSum, gTup, gList, gIsi, tyName, instB, tyNames, iR1, iR2, iEn, iZp, iAdd, opt, ixN, kwPerm, finish, startE, opMul2, gSum2, cCnt, iZp2, cDix, cItK, keyD, dIf, dIfN, dEx, dPut, dAs, dFor, dRet, dComp, msk, bDc3, ofRd, lSDk, cStar, cPop, cIdxL, gMaxX_lst, gMaxX_tup, opLeT, e, hs, c0]
    apply k1
    refine OkS_seq fun n2 k2 => ?_
    simp [cVar, cK, cOp, cB, cCons, cNil, conts, cTup, lLst, cFz, cMt, pures, asB, cTru, tNt, tAn, tOr2, cAnd, cOr, cNot, cIf, cUn, cChain, oNo, oSm, cSl, lB, lIt, cIt, seqOf, lLR1, lLR2, lSS, ssL, lSX, lSY, opAnd, opBor, opShl, opShr, opIn, opNin, cCall, cCallK, cCallV, cApp, truth, tTrue, gN, gTp, gNil, gCons, gSt, sNil, sSeq, sEx, sRt, sRtN, sIf, sAs, sFor, sPar, setAll, sFrz, sAug, lComp, wipeE, opAdd, opSub, opMul, opFdv, opMod, opPow, opEq, opNe, opLt, opLe, opGt, opGe, opIs, opIsn, isNon, opNeg, revD, ixD, slD, gLen, gAbs, gInt1, gMax2, gMin2, gSrt, LIM, gSum, gTup, gList, gIsi, tyName, instB, tyNames, iR1, iR2, iEn, iZp, iAdd, opt, ixN, kwPerm, finish, startE, opMul2, gSum2, cCnt, iZp2, cDix, cItK, keyD, dIf, dIfN, dEx, dPut, dAs, dFor, dRet, dComp, msk, bDc3, ofRd, lSDk, cStar, cPop, cIdxL, gMaxX_lst, gMaxX_tup, opLeT, e, hs]
    apply k2
    refine OkS_seq fun n3 k3 => ?_
    simp [cVar, cK, cOp, cB, cCons, cNil, conts, cTup, lLst, cFz, cMt, pures, asB, cTru, tNt, tAn, tOr2, cAnd, cOr, cNot, cIf, cUn, cChain, oNo, oSm, cSl, lB, lIt, cIt, seqOf, lLR1, lLR2, lSS, ssL, lSX, lSY, opAnd, opBor, opShl, opShr, opIn, opNin, cCall, cCallK, cCallV, cApp, truth, tTrue, gN, gTp, gNil, gCons, gSt, sNil, sSeq, sEx, sRt, sRtN, sIf, sAs, sFor, sPar, setAll, sFrz, sAug, lComp, wipeE, opAdd, opSub, opMul, opFdv, opMod, opPow, opEq, opNe, opLt, opLe, opGt, opGe, opIs, opIsn, isNon, opNeg, revD, ixD, slD, gLen, gAbs, gInt1, gMax2, gMin2, gSrt, LIM, gSum, gTup, gList, gIsi, tyName, instB, tyNames, iR1, iR2, iEn, iZp, iAdd, opt, ixN, kwPerm, finish, startE, opMul2, gSum2, cCnt, iZp2, cDix, cItK, keyD, dIf, dIfN, dEx, dPut, dAs, dFor, dRet, dComp, msk, bDc3, ofRd, lSDk, cStar, cPop, cIdxL, gMaxX_lst, gMaxX_tup, opLeT, e, hs]
    apply k3
    refine OkS_seq fun n4 k4 => ?_
    have hb : (a % 20011 + 30011).natAbs < 18446744073709551616 := by omega
    simp [cVar, cK, cOp, cB, cCons, cNil, conts, cTup, lLst, cFz, cMt, pures, asB, cTru, tNt, tAn, tOr2, cAnd, cOr, cNot, cIf, cUn, cChain, oNo, oSm, cSl, lB, lIt, cIt, seqOf, lLR1, lLR2, lSS, ssL, lSX, lSY, opAnd, opBor, opShl, opShr, opIn, opNin, cCall, cCallK, cCallV, cApp, truth, tTrue, gN, gTp, gNil, gCons, gSt, sNil, sSeq, sEx, sRt, sRtN, sIf, sAs, sFor, sPar, setAll, sFrz, sAug, lComp, wipeE, opAdd, opSub, opMul, opFdv, opMod, opPow, opEq, opNe, opLt, opLe, opGt, opGe, opIs, opIsn, isNon, opNeg, revD, ixD, slD, gLen, gAbs, gInt1, gMax2, gMin2, gSrt, LIM, gSum, gTup, gList, gIsi, tyName, instB, tyNames, iR1, iR2, iEn, iZp, iAdd, opt, ixN, kwPerm, finish, startE, opMul2, gSum2, cCnt, iZp2, cDix, cItK, keyD, dIf, dIfN, dEx, dPut, dAs, dFor, dRet, dComp, msk, bDc3, ofRd, lSDk, cStar, cPop, cIdxL, gMaxX_lst, gMaxX_tup, opLeT, e, hs, hb]
    apply k4
    simp [cVar, cK, cOp, cB, cCons, cNil, conts, cTup, lLst, cFz, cMt, pures, asB, cTru, tNt, tAn, tOr2, cAnd, cOr, cNot, cIf, cUn, cChain, oNo, oSm, cSl, lB, lIt, cIt, seqOf, lLR1, lLR2, lSS, ssL, lSX, lSY, opAnd, opBor, opShl, opShr, opIn, opNin, cCall, cCallK, cCallV, cApp, truth, tTrue, gN, gTp, gNil, gCons, gSt, sNil, sSeq, sEx, sRt, sRtN, sIf, sAs, sFor, sPar, setAll, sFrz, sAug, lComp, wipeE, opAdd, opSub, opMul, opFdv, opMod, opPow, opEq, opNe, opLt, opLe, opGt, opGe, opIs, opIsn, isNon, opNeg, revD, ixD, slD, gLen, gAbs, gInt1, gMax2, gMin2, gSrt, LIM, gSum, gTup, gList, gIsi, tyName, instB, tyNames, iR1, iR2, iEn, iZp, iAdd, opt, ixN, kwPerm, finish, startE, opMul2, gSum2, cCnt, iZp2, cDix, cItK, keyD, dIf, dIfN, dEx, dPut, dAs, dFor, dRet, dComp, msk, bDc3, ofRd, lSDk, cStar, cPop, cIdxL, gMaxX_lst, gMaxX_tup, opLeT, e, hs, h0]
    exact ⟨Int.emod_nonneg _ (by omega), Int.emod_lt_of_pos _ h0, by rw [List.take_of_length_le (by simp)]; exact Fr.set hp _ _ _⟩
theorem sp_pick {p : Nat} {M : Store} {ds : List D} (h : Pl p M) (h0 : ds ≠ []) (h1 : ds.length ≤ 16777216) : Ok (R__law_pick [.mt p, .d (.lst ds)] M) fun w M' => ∃ d ∈ ds, w = .d d ∧ Fr p M M' := by
  have hl : 0 < ds.length := List.length_pos_iff.mpr h0
  refine Ok_fn rfl ?_
  have hb := sp_draw (many := ds.length) h (by omega) (by omega)
  simp [B__law_pick, cVar, cK, cOp, cB, cCons, cNil, conts, cTup, lLst, cFz, cMt, pures, asB, cTru, tNt, tAn, tOr2, cAnd, cOr, cNot, cIf, cUn, cChain, oNo, oSm, cSl, lB, lIt, cIt, seqOf, lLR1, lLR2, lSS, ssL, lSX, lSY, opAnd, opBor, opShl, opShr, opIn, opNin, cCall, cCallK, cCallV, cApp, truth, tTrue, gN, gTp, gNil, gCons, gSt, sNil, sSeq, sEx, sRt, sRtN, sIf, sAs, sFor, sPar, setAll, sFrz, sAug, lComp, wipeE, opAdd, opSub, opMul, opFdv, opMod, opPow, opEq, opNe, opLt, opLe, opGt, opGe, opIs, opIsn, isNon, opNeg, revD, ixD, slD, gLen, gAbs, gInt1, gMax2, gMin2, gSrt, LIM, gSum, gTup, gList, gIsi, tyName, instB, tyNames, iR1, iR2, iEn, iZp, iAdd, opt, ixN, kwPerm, finish, startE, opMul2, gSum2, cCnt, iZp2, cDix, cItK, keyD, dIf, dIfN, dEx, dPut, dAs, dFor, dRet, dComp, msk, bDc3, ofRd, lSDk, cStar, cPop, cIdxL, gMaxX_lst, gMaxX_tup, opLeT, h1]
  refine hb.mono ?_
  rintro a M1 ⟨n, rfl, n0, n1, fr⟩
  obtain ⟨n, rfl⟩ := Int.eq_ofNat_of_zero_le n0
  have n2 : n < ds.length := by omega
  simp [cVar, cK, cOp, cB, cCons, cNil, conts, cTup, lLst, cFz, cMt, pures, asB, cTru, tNt, tAn, tOr2, cAnd, cOr, cNot, cIf, cUn, cChain, oNo, oSm, cSl, lB, lIt, cIt, seqOf, lLR1, lLR2, lSS, ssL, lSX, lSY, opAnd, opBor, opShl, opShr, opIn, opNin, cCall, cCallK, cCallV, cApp, truth, tTrue, gN, gTp, gNil, gCons, gSt, sNil, sSeq, sEx, sRt, sRtN, sIf, sAs, sFor, sPar, setAll, sFrz, sAug, lComp, wipeE, opAdd, opSub, opMul, opFdv, opMod, opPow, opEq, opNe, opLt, opLe, opGt, opGe, opIs, opIsn, isNon, opNeg, revD, ixD, slD, gLen, gAbs, gInt1, gMax2, gMin2, gSrt, LIM, gSum, gTup, gList, gIsi, tyName, instB, tyNames, iR1, iR2, iEn, iZp, iAdd, opt, ixN, kwPerm, finish, startE, opMul2, gSum2, cCnt, iZp2, cDix, cItK, keyD, dIf, dIfN, dEx, dPut, dAs, dFor, dRet, dComp, msk, bDc3, ofRd, lSDk, cStar, cPop, cIdxL, gMaxX_lst, gMaxX_tup, opLeT, n2]
  exact ⟨_, List.getElem_mem n2, rfl, frAll fr⟩
theorem erase_perm {os : List Int} {i : Nat} (h : i < os.length) : (os[i] :: os.eraseIdx i).Perm os := by
  induction os generalizing i with
  | nil => exact absurd h (Nat.not_lt_zero _)
  | cons x r ih =>
    cases i with
    | zero => exact .refl _
    | succ i =>
      have := ih (i := i) (by simpa using h)
      exact (List.Perm.swap _ _ _).trans (this.cons x)
theorem erase_map : ∀ (os : List Int) (i : Nat), (os.map D.int).eraseIdx i = (os.eraseIdx i).map .int
  | [], _ => by simp
  | x :: r, 0 => by simp
  | x :: r, i + 1 => by
    rw [List.map_cons, List.eraseIdx_cons_succ, List.eraseIdx_cons_succ, List.map_cons, erase_map r i]
def rngI (n : Nat) : List Int := (List.range n).map fun i : Nat => (i : Int)
theorem rngI_D (n : Nat) : rngD 0 n = (rngI n).map .int := by
  unfold rngD rngI
  rw [List.map_map]
  refine List.map_congr_left fun i _ => ?_
  show D.int (0 + (i : Int)) = D.int (i : Int)
  rw [Int.zero_add]
theorem rngI_mem {n : Nat} {z : Int} : z ∈ rngI n ↔ 0 ≤ z ∧ z < n := by
  unfold rngI
  rw [List.mem_map]
  constructor
  · rintro ⟨i, hi, rfl⟩
    rw [List.mem_range] at hi
    omega
  · rintro ⟨h0, h1⟩
    obtain ⟨i, rfl⟩ := Int.eq_ofNat_of_zero_le h0
    exact ⟨i, List.mem_range.mpr (by omega), rfl⟩
theorem strict_up : ∀ {l : List (List Int)}, Strict l → Up l
  | [], _ => .nil
  | x :: r, h => by
    obtain ⟨h1, h2⟩ := List.pairwise_cons.mp h
    refine List.pairwise_cons.mpr ⟨fun y hy => ?_, strict_up h2⟩
    have q := h1 y hy
    cases e : HT.lexLt y x with
    | false => rfl
    | true =>
      have := lex_trans q e
      rw [lex_irr] at this
      cases this
theorem srtR_strict {l : List (List Int)} (h : Strict l) : srtR l = l := up_uniq (srtR_up l) (strict_up h) (srtR_perm l)
end PD.LW
namespace PD.LW
open PySem PySem.Spec PyProof.Rows L2 PD
/-! sums over the teams -/
def sumR (n : Nat) (f : Nat → Int) : Int := ((List.range n).map f).sum
theorem sumR_succ (n : Nat) (f : Nat → Int) : sumR (n + 1) f = sumR n f + f n := by simp [sumR, List.range_succ]
theorem sumR_congr {n : Nat} {f g : Nat → Int} (h : ∀ v, v < n → f v = g v) : sumR n f = sumR n g := by
  unfold sumR
  congr 1
  exact List.map_congr_left fun v hv => h v (List.mem_range.mp hv)
theorem sumR_add (n : Nat) (f g : Nat → Int) : sumR n (fun v => f v + g v) = sumR n f + sumR n g := by
  induction n with
  | zero => rfl
  | succ n ih => rw [sumR_succ, sumR_succ, sumR_succ, ih]; omega
theorem sumR_le {n : Nat} {f g : Nat → Int} (h : ∀ v, v < n → f v ≤ g v) : sumR n f ≤ sumR n g := by
  induction n with
  | zero => exact Int.le_refl _
  | succ n ih =>
    rw [sumR_succ, sumR_succ]
    have := ih fun v hv => h v (by omega)
    have := h n (by omega)
    omega
theorem sumR_mul (n : Nat) (c : Int) (f : Nat → Int) : sumR n (fun v => c * f v) = c * sumR n f := by
  induction n with
  | zero => simp [sumR]
  | succ n ih => rw [sumR_succ, sumR_succ, ih, Int.mul_add]
theorem sumR_one {n : Nat} {a : Nat} (c : Int) (ha : a < n) : sumR n (fun v => if v = a then c else 0) = c := by
  induction n with
  | zero => omega
  | succ n ih =>
    rw [sumR_succ]
    by_cases e : a = n
    · subst e
      rw [if_pos rfl]
      have : sumR a (fun v => if v = a then c else 0) = sumR a (fun v => 0 * 0) := sumR_congr fun v hv => by rw [if_neg (by omega)]; rfl
      rw [this, sumR_mul]; omega
    · rw [ih (by omega), if_neg (by omega)]; omega
/-! lots as what they hold; wins, games among, games left -/
abbrev Lot := Int → Bool
def sW (W : List Int) (x : Lot) : Int := sumR W.length fun i => if x i then W.getD i 0 else 0
def sz (n : Nat) (x : Lot) : Int := sumR n fun i => if x i then 1 else 0
def gA (ls : List (List Int)) (x : Lot) : Int := (ls.map fun r => match r with | [a, b, m] => if x a && x b then m else 0 | _ => 0).sum
def gL (ls : List (List Int)) (t : Int) : Int := (ls.map fun r => match r with | [a, b, m] => if a = t ∨ b = t then m else 0 | _ => 0).sum
theorem gA_cons (a b m : Int) (ls : List (List Int)) (x : Lot) : gA ([a, b, m] :: ls) x = (if x a && x b then m else 0) + gA ls x := by simp [gA]
theorem gL_cons (a b m : Int) (ls : List (List Int)) (t : Int) : gL ([a, b, m] :: ls) t = (if a = t ∨ b = t then m else 0) + gL ls t := by simp [gL]
def Can (W : List Int) (ls : List (List Int)) (t : Int) : Prop := ∀ x : Lot, x t = false → sW W x + gA ls x ≤ (W.getD t.toNat 0 + gL ls t) * sz W.length x
def RowOk (n : Nat) (r : List Int) : Prop := ∃ a b m : Int, r = [a, b, m] ∧ 0 ≤ a ∧ a < b ∧ b < n ∧ 0 ≤ m
theorem sz_nonneg (n : Nat) (x : Lot) : 0 ≤ sz n x := by
  have := sumR_le (n := n) (f := fun _ => 0 * 0) (g := fun i => if x i then 1 else 0) fun v _ => by split <;> decide
  rw [sumR_mul] at this
  unfold sz
  omega
def upd (W : List Int) (a b k l : Int) : List Int := (W.set a.toNat (W.getD a.toNat 0 + k)).set b.toNat (W.getD b.toNat 0 + l)
theorem upd_len (W : List Int) (a b k l : Int) : (upd W a b k l).length = W.length := by simp [upd]
theorem upd_at {W : List Int} {a b : Int} (k l : Int) (ha : 0 ≤ a) (hab : a < b) (hb : b < W.length) (i : Nat) (hi : i < W.length) : (upd W a b k l).getD i 0 = W.getD i 0 + (if i = a.toNat then k else 0) + (if i = b.toNat then l else 0) := by
  unfold upd
  rw [List.getD_eq_getElem?_getD, List.getD_eq_getElem?_getD]
  by_cases c : i = b.toNat
  · subst c
    have h1 : ¬ b.toNat = a.toNat := by omega
    rw [List.getElem?_set_self (by rw [List.length_set]; exact hi), if_neg h1, if_pos rfl]
    simp [List.getD_eq_getElem?_getD]
  · rw [List.getElem?_set_ne (by omega), if_neg c]
    by_cases d : i = a.toNat
    · subst d
      rw [List.getElem?_set_self hi, if_pos rfl]
      simp [List.getD_eq_getElem?_getD]
    · rw [List.getElem?_set_ne (by omega), if_neg d]
      simp
theorem sW_upd {W : List Int} {a b : Int} (k l : Int) (ha : 0 ≤ a) (hab : a < b) (hb : b < W.length) (x : Lot) : sW (upd W a b k l) x = sW W x + (if x a then k else 0) + (if x b then l else 0) := by
  unfold sW
  rw [upd_len]
  have e : sumR W.length (fun i => if x i then (upd W a b k l).getD i 0 else 0) = sumR W.length fun i : Nat => (if x i then W.getD i 0 else 0) + (if i = a.toNat then (if x a then k else 0) else 0) + (if i = b.toNat then (if x b then l else 0) else 0) := sumR_congr fun i hi => by
    rw [upd_at k l ha hab hb i hi]
    by_cases c : i = a.toNat
    · have e1 : (i : Int) = a := by omega
      have e2 : ¬ i = b.toNat := by omega
      rw [if_pos c, if_neg e2, if_pos c, if_neg e2, e1]
      split <;> omega
    · by_cases d : i = b.toNat
      · have e1 : (i : Int) = b := by omega
        rw [if_neg c, if_pos d, if_neg c, if_pos d, e1]
        split <;> omega
      · rw [if_neg c, if_neg d, if_neg c, if_neg d]
        split <;> omega
  rw [e, sumR_add, sumR_add, sumR_one _ (by omega), sumR_one _ (by omega)]
/-! results -/
def finL : List Int → List (List Int) → List Int → List Int
  | W, [a, b, m] :: ls, k :: ks => finL (upd W a b k (m - k)) ls ks
  | W, _, _ => W
def KsOk : List (List Int) → List Int → Prop
  | [], [] => True
  | [_, _, m] :: ls, k :: ks => 0 ≤ k ∧ k ≤ m ∧ KsOk ls ks
  | _, _ => False
theorem fin_len : ∀ (ls : List (List Int)) (ks : List Int) (W : List Int), (∀ r ∈ ls, ∃ a b m : Int, r = [a, b, m]) → (finL W ls ks).length = W.length
  | [], ks, W, _ => by cases ks <;> rfl
  | r :: ls, ks, W, h => by
    obtain ⟨a, b, m, rfl⟩ := h r (by simp)
    cases ks with
    | nil => rfl
    | cons k ks =>
      show (finL (upd W a b k (m - k)) ls ks).length = _
      rw [fin_len ls ks _ fun r hr => h r (List.mem_cons_of_mem _ hr), upd_len]
theorem fin_ge : ∀ (ls : List (List Int)) (ks : List Int) (W : List Int) (x : Lot), (∀ r ∈ ls, RowOk W.length r) → KsOk ls ks → sW W x + gA ls x ≤ sW (finL W ls ks) x
  | [], [], W, x, _, _ => by
    show sW W x + 0 ≤ sW W x
    omega
  | [], k :: ks, W, x, _, h => h.elim
  | r :: ls, ks, W, x, hr, h => by
    obtain ⟨a, b, m, rfl, ha, hab, hb, hm⟩ := hr r (by simp)
    cases ks with
    | nil => exact h.elim
    | cons k ks =>
      obtain ⟨h0, h1, h2⟩ := h
      have ih := fin_ge ls ks (upd W a b k (m - k)) x (fun r q => by rw [upd_len]; exact hr r (List.mem_cons_of_mem _ q)) h2
      rw [sW_upd k (m - k) ha hab hb x] at ih
      show sW W x + gA ([a, b, m] :: ls) x ≤ sW (finL (upd W a b k (m - k)) ls ks) x
      rw [gA_cons]
      cases ca : x a <;> cases cb : x b <;> simp only [ca, cb, if_true, if_false, Bool.and_self, Bool.and_true, Bool.and_false, Bool.false_eq_true, Bool.true_and, Bool.false_and] at ih ⊢ <;> omega
theorem fin_le : ∀ (ls : List (List Int)) (ks : List Int) (W : List Int) (t : Nat), t < W.length → (∀ r ∈ ls, RowOk W.length r) → KsOk ls ks → (finL W ls ks).getD t 0 ≤ W.getD t 0 + gL ls t
  | [], [], W, t, _, _, _ => by
    show W.getD t 0 ≤ W.getD t 0 + 0
    omega
  | [], k :: ks, W, t, _, _, h => h.elim
  | r :: ls, ks, W, t, ht, hr, h => by
    obtain ⟨a, b, m, rfl, ha, hab, hb, hm⟩ := hr r (by simp)
    cases ks with
    | nil => exact h.elim
    | cons k ks =>
      obtain ⟨h0, h1, h2⟩ := h
      have ih := fin_le ls ks (upd W a b k (m - k)) t (by rw [upd_len]; exact ht) (fun r q => by rw [upd_len]; exact hr r (List.mem_cons_of_mem _ q)) h2
      rw [upd_at k (m - k) ha hab hb t ht] at ih
      show (finL (upd W a b k (m - k)) ls ks).getD t 0 ≤ W.getD t 0 + gL ([a, b, m] :: ls) t
      rw [gL_cons]
      by_cases c : t = a.toNat
      · have e1 : a = (t : Int) := by omega
        have e2 : ¬ t = b.toNat := by omega
        rw [if_pos c, if_neg e2] at ih
        rw [if_pos (.inl e1)]
        omega
      · by_cases d : t = b.toNat
        · have e1 : b = (t : Int) := by omega
          rw [if_neg c, if_pos d] at ih
          rw [if_pos (.inr e1)]
          omega
        · rw [if_neg c, if_neg d] at ih
          rw [if_neg (by omega)]
          omega
theorem can_of_res {W : List Int} {ls : List (List Int)} {t : Nat} (ht : t < W.length) (hr : ∀ r ∈ ls, RowOk W.length r) {ks : List Int} (hk : KsOk ls ks) (h : ∀ j, j < W.length → (finL W ls ks).getD j 0 ≤ (finL W ls ks).getD t 0) : Can W ls t := by
  intro x hx
  have h1 := fin_ge ls ks W x hr hk
  have h2 := fin_le ls ks W t ht hr hk
  have hl := fin_len ls ks W fun r q => by
    obtain ⟨a, b, m, e, _⟩ := hr r q
    exact ⟨a, b, m, e⟩
  generalize finL W ls ks = F at h h1 h2 hl
  have h3 : sW F x ≤ F.getD t 0 * sz W.length x := by
    unfold sW sz
    rw [← sumR_mul, hl]
    refine sumR_le fun i hi => ?_
    by_cases c : x i
    · rw [if_pos c, if_pos c, Int.mul_one]; exact h i hi
    · rw [if_neg c, if_neg c, Int.mul_zero]; exact Int.le_refl 0
  have h4 := Int.mul_le_mul_of_nonneg_right h2 (sz_nonneg W.length x)
  rw [Int.toNat_natCast]
  omega
/-! the other way -/
theorem least_nat {P : Nat → Prop} : ∀ n, P n → ∃ k, P k ∧ ∀ j, j < k → ¬ P j := by
  intro n
  induction n using Nat.strongRecOn with
  | ind n ih =>
    intro h
    by_cases c : ∃ j, j < n ∧ P j
    · obtain ⟨j, h1, h2⟩ := c
      exact ih j h1 h2
    · exact ⟨n, h, fun j hj hp => c ⟨j, hj, hp⟩⟩
theorem gA_super : ∀ (ls : List (List Int)) (n : Nat) (A B : Lot), (∀ r ∈ ls, RowOk n r) → gA ls A + gA ls B ≤ gA ls (fun i => A i || B i) + gA ls (fun i => A i && B i)
  | [], n, A, B, _ => Int.le_refl _
  | r :: ls, n, A, B, h => by
    obtain ⟨a, b, m, rfl, _, _, _, hm⟩ := h r (by simp)
    have ih := gA_super ls n A B fun r q => h r (List.mem_cons_of_mem _ q)
    rw [gA_cons, gA_cons, gA_cons, gA_cons]
    cases h1 : A a <;> cases h2 : A b <;> cases h3 : B a <;> cases h4 : B b <;> simp <;> omega
theorem sum_mod (n : Nat) (f : Nat → Int) (A B : Lot) : sumR n (fun i => if A i then f i else 0) + sumR n (fun i => if B i then f i else 0) = sumR n (fun i => if A i || B i then f i else 0) + sumR n (fun i => if A i && B i then f i else 0) := by
  rw [← sumR_add, ← sumR_add]
  refine sumR_congr fun i _ => ?_
  cases A i <;> cases B i <;> simp
theorem res_of_can (t : Nat) (M : Int) : ∀ (ls : List (List Int)) (W : List Int), t < W.length → (∀ r ∈ ls, RowOk W.length r) → W.getD t 0 + gL ls t = M → (∀ x : Lot, x t = false → sW W x + gA ls x ≤ M * sz W.length x) →
    ∃ ks, KsOk ls ks ∧ (finL W ls ks).getD t 0 = M ∧ ∀ j, j < W.length → j ≠ t → (finL W ls ks).getD j 0 ≤ M
  | [], W, ht, _, hM, h => by
    refine ⟨[], trivial, ?_, fun j hj hjt => ?_⟩
    · show W.getD t 0 = M
      have : gL [] t = 0 := rfl
      omega
    · have := h (fun i => decide (i = (j : Int))) (by simp; omega)
      have e1 : sW W (fun i => decide (i = (j : Int))) = W.getD j 0 := by
        unfold sW
        have : sumR W.length (fun i => if decide ((i : Int) = (j : Int)) then W.getD i 0 else 0) = sumR W.length (fun i => if i = j then W.getD j 0 else 0) := sumR_congr fun i _ => by
          by_cases c : i = j
          · subst c; simp
          · rw [if_neg c, if_neg (by simp; omega)]
        rw [this, sumR_one _ hj]
      have e2 : sz W.length (fun i => decide (i = (j : Int))) = 1 := by
        unfold sz
        have : sumR W.length (fun i => if decide ((i : Int) = (j : Int)) then (1 : Int) else 0) = sumR W.length (fun i => if i = j then 1 else 0) := sumR_congr fun i _ => by
          by_cases c : i = j
          · subst c; simp
          · rw [if_neg c, if_neg (by simp; omega)]
        rw [this, sumR_one _ hj]
      have e3 : gA [] (fun i => decide (i = (j : Int))) = 0 := rfl
      rw [e1, e2, e3] at this
      show W.getD j 0 ≤ M
      omega
  | r :: ls, W, ht, hr, hM, h => by
    obtain ⟨a, b, m, rfl, ha, hab, hb, hm⟩ := hr r (by simp)
    have hr' : ∀ k, ∀ r ∈ ls, RowOk (upd W a b k (m - k)).length r := fun k r q => by rw [upd_len]; exact hr r (List.mem_cons_of_mem _ q)
    have go : ∀ k, 0 ≤ k → k ≤ m → (W.getD t 0 + (if t = a.toNat then k else 0) + (if t = b.toNat then m - k else 0) + gL ls t = M) → (∀ x : Lot, x t = false → sW W x + (if x a then k else 0) + (if x b then m - k else 0) + gA ls x ≤ M * sz W.length x) → ∃ ks, KsOk ([a, b, m] :: ls) ks ∧ (finL W ([a, b, m] :: ls) ks).getD t 0 = M ∧ ∀ j, j < W.length → j ≠ t → (finL W ([a, b, m] :: ls) ks).getD j 0 ≤ M := fun k k0 k1 hMt hall => by
      obtain ⟨ks, q1, q2, q3⟩ := res_of_can t M ls (upd W a b k (m - k)) (by rw [upd_len]; exact ht) (hr' k) (by rw [upd_at k (m - k) ha hab hb t ht]; exact hMt) (fun x hx => by
        rw [sW_upd k (m - k) ha hab hb x, upd_len]; exact hall x hx)
      exact ⟨k :: ks, ⟨k0, k1, q1⟩, q2, fun j hj hjt => q3 j (by rw [upd_len]; exact hj) hjt⟩
    rw [gL_cons] at hM
    by_cases ca : a = (t : Int)
    · have e1 : t = a.toNat := by omega
      have e2 : ¬ t = b.toNat := by omega
      rw [if_pos (.inl ca)] at hM
      refine go m hm (Int.le_refl m) (by rw [if_pos e1, if_neg e2]; omega) fun x hx => ?_
      have := h x hx
      have hxa : x a = false := by rw [ca]; exact hx
      rw [gA_cons, hxa] at this
      simp only [Bool.false_and, Bool.false_eq_true, if_false] at this
      rw [hxa]
      simp only [Bool.false_eq_true, if_false]
      split <;> omega
    · by_cases cb : b = (t : Int)
      · have e1 : t = b.toNat := by omega
        have e2 : ¬ t = a.toNat := by omega
        rw [if_pos (.inr cb)] at hM
        refine go 0 (Int.le_refl 0) hm (by rw [if_neg e2, if_pos e1]; omega) fun x hx => ?_
        have := h x hx
        have hxb : x b = false := by rw [cb]; exact hx
        rw [gA_cons, hxb] at this
        simp only [Bool.and_false, Bool.false_eq_true, if_false] at this
        rw [hxb]
        simp only [Bool.false_eq_true, if_false]
        split <;> omega
      · have e1 : ¬ t = a.toNat := by omega
        have e2 : ¬ t = b.toNat := by omega
        rw [if_neg (by omega)] at hM
        have hf : ∀ x : Lot, x t = false → (if x a && x b then m else 0) ≤ M * sz W.length x - sW W x - gA ls x := fun x hx => by
          have := h x hx
          rw [gA_cons] at this
          omega
        by_cases cm : ∀ x : Lot, x t = false → x a = true → x b = false → m ≤ M * sz W.length x - sW W x - gA ls x
        · refine go m hm (Int.le_refl m) (by rw [if_neg e1, if_neg e2]; omega) fun x hx => ?_
          have h1 := hf x hx
          cases xa : x a <;> cases xb : x b <;> simp only [xa, xb, Bool.and_self, Bool.and_true, Bool.and_false, Bool.true_and, Bool.false_and, Bool.false_eq_true, if_true, if_false] at h1 ⊢
          · omega
          · omega
          · have := cm x hx xa xb; omega
          · omega
        · have cm : ∃ x : Lot, x t = false ∧ x a = true ∧ x b = false ∧ M * sz W.length x - sW W x - gA ls x < m := by
            refine Classical.byContradiction fun q => cm fun x h1 h2 h3 => ?_
            refine Classical.byContradiction fun q2 => q ⟨x, h1, h2, h3, by omega⟩
          obtain ⟨x0, y1, y2, y3, y4⟩ := cm
          have z0 := hf x0 y1
          rw [y3, Bool.and_false] at z0
          simp only [Bool.false_eq_true, if_false] at z0
          obtain ⟨k, ⟨A, a1, a2, a3, a4⟩, hk⟩ := least_nat (P := fun k : Nat => ∃ x : Lot, x t = false ∧ x a = true ∧ x b = false ∧ M * sz W.length x - sW W x - gA ls x = (k : Int)) (M * sz W.length x0 - sW W x0 - gA ls x0).toNat ⟨x0, y1, y2, y3, by omega⟩
          have hkm : (k : Int) < m := by
            by_cases c : (k : Int) < m
            · exact c
            · exact absurd ⟨x0, y1, y2, y3, by omega⟩ (hk (M * sz W.length x0 - sW W x0 - gA ls x0).toNat (by omega))
          refine go k (by omega) (by omega) (by rw [if_neg e1, if_neg e2]; omega) fun x hx => ?_
          have h1 := hf x hx
          cases xa : x a <;> cases xb : x b <;> simp only [xa, xb, Bool.and_self, Bool.and_true, Bool.and_false, Bool.true_and, Bool.false_and, Bool.false_eq_true, if_true, if_false] at h1 ⊢
          · omega
          · have u := hf (fun i => A i || x i) (by simp [a1, hx])
            have v := hf (fun i => A i && x i) (by simp [a1])
            simp only [a2, a3, xa, xb, Bool.true_or, Bool.or_true, Bool.false_or, Bool.or_false, Bool.and_self, Bool.and_false, Bool.false_and, Bool.false_eq_true, if_true, if_false] at u v
            have s1 := sum_mod W.length (fun i => W.getD i 0) A x
            have s2 := sum_mod W.length (fun _ => 1) A x
            have s3 := gA_super ls W.length A x fun r q => hr r (List.mem_cons_of_mem _ q)
            have s1 : sW W A + sW W x = sW W (fun i => A i || x i) + sW W (fun i => A i && x i) := s1
            have s2 : sz W.length A + sz W.length x = sz W.length (fun i => A i || x i) + sz W.length (fun i => A i && x i) := s2
            have s4 : M * sz W.length A + M * sz W.length x = M * sz W.length (fun i => A i || x i) + M * sz W.length (fun i => A i && x i) := by rw [← Int.mul_add, ← Int.mul_add, s2]
            omega
          · have : ¬ M * sz W.length x - sW W x - gA ls x < (k : Int) := fun c => hk (M * sz W.length x - sW W x - gA ls x).toNat (by omega) ⟨x, hx, xa, xb, by omega⟩
            omega
          · omega
theorem res_can {W : List Int} {ls : List (List Int)} {t : Nat} (ht : t < W.length) (hr : ∀ r ∈ ls, RowOk W.length r) : (∃ ks, KsOk ls ks ∧ ∀ j, j < W.length → (finL W ls ks).getD j 0 ≤ (finL W ls ks).getD t 0) ↔ Can W ls t := by
  constructor
  · rintro ⟨ks, h1, h2⟩
    exact can_of_res ht hr h1 h2
  · intro h
    obtain ⟨ks, q1, q2, q3⟩ := res_of_can t _ ls W ht hr rfl fun x hx => by
      have := h x hx
      rwa [Int.toNat_natCast] at this
    refine ⟨ks, q1, fun j hj => ?_⟩
    by_cases c : j = t
    · rw [c]; exact Int.le_refl _
    · rw [q2]; exact q3 j hj c
end PD.LW
namespace PD.LW
open PySem PySem.Spec PyProof.Rows L2 PD
theorem gt_range {l : List Int} {j : Nat} (h : l.length ≤ j) : l.getD j 0 = 0 := by
  rw [List.getD_eq_getElem?_getD, List.getElem?_eq_none h]; rfl
/-! a win more; a game won beforehand -/
def add1 (W : List Int) (i : Nat) : List Int := W.set i (W.getD i 0 + 1)
theorem add1_len (W : List Int) (i : Nat) : (add1 W i).length = W.length := by simp [add1]
theorem add1_at {W : List Int} {i : Nat} (hi : i < W.length) (j : Nat) : (add1 W i).getD j 0 = W.getD j 0 + if j = i then 1 else 0 := by
  unfold add1
  rw [List.getD_eq_getElem?_getD, List.getD_eq_getElem?_getD]
  by_cases c : j = i
  · subst c
    rw [List.getElem?_set_self hi, if_pos rfl]
    simp [List.getD_eq_getElem?_getD]
  · rw [List.getElem?_set_ne (by omega), if_neg c]
    simp
theorem sW_add1 {W : List Int} {i : Nat} (hi : i < W.length) (x : Lot) : sW (add1 W i) x = sW W x + if x i then 1 else 0 := by
  unfold sW
  rw [add1_len]
  have e : sumR W.length (fun j => if x j then (add1 W i).getD j 0 else 0) = sumR W.length fun j : Nat => (if x j then W.getD j 0 else 0) + (if j = i then (if x i then 1 else 0) else 0) := sumR_congr fun j _ => by
    rw [add1_at hi j]
    by_cases c : j = i
    · subst c
      rw [if_pos rfl, if_pos rfl]
      split <;> omega
    · rw [if_neg c, if_neg c]
      split <;> omega
  rw [e, sumR_add, sumR_one _ hi]
theorem can_more {W : List Int} {ls : List (List Int)} {t : Nat} (ht : t < W.length) (h : Can W ls t) : Can (add1 W t) ls t := by
  intro x hx
  have h1 := h x hx
  have h2 := sW_add1 ht x
  rw [hx] at h2
  simp only [Bool.false_eq_true, if_false] at h2
  rw [Int.toNat_natCast] at h1 ⊢
  rw [h2, add1_len, add1_at ht, if_pos rfl]
  have h3 := sz_nonneg W.length x
  have h4 : (W.getD t 0 + 1 + gL ls t) * sz W.length x = (W.getD t 0 + gL ls t) * sz W.length x + sz W.length x := by
    rw [show W.getD t 0 + 1 + gL ls t = (W.getD t 0 + gL ls t) + 1 by omega, Int.add_mul, Int.one_mul]
  omega
theorem can_ahead {W : List Int} {a b m : Int} {rest : List (List Int)} (ha : 0 ≤ a) (hab : a < b) (hb : b < W.length) (hm : 1 ≤ m) {t : Nat} (ht : t < W.length) (h : Can (add1 W a.toNat) (if 1 < m then [a, b, m - 1] :: rest else rest) t) : Can W ([a, b, m] :: rest) t := by
  have e1 : ∀ x : Lot, gA (if 1 < m then [a, b, m - 1] :: rest else rest) x = (if x a && x b then m - 1 else 0) + gA rest x := fun x => by
    by_cases c : 1 < m
    · rw [if_pos c, gA_cons]
    · have : m = 1 := by omega
      rw [if_neg c, this]
      split <;> omega
  have e2 : gL (if 1 < m then [a, b, m - 1] :: rest else rest) t = (if a = t ∨ b = t then m - 1 else 0) + gL rest t := by
    by_cases c : 1 < m
    · rw [if_pos c, gL_cons]
    · have : m = 1 := by omega
      rw [if_neg c, this]
      split <;> omega
  have hal : a.toNat < W.length := by omega
  intro x hx
  have h1 := h x hx
  rw [sW_add1 hal, add1_len, e1, e2, Int.toNat_natCast, add1_at hal] at h1
  have ea : ((a.toNat : Nat) : Int) = a := by omega
  rw [ea] at h1
  rw [gA_cons, gL_cons, Int.toNat_natCast]
  have h3 := sz_nonneg W.length x
  have h4 : (W.getD t 0 + (if t = a.toNat then 1 else 0)) + ((if a = t ∨ b = t then m - 1 else 0) + gL rest t) ≤ W.getD t 0 + ((if a = t ∨ b = t then m else 0) + gL rest t) := by
    by_cases c : t = a.toNat
    · have : a = (t : Int) := by omega
      rw [if_pos c, if_pos (.inl this), if_pos (.inl this)]; omega
    · rw [if_neg c]
      split <;> omega
  have h5 := Int.mul_le_mul_of_nonneg_right h4 h3
  cases xa : x a <;> cases xb : x b <;> simp only [xa, xb, Bool.and_self, Bool.and_true, Bool.and_false, Bool.true_and, Bool.false_and, Bool.false_eq_true, if_true, if_false] at h1 ⊢ <;> omega
/-! lots -/
def worthI (gs : List Int) (l : List Int) : Int := (l.map fun i => gs.getD i.toNat 0).sum
theorem worth_snoc (L l : List Int) (n : Nat) : worthI L (l ++ [(n : Int)]) = worthI L l + L.getD n 0 := by simp [worthI]
theorem worth_range (L : List Int) : ∀ n, ∀ l ∈ lotsR n, worthI L l = sumR n fun v => if (v : Int) ∈ l then L.getD v 0 else 0
  | 0, l, hl => by
    have : l = [] := by simpa [lotsR] using hl
    subst this; rfl
  | n + 1, l, hl => by
    rw [sumR_succ]
    rcases List.mem_append.mp hl with q | q
    · have hn : ¬ (n : Int) ∈ l := fun m => by have := (lotsR_in _ q).1 _ m; omega
      rw [if_neg hn, worth_range L n l q]; omega
    · obtain ⟨m, hm, rfl⟩ := List.mem_map.mp q
      rw [worth_snoc, if_pos (by simp), worth_range L n m hm]
      congr 1
      refine sumR_congr fun v hv => ?_
      have : ((v : Int) ∈ m ++ [(n : Int)]) ↔ (v : Int) ∈ m := by
        rw [List.mem_append, List.mem_singleton]
        constructor
        · rintro (h | h)
          · exact h
          · omega
        · exact .inl
      by_cases c : (v : Int) ∈ m
      · rw [if_pos c, if_pos (this.mpr c)]
      · rw [if_neg c, if_neg fun h => c (this.mp h)]
theorem len_range : ∀ n, ∀ l ∈ lotsR n, (l.length : Int) = sumR n fun v => if (v : Int) ∈ l then 1 else 0
  | 0, l, hl => by
    have : l = [] := by simpa [lotsR] using hl
    subst this; rfl
  | n + 1, l, hl => by
    rw [sumR_succ]
    rcases List.mem_append.mp hl with q | q
    · have hn : ¬ (n : Int) ∈ l := fun m => by have := (lotsR_in _ q).1 _ m; omega
      rw [if_neg hn, len_range n l q]; omega
    · obtain ⟨m, hm, rfl⟩ := List.mem_map.mp q
      rw [List.length_append, if_pos (by simp), Int.natCast_add, len_range n m hm]
      congr 1
      refine sumR_congr fun v hv => ?_
      have : ((v : Int) ∈ m ++ [(n : Int)]) ↔ (v : Int) ∈ m := by
        rw [List.mem_append, List.mem_singleton]
        constructor
        · rintro (h | h)
          · exact h
          · omega
        · exact .inl
      by_cases c : (v : Int) ∈ m
      · rw [if_pos c, if_pos (this.mpr c)]
      · rw [if_neg c, if_neg fun h => c (this.mp h)]
def keepN (n : Nat) (c : Nat → Bool) : List Int := ((List.range n).filter c).map fun v : Nat => (v : Int)
theorem keepN_mem {n : Nat} {c : Nat → Bool} {z : Int} : z ∈ keepN n c ↔ ∃ v : Nat, z = v ∧ v < n ∧ c v = true := by
  unfold keepN
  simp only [List.mem_map, List.mem_filter, List.mem_range]
  constructor
  · rintro ⟨v, ⟨h1, h2⟩, rfl⟩; exact ⟨v, rfl, h1, h2⟩
  · rintro ⟨v, rfl, h1, h2⟩; exact ⟨v, ⟨h1, h2⟩, rfl⟩
theorem keepN_up (n : Nat) (c : Nat → Bool) : (keepN n c).Pairwise (· < ·) := by
  unfold keepN
  refine List.pairwise_map.mpr ((List.pairwise_lt_range.sublist List.filter_sublist).imp fun h => ?_)
  omega
theorem keepN_lots (n : Nat) (c : Nat → Bool) : keepN n c ∈ lotsR n := lotsR_iff.mpr ⟨fun x hx => by
  obtain ⟨v, rfl, h, _⟩ := keepN_mem.mp hx
  omega, keepN_up n c⟩
theorem gA_congr {n : Nat} {x y : Lot} (h : ∀ i : Nat, i < n → x i = y i) : ∀ (ls : List (List Int)), (∀ r ∈ ls, RowOk n r) → gA ls x = gA ls y
  | [], _ => rfl
  | r :: ls, hr => by
    obtain ⟨a, b, m, rfl, ha, hab, hb, hm⟩ := hr r (by simp)
    have e1 := h a.toNat (by omega)
    have e2 := h b.toNat (by omega)
    rw [show ((a.toNat : Nat) : Int) = a by omega] at e1
    rw [show ((b.toNat : Nat) : Int) = b by omega] at e2
    rw [gA_cons, gA_cons, e1, e2, gA_congr h ls fun r q => hr r (List.mem_cons_of_mem _ q)]
theorem sW_congr {W : List Int} {x y : Lot} (h : ∀ i : Nat, i < W.length → x i = y i) : sW W x = sW W y := sumR_congr fun i hi => by rw [h i hi]
theorem sz_congr {n : Nat} {x y : Lot} (h : ∀ i : Nat, i < n → x i = y i) : sz n x = sz n y := sumR_congr fun i hi => by rw [h i hi]
/-- what the program asks of a lot -/
def overB (W : List Int) (ls : List (List Int)) (most : Int) (S : List Int) : Bool := decide (most * S.length < worthI W S + gA ls fun i => decide (i ∈ S))
theorem can_lots {W : List Int} {ls : List (List Int)} {t : Nat} (ht : t < W.length) (hr : ∀ r ∈ ls, RowOk W.length r) : Can W ls t ↔ ∀ S ∈ lotsR W.length, (t : Int) ∉ S → overB W ls (W.getD t 0 + gL ls t) S = false := by
  constructor
  · intro h S hS htS
    have h1 := h (fun i => decide (i ∈ S)) (decide_eq_false htS)
    rw [Int.toNat_natCast] at h1
    refine decide_eq_false ?_
    have e1 := worth_range W W.length S hS
    have e2 := len_range W.length S hS
    have e3 : sW W (fun i => decide (i ∈ S)) = worthI W S := by
      rw [e1]
      exact sumR_congr fun i _ => by simp
    have e4 : sz W.length (fun i => decide (i ∈ S)) = S.length := by
      rw [e2]
      exact sumR_congr fun i _ => by simp
    rw [e3, e4] at h1
    omega
  · intro h x hx
    rw [Int.toNat_natCast]
    have h1 := h (keepN W.length fun v => x v) (keepN_lots _ _) (fun c => by
      obtain ⟨v, e, _, hv⟩ := keepN_mem.mp c
      have : x v = x t := by rw [← e]
      rw [hv, hx] at this
      cases this)
    have h1 := of_decide_eq_false h1
    have e0 : ∀ i : Nat, i < W.length → decide ((i : Int) ∈ keepN W.length fun v => x v) = x i := fun i hi => by
      rw [Bool.eq_iff_iff, decide_eq_true_iff, keepN_mem]
      constructor
      · rintro ⟨v, e, _, hv⟩
        have : v = i := by omega
        rw [← this]; exact hv
      · intro c
        exact ⟨i, rfl, hi, c⟩
    rw [gA_congr e0 ls hr, worth_range W W.length _ (keepN_lots _ _), len_range W.length _ (keepN_lots _ _)] at h1
    have e1 : sumR W.length (fun v => if (v : Int) ∈ keepN W.length (fun v => x v) then W.getD v 0 else 0) = sW W x := sumR_congr fun i hi => by
      have := e0 i hi
      by_cases c : x i
      · rw [c] at this
        rw [if_pos (of_decide_eq_true this), if_pos c]
      · have c : x i = false := by simpa using c
        rw [c] at this
        rw [if_neg (of_decide_eq_false this), c]; rfl
    have e2 : sumR W.length (fun v => if (v : Int) ∈ keepN W.length (fun v => x v) then (1 : Int) else 0) = sz W.length x := sumR_congr fun i hi => by
      have := e0 i hi
      by_cases c : x i
      · rw [c] at this
        rw [if_pos (of_decide_eq_true this), if_pos c]
      · have c : x i = false := by simpa using c
        rw [c] at this
        rw [if_neg (of_decide_eq_false this), c]; rfl
    rw [e1, e2] at h1
    omega
/-! teams told by other numbers -/
def ren (v : List Int) : List Int → List Int
  | [a, b, m] => if v.getD b.toNat 0 < v.getD a.toNat 0 then [v.getD b.toNat 0, v.getD a.toNat 0, m] else [v.getD a.toNat 0, v.getD b.toNat 0, m]
  | r => r
theorem sum_perm {l l' : List Int} (h : l.Perm l') : l.sum = l'.sum := by
  induction h with
  | nil => rfl
  | cons x _ ih => rw [List.sum_cons, List.sum_cons, ih]
  | swap x y l => rw [List.sum_cons, List.sum_cons, List.sum_cons, List.sum_cons]; omega
  | trans _ _ h1 h2 => exact h1.trans h2
theorem gA_perm {ls ls' : List (List Int)} (h : ls.Perm ls') (x : Lot) : gA ls x = gA ls' x := sum_perm (h.map _)
theorem gL_perm {ls ls' : List (List Int)} (h : ls.Perm ls') (t : Int) : gL ls t = gL ls' t := sum_perm (h.map _)
theorem gA_ren (v : List Int) (x : Lot) {n : Nat} : ∀ (ls : List (List Int)), (∀ r ∈ ls, RowOk n r) → gA (ls.map (ren v)) x = gA ls fun i => x (v.getD i.toNat 0)
  | [], _ => rfl
  | r :: ls, hr => by
    obtain ⟨a, b, m, rfl, _⟩ := hr r (by simp)
    rw [List.map_cons, gA_cons]
    show gA ((if v.getD b.toNat 0 < v.getD a.toNat 0 then [v.getD b.toNat 0, v.getD a.toNat 0, m] else [v.getD a.toNat 0, v.getD b.toNat 0, m]) :: ls.map (ren v)) x = _
    rw [← gA_ren v x ls fun r q => hr r (List.mem_cons_of_mem _ q)]
    split
    · rw [gA_cons, Bool.and_comm]
    · rw [gA_cons]
theorem getD_in {v : List Int} {i : Nat} (h : i < v.length) : v.getD i 0 ∈ v := by
  rw [List.getD_eq_getElem?_getD, List.getElem?_eq_getElem h]; exact List.getElem_mem h
theorem nodup_at {v : List Int} (h : v.Nodup) {i j : Nat} (hi : i < v.length) (hj : j < v.length) : v.getD i 0 = v.getD j 0 ↔ i = j := by
  rw [List.getD_eq_getElem?_getD, List.getD_eq_getElem?_getD, List.getElem?_eq_getElem hi, List.getElem?_eq_getElem hj]
  constructor
  · intro e
    exact (List.getElem_inj h).mp e
  · intro e
    subst e
    rfl
theorem gL_ren {v : List Int} (hv : v.Nodup) {n : Nat} (hl : v.length = n) {t : Nat} (ht : t < n) : ∀ (ls : List (List Int)), (∀ r ∈ ls, RowOk n r) → gL (ls.map (ren v)) (v.getD t 0) = gL ls t
  | [], _ => rfl
  | r :: ls, hr => by
    obtain ⟨a, b, m, rfl, ha, hab, hb, _⟩ := hr r (by simp)
    rw [List.map_cons, gL_cons]
    show gL ((if v.getD b.toNat 0 < v.getD a.toNat 0 then [v.getD b.toNat 0, v.getD a.toNat 0, m] else [v.getD a.toNat 0, v.getD b.toNat 0, m]) :: ls.map (ren v)) (v.getD t 0) = _
    rw [← gL_ren hv hl ht ls fun r q => hr r (List.mem_cons_of_mem _ q)]
    have e1 := nodup_at hv (i := a.toNat) (j := t) (by omega) (by omega)
    have e2 := nodup_at hv (i := b.toNat) (j := t) (by omega) (by omega)
    have e3 : (a.toNat = t) ↔ a = (t : Int) := by omega
    have e4 : (b.toNat = t) ↔ b = (t : Int) := by omega
    split
    · rw [gL_cons]
      simp only [e1, e2, e3, e4, or_comm]
    · rw [gL_cons]
      simp only [e1, e2, e3, e4]
def rngI' (n : Nat) : List Int := (List.range n).map fun i : Nat => (i : Int)
theorem sumR_names {v : List Int} {n : Nat} (hv : v.Perm (rngI' n)) (g : Int → Int) : sumR n (fun j => g j) = sumR n fun i => g (v.getD i 0) := by
  have h1 := sum_perm (hv.map g)
  have hl : v.length = n := by rw [hv.length_eq]; simp [rngI']
  have e1 : (rngI' n).map g = (List.range n).map fun j : Nat => g j := by unfold rngI'; rw [List.map_map]; rfl
  have e2 : v.map g = (List.range n).map fun i => g (v.getD i 0) := by
    refine List.ext_getElem (by simp [hl]) fun i h1 h2 => ?_
    simp at h1
    simp [h1]
  unfold sumR
  rw [← e1, ← h1, e2]
theorem can_ren {W W' : List Int} {ls ls' : List (List Int)} {v : List Int} (hv : v.Perm (rngI' W.length)) (hr : ∀ r ∈ ls, RowOk W.length r) (hl : W'.length = W.length) (hW : ∀ i, i < W.length → W'.getD (v.getD i 0).toNat 0 = W.getD i 0) (hls : ls'.Perm (ls.map (ren v))) {t : Nat} (ht : t < W.length) : Can W' ls' (v.getD t 0) ↔ Can W ls t := by
  have hvl : v.length = W.length := by rw [hv.length_eq]; simp [rngI']
  have hnd : v.Nodup := by
    refine hv.nodup_iff.mpr ?_
    unfold rngI'
    exact List.Pairwise.map _ (fun a b h => by omega) (List.nodup_range (n := W.length))
  have hin : ∀ i, i < W.length → 0 ≤ v.getD i 0 ∧ v.getD i 0 < W.length := fun i hi => by
    have := hv.mem_iff.mp (getD_in (by omega : i < v.length))
    unfold rngI' at this
    obtain ⟨j, hj, e⟩ := List.mem_map.mp this
    rw [List.mem_range] at hj
    omega
  have eS : ∀ x : Lot, sW W' x = sW W fun i => x (v.getD i.toNat 0) := fun x => by
    unfold sW
    rw [hl]
    have := sumR_names hv fun j => if x j then W'.getD j.toNat 0 else 0
    have e1 : sumR W.length (fun j => if x j then W'.getD j 0 else 0) = sumR W.length (fun j => if x (j : Int) then W'.getD ((j : Int)).toNat 0 else 0) := sumR_congr fun j _ => by rw [Int.toNat_natCast]
    rw [e1, this]
    refine sumR_congr fun i hi => ?_
    rw [hW i hi]
    show _ = if x (v.getD ((i : Int)).toNat 0) then W.getD i 0 else 0
    rw [Int.toNat_natCast]
  have eZ : ∀ x : Lot, sz W.length x = sz W.length fun i => x (v.getD i.toNat 0) := fun x => by
    unfold sz
    have := sumR_names hv fun j => if x j then 1 else 0
    rw [this]
    refine sumR_congr fun i hi => ?_
    show _ = if x (v.getD ((i : Int)).toNat 0) then 1 else 0
    rw [Int.toNat_natCast]
  have eA : ∀ x : Lot, gA ls' x = gA ls fun i => x (v.getD i.toNat 0) := fun x => by
    rw [gA_perm hls, gA_ren v x ls hr]
  have eL : gL ls' (v.getD t 0) = gL ls t := by rw [gL_perm hls, gL_ren hnd hvl ht ls hr]
  have eM : W'.getD (v.getD t 0).toNat 0 = W.getD t 0 := hW t ht
  constructor
  · intro h y hy
    have h1 := h (fun j => y (v.idxOf j)) (by
      have : v.idxOf (v.getD t 0) = t := by
        rw [List.getD_eq_getElem?_getD, List.getElem?_eq_getElem (by omega : t < v.length)]
        exact hnd.idxOf_getElem t (by omega)
      show y ((v.idxOf (v.getD t 0) : Nat) : Int) = false
      rw [this]; exact hy)
    rw [eS, hl, eZ, eA, eL, eM] at h1
    have e0 : ∀ i : Nat, i < W.length → (fun i : Int => y ((v.idxOf (v.getD i.toNat 0) : Nat) : Int)) i = y i := fun i hi => by
      have : v.idxOf (v.getD i 0) = i := by
        rw [List.getD_eq_getElem?_getD, List.getElem?_eq_getElem (by omega : i < v.length)]
        exact hnd.idxOf_getElem i (by omega)
      show y ((v.idxOf (v.getD (i : Int).toNat 0) : Nat) : Int) = y i
      rw [Int.toNat_natCast, this]
    rw [sW_congr e0, sz_congr e0, gA_congr e0 ls hr] at h1
    rw [Int.toNat_natCast]
    exact h1
  · intro h x hx
    have h1 := h (fun i => x (v.getD i.toNat 0)) (by
      show x (v.getD ((t : Int)).toNat 0) = false
      rw [Int.toNat_natCast]; exact hx)
    rw [Int.toNat_natCast] at h1
    rw [eS, hl, eZ, eA, eL, eM]
    exact h1
end PD.LW
namespace PD.LW
open PySem PySem.Spec PyProof.Rows L2 PD
/-! a season -/
structure SeaOk (W : List Int) (ls : List (List Int)) : Prop where
  two : 2 ≤ W.length
  five : W.length ≤ 5
  wins : ∀ w ∈ W, 0 ≤ w ∧ w ≤ 99
  each : ∀ r ∈ ls, ∃ a b m : Int, r = [a, b, m] ∧ 0 ≤ a ∧ a < b ∧ b < W.length ∧ 1 ≤ m ∧ m ≤ 20
  up : ls.Pairwise fun r s => r.getD 0 0 < s.getD 0 0 ∨ (r.getD 0 0 = s.getD 0 0 ∧ r.getD 1 0 < s.getD 1 0)
  few : ls.length ≤ 64
theorem SeaOk.row {W : List Int} {ls : List (List Int)} (h : SeaOk W ls) : ∀ r ∈ ls, RowOk W.length r := fun r hr => by
  obtain ⟨a, b, m, e, h1, h2, h3, h4, _⟩ := h.each r hr
  exact ⟨a, b, m, e, h1, h2, h3, by omega⟩
theorem R_is_whole_int (i : Int) (M : Store) : R_is_whole [.d (.int i)] M = .ok (.d (.bl true)) M := by
  simp [R_is_whole, mkFn, B_is_whole, cVar, cK, cOp, cB, cCons, cNil, conts, cTup, lLst, cFz, cMt, pures, asB, cTru, tNt, tAn, tOr2, cAnd, cOr, cNot, cIf, cUn, cChain, oNo, oSm, cSl, lB, lIt, cIt, seqOf, lLR1, lLR2, lSS, ssL, lSX, lSY, opAnd, opBor, opShl, opShr, opIn, opNin, cCall, cCallK, cCallV, cApp, truth, tTrue, gN, gTp, gNil, gCons, gSt, sNil, sSeq, sEx, sRt, sRtN, sIf, sAs, sFor, sPar, setAll, sFrz, sAug, lComp, wipeE, opAdd, opSub, opMul, opFdv, opMod, opPow, opEq, opNe, opLt, opLe, opGt, opGe, opIs, opIsn, isNon, opNeg, revD, ixD, slD, gLen, gAbs, gInt1, gMax2, gMin2, gSrt, LIM, gSum, gTup, gList, gIsi, tyName, instB, tyNames, iR1, iR2, iEn, iZp, iAdd, opt, ixN, kwPerm, finish, startE, opMul2, gSum2, cCnt, iZp2, cDix, cItK, keyD, dIf, dIfN, dEx, dPut, dAs, dFor, dRet, dComp, msk, bDc3, ofRd, lSDk, cStar, cPop, cIdxL, gMaxX_lst, gMaxX_tup, opLeT]
theorem R_is_between_int (i lo hi : Int) (M : Store) : R_is_between [.d (.int i), .d (.int lo), .d (.int hi)] M = .ok (.d (.bl (decide (lo ≤ i) && decide (i ≤ hi)))) M := by
  by_cases c1 : lo ≤ i <;> by_cases c2 : i ≤ hi <;> simp [R_is_between, mkFn, B_is_between, cVar, cK, cOp, cB, cCons, cNil, conts, cTup, lLst, cFz, cMt, pures, asB, cTru, tNt, tAn, tOr2, cAnd, cOr, cNot, cIf, cUn, cChain, oNo, oSm, cSl, lB, lIt, cIt, seqOf, lLR1, lLR2, lSS, ssL, lSX, lSY, opAnd, opBor, opShl, opShr, opIn, opNin, cCall, cCallK, cCallV, cApp, truth, tTrue, gN, gTp, gNil, gCons, gSt, sNil, sSeq, sEx, sRt, sRtN, sIf, sAs, sFor, sPar, setAll, sFrz, sAug, lComp, wipeE, opAdd, opSub, opMul, opFdv, opMod, opPow, opEq, opNe, opLt, opLe, opGt, opGe, opIs, opIsn, isNon, opNeg, revD, ixD, slD, gLen, gAbs, gInt1, gMax2, gMin2, gSrt, LIM, gSum, gTup, gList, gIsi, tyName, instB, tyNames, iR1, iR2, iEn, iZp, iAdd, opt, ixN, kwPerm, finish, startE, opMul2, gSum2, cCnt, iZp2, cDix, cItK, keyD, dIf, dIfN, dEx, dPut, dAs, dFor, dRet, dComp, msk, bDc3, ofRd, lSDk, cStar, cPop, cIdxL, gMaxX_lst, gMaxX_tup, opLeT, R_is_whole_int, c1, c2]
theorem wins_ok {W : List Int} {ls : List (List Int)} (h : SeaOk W ls) (M : Store) : R_wrong_in_wins [.d (.tup (W.map .int))] M = .ok (.d (.lst [])) M := by
  have e := comp_pure (M := M) (env0 := [some (.d (.tup (W.map .int))), some (.d (.int 2)), some (.d (.int 5)), some (.d (.fn "is_wins")), none, none]) (g := gTp 2 (gCons (gN 4) (gCons (gN 5) gNil))) (ft := tNt (cTru (cCallV 3 hof_first_wrong (cCons (cVar 5) cNil)))) (fe := cVar 4)
    (fun _ => false) id (enumD 0 (W.map .int)) fun p hp => by
      obtain ⟨i, x, hx, rfl⟩ := mem_enum hp
      obtain ⟨c, hc, rfl⟩ := List.mem_map.mp hx
      have hk := h.wins c hc
      have ec : R_is_wins [.d (.int c)] M = .ok (.d (.bl true)) M := by
        simp [R_is_wins, mkFn, B_is_wins, cVar, cK, cOp, cB, cCons, cNil, conts, cTup, lLst, cFz, cMt, pures, asB, cTru, tNt, tAn, tOr2, cAnd, cOr, cNot, cIf, cUn, cChain, oNo, oSm, cSl, lB, lIt, cIt, seqOf, lLR1, lLR2, lSS, ssL, lSX, lSY, opAnd, opBor, opShl, opShr, opIn, opNin, cCall, cCallK, cCallV, cApp, truth, tTrue, gN, gTp, gNil, gCons, gSt, sNil, sSeq, sEx, sRt, sRtN, sIf, sAs, sFor, sPar, setAll, sFrz, sAug, lComp, wipeE, opAdd, opSub, opMul, opFdv, opMod, opPow, opEq, opNe, opLt, opLe, opGt, opGe, opIs, opIsn, isNon, opNeg, revD, ixD, slD, gLen, gAbs, gInt1, gMax2, gMin2, gSrt, LIM, gSum, gTup, gList, gIsi, tyName, instB, tyNames, iR1, iR2, iEn, iZp, iAdd, opt, ixN, kwPerm, finish, startE, opMul2, gSum2, cCnt, iZp2, cDix, cItK, keyD, dIf, dIfN, dEx, dPut, dAs, dFor, dRet, dComp, msk, bDc3, ofRd, lSDk, cStar, cPop, cIdxL, gMaxX_lst, gMaxX_tup, opLeT, R_is_between_int, hk]
      have hk2 : hof_first_wrong.lookup ("is_wins" : Str) = some ([("value" : Str)], R_is_wins) := by
        unfold hof_first_wrong
        rw [List.lookup_cons_self]
      refine ⟨_, rfl, ?_, fun h => nomatch h⟩
      simp [cVar, cK, cOp, cB, cCons, cNil, conts, cTup, lLst, cFz, cMt, pures, asB, cTru, tNt, tAn, tOr2, cAnd, cOr, cNot, cIf, cUn, cChain, oNo, oSm, cSl, lB, lIt, cIt, seqOf, lLR1, lLR2, lSS, ssL, lSX, lSY, opAnd, opBor, opShl, opShr, opIn, opNin, cCall, cCallK, cCallV, cApp, truth, tTrue, gN, gTp, gNil, gCons, gSt, sNil, sSeq, sEx, sRt, sRtN, sIf, sAs, sFor, sPar, setAll, sFrz, sAug, lComp, wipeE, opAdd, opSub, opMul, opFdv, opMod, opPow, opEq, opNe, opLt, opLe, opGt, opGe, opIs, opIsn, isNon, opNeg, revD, ixD, slD, gLen, gAbs, gInt1, gMax2, gMin2, gSrt, LIM, gSum, gTup, gList, gIsi, tyName, instB, tyNames, iR1, iR2, iEn, iZp, iAdd, opt, ixN, kwPerm, finish, startE, opMul2, gSum2, cCnt, iZp2, cDix, cItK, keyD, dIf, dIfN, dEx, dPut, dAs, dFor, dRet, dComp, msk, bDc3, ofRd, lSDk, cStar, cPop, cIdxL, gMaxX_lst, gMaxX_tup, opLeT, hk2, ec]
  rw [List.filter_eq_nil_iff.mpr (by simp)] at e
  have h2 := h.two
  have h5 := h.five
  have g1 : W.length ≤ 16777216 := by omega
  have g2 : (2 : Int) ≤ W.length := by omega
  have g3 : (W.length : Int) ≤ 5 := by omega
  have e2 : R_first_wrong [.d (.tup (W.map .int)), .d (.int 2), .d (.int 5), .d (.fn "is_wins")] M = .ok (.d (.lst [])) M := by
    simp [R_first_wrong, mkFn, B_first_wrong, cVar, cK, cOp, cB, cCons, cNil, conts, cTup, lLst, cFz, cMt, pures, asB, cTru, tNt, tAn, tOr2, cAnd, cOr, cNot, cIf, cUn, cChain, oNo, oSm, cSl, lB, lIt, cIt, seqOf, lLR1, lLR2, lSS, ssL, lSX, lSY, opAnd, opBor, opShl, opShr, opIn, opNin, cCall, cCallK, cCallV, cApp, truth, tTrue, gN, gTp, gNil, gCons, gSt, sNil, sSeq, sEx, sRt, sRtN, sIf, sAs, sFor, sPar, setAll, sFrz, sAug, lComp, wipeE, opAdd, opSub, opMul, opFdv, opMod, opPow, opEq, opNe, opLt, opLe, opGt, opGe, opIs, opIsn, isNon, opNeg, revD, ixD, slD, gLen, gAbs, gInt1, gMax2, gMin2, gSrt, LIM, gSum, gTup, gList, gIsi, tyName, instB, tyNames, iR1, iR2, iEn, iZp, iAdd, opt, ixN, kwPerm, finish, startE, opMul2, gSum2, cCnt, iZp2, cDix, cItK, keyD, dIf, dIfN, dEx, dPut, dAs, dFor, dRet, dComp, msk, bDc3, ofRd, lSDk, cStar, cPop, cIdxL, gMaxX_lst, gMaxX_tup, opLeT, e, enumD_length, g1, g2, g3]
  simp [R_wrong_in_wins, mkFn, B_wrong_in_wins, cVar, cK, cOp, cB, cCons, cNil, conts, cTup, lLst, cFz, cMt, pures, asB, cTru, tNt, tAn, tOr2, cAnd, cOr, cNot, cIf, cUn, cChain, oNo, oSm, cSl, lB, lIt, cIt, seqOf, lLR1, lLR2, lSS, ssL, lSX, lSY, opAnd, opBor, opShl, opShr, opIn, opNin, cCall, cCallK, cCallV, cApp, truth, tTrue, gN, gTp, gNil, gCons, gSt, sNil, sSeq, sEx, sRt, sRtN, sIf, sAs, sFor, sPar, setAll, sFrz, sAug, lComp, wipeE, opAdd, opSub, opMul, opFdv, opMod, opPow, opEq, opNe, opLt, opLe, opGt, opGe, opIs, opIsn, isNon, opNeg, revD, ixD, slD, gLen, gAbs, gInt1, gMax2, gMin2, gSrt, LIM, gSum, gTup, gList, gIsi, tyName, instB, tyNames, iR1, iR2, iEn, iZp, iAdd, opt, ixN, kwPerm, finish, startE, opMul2, gSum2, cCnt, iZp2, cDix, cItK, keyD, dIf, dIfN, dEx, dPut, dAs, dFor, dRet, dComp, msk, bDc3, ofRd, lSDk, cStar, cPop, cIdxL, gMaxX_lst, gMaxX_tup, opLeT, e2]
theorem triple_ok {n : Nat} {a b m : Int} (ha : 0 ≤ a) (hab : a < b) (hb : b < n) (hm : 1 ≤ m) (hm2 : m ≤ 20) (M : Store) : R_is_triple [.d (.int n), .d (.int 20), .d (.tup [.int a, .int b, .int m])] M = .ok (.d (.bl true)) M := by
  have t1 : R_is_tuple_of [.d (.tup [.int a, .int b, .int m]), .d (.int 3)] M = .ok (.d (.bl true)) M := by
    simp [R_is_tuple_of, mkFn, B_is_tuple_of, cVar, cK, cOp, cB, cCons, cNil, conts, cTup, lLst, cFz, cMt, pures, asB, cTru, tNt, tAn, tOr2, cAnd, cOr, cNot, cIf, cUn, cChain, oNo, oSm, cSl, lB, lIt, cIt, seqOf, lLR1, lLR2, lSS, ssL, lSX, lSY, opAnd, opBor, opShl, opShr, opIn, opNin, cCall, cCallK, cCallV, cApp, truth, tTrue, gN, gTp, gNil, gCons, gSt, sNil, sSeq, sEx, sRt, sRtN, sIf, sAs, sFor, sPar, setAll, sFrz, sAug, lComp, wipeE, opAdd, opSub, opMul, opFdv, opMod, opPow, opEq, opNe, opLt, opLe, opGt, opGe, opIs, opIsn, isNon, opNeg, revD, ixD, slD, gLen, gAbs, gInt1, gMax2, gMin2, gSrt, LIM, gSum, gTup, gList, gIsi, tyName, instB, tyNames, iR1, iR2, iEn, iZp, iAdd, opt, ixN, kwPerm, finish, startE, opMul2, gSum2, cCnt, iZp2, cDix, cItK, keyD, dIf, dIfN, dEx, dPut, dAs, dFor, dRet, dComp, msk, bDc3, ofRd, lSDk, cStar, cPop, cIdxL, gMaxX_lst, gMaxX_tup, opLeT]
  have c1 : a ≤ (n : Int) - 1 := by omega
  have c2 : b ≤ (n : Int) - 1 := by omega
  have c3 : 0 ≤ b := by omega
  have e := comp_all (M := M) (env0 := [some (.d (.int n)), some (.d (.tup [.int a, .int b])), none]) (g := gN 2) (fe := cCall R_is_between (cCons (cVar 2) (cCons (cK (.int 0)) (cCons (cOp opSub (cVar 0) (cK (.int 1))) (cNil))))) (fun _ => .bl true) [.int a, .int b] fun d hd => ⟨_, rfl, by
    simp only [List.mem_cons, List.not_mem_nil, or_false] at hd
    rcases hd with rfl | rfl
    · simp [cVar, cK, cOp, cB, cCons, cNil, conts, cTup, lLst, cFz, cMt, pures, asB, cTru, tNt, tAn, tOr2, cAnd, cOr, cNot, cIf, cUn, cChain, oNo, oSm, cSl, lB, lIt, cIt, seqOf, lLR1, lLR2, lSS, ssL, lSX, lSY, opAnd, opBor, opShl, opShr, opIn, opNin, cCall, cCallK, cCallV, cApp, truth, tTrue, gN, gTp, gNil, gCons, gSt, sNil, sSeq, sEx, sRt, sRtN, sIf, sAs, sFor, sPar, setAll, sFrz, sAug, lComp, wipeE, opAdd, opSub, opMul, opFdv, opMod, opPow, opEq, opNe, opLt, opLe, opGt, opGe, opIs, opIsn, isNon, opNeg, revD, ixD, slD, gLen, gAbs, gInt1, gMax2, gMin2, gSrt, LIM, gSum, gTup, gList, gIsi, tyName, instB, tyNames, iR1, iR2, iEn, iZp, iAdd, opt, ixN, kwPerm, finish, startE, opMul2, gSum2, cCnt, iZp2, cDix, cItK, keyD, dIf, dIfN, dEx, dPut, dAs, dFor, dRet, dComp, msk, bDc3, ofRd, lSDk, cStar, cPop, cIdxL, gMaxX_lst, gMaxX_tup, opLeT, R_is_between_int, ha, c1]
    · simp [cVar, cK, cOp, cB, cCons, cNil, conts, cTup, lLst, cFz, cMt, pures, asB, cTru, tNt, tAn, tOr2, cAnd, cOr, cNot, cIf, cUn, cChain, oNo, oSm, cSl, lB, lIt, cIt, seqOf, lLR1, lLR2, lSS, ssL, lSX, lSY, opAnd, opBor, opShl, opShr, opIn, opNin, cCall, cCallK, cCallV, cApp, truth, tTrue, gN, gTp, gNil, gCons, gSt, sNil, sSeq, sEx, sRt, sRtN, sIf, sAs, sFor, sPar, setAll, sFrz, sAug, lComp, wipeE, opAdd, opSub, opMul, opFdv, opMod, opPow, opEq, opNe, opLt, opLe, opGt, opGe, opIs, opIsn, isNon, opNeg, revD, ixD, slD, gLen, gAbs, gInt1, gMax2, gMin2, gSrt, LIM, gSum, gTup, gList, gIsi, tyName, instB, tyNames, iR1, iR2, iEn, iZp, iAdd, opt, ixN, kwPerm, finish, startE, opMul2, gSum2, cCnt, iZp2, cDix, cItK, keyD, dIf, dIfN, dEx, dPut, dAs, dFor, dRet, dComp, msk, bDc3, ofRd, lSDk, cStar, cPop, cIdxL, gMaxX_lst, gMaxX_tup, opLeT, R_is_between_int, c3, c2]⟩
  have t2 : R_are_indexes [.d (.int n), .d (.tup [.int a, .int b])] M = .ok (.d (.bl true)) M := by
    simp [R_are_indexes, mkFn, B_are_indexes, cVar, cK, cOp, cB, cCons, cNil, conts, cTup, lLst, cFz, cMt, pures, asB, cTru, tNt, tAn, tOr2, cAnd, cOr, cNot, cIf, cUn, cChain, oNo, oSm, cSl, lB, lIt, cIt, seqOf, lLR1, lLR2, lSS, ssL, lSX, lSY, opAnd, opBor, opShl, opShr, opIn, opNin, cCall, cCallK, cCallV, cApp, truth, tTrue, gN, gTp, gNil, gCons, gSt, sNil, sSeq, sEx, sRt, sRtN, sIf, sAs, sFor, sPar, setAll, sFrz, sAug, lComp, wipeE, opAdd, opSub, opMul, opFdv, opMod, opPow, opEq, opNe, opLt, opLe, opGt, opGe, opIs, opIsn, isNon, opNeg, revD, ixD, slD, gLen, gAbs, gInt1, gMax2, gMin2, gSrt, LIM, gSum, gTup, gList, gIsi, tyName, instB, tyNames, iR1, iR2, iEn, iZp, iAdd, opt, ixN, kwPerm, finish, startE, opMul2, gSum2, cCnt, iZp2, cDix, cItK, keyD, dIf, dIfN, dEx, dPut, dAs, dFor, dRet, dComp, msk, bDc3, ofRd, lSDk, cStar, cPop, cIdxL, gMaxX_lst, gMaxX_tup, opLeT, e]
  have c8 : cutD [D.int a, .int b, .int m] none (some 2) = [.int a, .int b] := cut_to [D.int a, .int b, .int m] 2
  simp [R_is_triple, mkFn, B_is_triple, cVar, cK, cOp, cB, cCons, cNil, conts, cTup, lLst, cFz, cMt, pures, asB, cTru, tNt, tAn, tOr2, cAnd, cOr, cNot, cIf, cUn, cChain, oNo, oSm, cSl, lB, lIt, cIt, seqOf, lLR1, lLR2, lSS, ssL, lSX, lSY, opAnd, opBor, opShl, opShr, opIn, opNin, cCall, cCallK, cCallV, cApp, truth, tTrue, gN, gTp, gNil, gCons, gSt, sNil, sSeq, sEx, sRt, sRtN, sIf, sAs, sFor, sPar, setAll, sFrz, sAug, lComp, wipeE, opAdd, opSub, opMul, opFdv, opMod, opPow, opEq, opNe, opLt, opLe, opGt, opGe, opIs, opIsn, isNon, opNeg, revD, ixD, slD, gLen, gAbs, gInt1, gMax2, gMin2, gSrt, LIM, gSum, gTup, gList, gIsi, tyName, instB, tyNames, iR1, iR2, iEn, iZp, iAdd, opt, ixN, kwPerm, finish, startE, opMul2, gSum2, cCnt, iZp2, cDix, cItK, keyD, dIf, dIfN, dEx, dPut, dAs, dFor, dRet, dComp, msk, bDc3, ofRd, lSDk, cStar, cPop, cIdxL, gMaxX_lst, gMaxX_tup, opLeT, t1, t2, c8, hab, R_is_between_int, hm, hm2]
theorem enum_cons (k : Nat) (d : D) (ds : List D) : enumD k (d :: ds) = .tup [.int (k : Nat), d] :: enumD (k + 1) ds := rfl
theorem wrong_left_ok {W : List Int} {ls : List (List Int)} (h : SeaOk W ls) (M : Store) : R_wrong_in_left [.d (.int W.length), .d (.tup (ls.map rowD))] M = .ok (.d (.lst [])) M := by
  have hf := h.few
  have key : Ok (R_wrong_in_triples [.d (.int W.length), .d (.int 20), .d (.tup (ls.map rowD))] M) fun w M' => w = .d (.lst []) ∧ M' = M := by
    refine Ok_fn rfl ?_
    refine OkS_seq fun n1 k1 => ?_
    simp [cVar, cK, cOp, cB, cCons, cNil, conts, cTup, lLst, cFz, cMt, pures, asB, cTru, tNt, tAn, tOr2, cAnd, cOr, cNot, cIf, cUn, cChain, oNo, oSm, cSl, lB, lIt, cIt, seqOf, lLR1, lLR2, lSS, ssL, lSX, lSY, opAnd, opBor, opShl, opShr, opIn, opNin, cCall, cCallK, cCallV, cApp, truth, tTrue, gN, gTp, gNil, gCons, gSt, sNil, sSeq, sEx, sRt, sRtN, sIf, sAs, sFor, sPar, setAll, sFrz, sAug, lComp, wipeE, opAdd, opSub, opMul, opFdv, opMod, opPow, opEq, opNe, opLt, opLe, opGt, opGe, opIs, opIsn, isNon, opNeg, revD, ixD, slD, gLen, gAbs, gInt1, gMax2, gMin2, gSrt, LIM, gSum, gTup, gList, gIsi, tyName, instB, tyNames, iR1, iR2, iEn, iZp, iAdd, opt, ixN, kwPerm, finish, startE, opMul2, gSum2, cCnt, iZp2, cDix, cItK, keyD, dIf, dIfN, dEx, dPut, dAs, dFor, dRet, dComp, msk, bDc3, ofRd, lSDk, cStar, cPop, cIdxL, gMaxX_lst, gMaxX_tup, opLeT]
    apply k1
    refine OkS_seq fun n2 k2 => ?_
    unfold sFor
    have g1 : ls.length ≤ 16777216 := by omega
    obtain ⟨LD, hLD⟩ : ∃ LD, LD = ls.map rowD := ⟨_, rfl⟩
    have gL : LD.length ≤ 16777216 := by rw [hLD, List.length_map]; exact g1
    rw [← hLD]
    have e0 : lIt iEn (cCons (cVar 2) (cNil)) [some (.d (.int W.length)), some (.d (.int 20)), some (.d (.tup LD)), none, none] M = .ok (enumD 0 (ls.map rowD)) M := by
      rw [← hLD]
      simp [cVar, cK, cOp, cB, cCons, cNil, conts, cTup, lLst, cFz, cMt, pures, asB, cTru, tNt, tAn, tOr2, cAnd, cOr, cNot, cIf, cUn, cChain, oNo, oSm, cSl, lB, lIt, cIt, seqOf, lLR1, lLR2, lSS, ssL, lSX, lSY, opAnd, opBor, opShl, opShr, opIn, opNin, cCall, cCallK, cCallV, cApp, truth, tTrue, gN, gTp, gNil, gCons, gSt, sNil, sSeq, sEx, sRt, sRtN, sIf, sAs, sFor, sPar, setAll, sFrz, sAug, lComp, wipeE, opAdd, opSub, opMul, opFdv, opMod, opPow, opEq, opNe, opLt, opLe, opGt, opGe, opIs, opIsn, isNon, opNeg, revD, ixD, slD, gLen, gAbs, gInt1, gMax2, gMin2, gSrt, LIM, gSum, gTup, gList, gIsi, tyName, instB, tyNames, iR1, iR2, iEn, iZp, iAdd, opt, ixN, kwPerm, finish, startE, opMul2, gSum2, cCnt, iZp2, cDix, cItK, keyD, dIf, dIfN, dEx, dPut, dAs, dFor, dRet, dComp, msk, bDc3, ofRd, lSDk, cStar, cPop, cIdxL, gMaxX_lst, gMaxX_tup, opLeT, gL, enumD_length]
    rw [e0, OkS_ofR, Ok_ok]
    refine OkS_loop (fun r env M' => M' = M ∧ ∃ (i : Nat) (ys : List (List Int)), r = enumD i (ys.map rowD) ∧ ls.drop i = ys ∧ ∃ x3 x4, env = [some (.d (.int W.length)), some (.d (.int 20)), some (.d (.tup LD)), x3, x4]) _ _ _ ⟨rfl, 0, ls, rfl, rfl, _, _, rfl⟩ ?_ ?_
    · rintro d r env M' ⟨rfl, i, ys, er, hd, x3, x4, rfl⟩
      cases ys with
      | nil => cases er
      | cons y ys =>
        rw [List.map_cons, enum_cons, List.cons.injEq] at er
        obtain ⟨rfl, rfl⟩ := er
        have hil : i < ls.length := by
          have := congrArg List.length hd
          rw [List.length_drop, List.length_cons] at this
          omega
        have hy : ls[i] = y := by
          have := List.drop_eq_getElem_cons hil
          rw [hd] at this
          injection this with h1 h2
          exact h1.symm
        have hd2 : ls.drop (i + 1) = ys := by
          have := List.drop_eq_getElem_cons hil
          rw [hd] at this
          injection this with h1 h2
          exact h2.symm
        refine ⟨_, rfl, ?_⟩
        obtain ⟨a, b, m, ey, ha, hab, hb, hm, hm2⟩ := h.each y (by rw [← hy]; exact List.getElem_mem hil)
        have et := triple_ok ha hab hb hm hm2 M'
        have c8 : cutD [D.int a, .int b, .int m] none (some 2) = [.int a, .int b] := cut_to [D.int a, .int b, .int m] 2
        have hrow : rowD y = .tup [.int a, .int b, .int m] := by rw [ey]; rfl
        rw [hrow]
        have fin : ∀ v3 v4, M' = M' ∧ ∃ (i_1 : Nat) (ys_1 : List (List Int)), enumD (i + 1) (ys.map rowD) = enumD i_1 (ys_1.map rowD) ∧ ls.drop i_1 = ys_1 ∧ ∃ x3 x4, ([some (.d (.int W.length)), some (.d (.int 20)), some (.d (.tup LD)), some v3, some v4] : List (Option PD.W)) = [some (.d (.int W.length)), some (.d (.int 20)), some (.d (.tup LD)), x3, x4] := fun v3 v4 => ⟨rfl, i + 1, ys, rfl, hd2, _, _, rfl⟩
        refine OkS_if (b := false) (M1 := M') ?_ (fun h => nomatch h) fun _ => ?_
        · by_cases c0 : i = 0
          · subst c0
            simp [cVar, cK, cOp, cB, cCons, cNil, conts, cTup, lLst, cFz, cMt, pures, asB, cTru, tNt, tAn, tOr2, cAnd, cOr, cNot, cIf, cUn, cChain, oNo, oSm, cSl, lB, lIt, cIt, seqOf, lLR1, lLR2, lSS, ssL, lSX, lSY, opAnd, opBor, opShl, opShr, opIn, opNin, cCall, cCallK, cCallV, cApp, truth, tTrue, gN, gTp, gNil, gCons, gSt, sNil, sSeq, sEx, sRt, sRtN, sIf, sAs, sFor, sPar, setAll, sFrz, sAug, lComp, wipeE, opAdd, opSub, opMul, opFdv, opMod, opPow, opEq, opNe, opLt, opLe, opGt, opGe, opIs, opIsn, isNon, opNeg, revD, ixD, slD, gLen, gAbs, gInt1, gMax2, gMin2, gSrt, LIM, gSum, gTup, gList, gIsi, tyName, instB, tyNames, iR1, iR2, iEn, iZp, iAdd, opt, ixN, kwPerm, finish, startE, opMul2, gSum2, cCnt, iZp2, cDix, cItK, keyD, dIf, dIfN, dEx, dPut, dAs, dFor, dRet, dComp, msk, bDc3, ofRd, lSDk, cStar, cPop, cIdxL, gMaxX_lst, gMaxX_tup, opLeT, et]
          · obtain ⟨j, rfl⟩ : ∃ j, i = j + 1 := ⟨i - 1, by omega⟩
            have hj : j < ls.length := by omega
            obtain ⟨a', b', m', ey', _⟩ := h.each ls[j] (List.getElem_mem hj)
            have hup := List.pairwise_iff_getElem.mp h.up j (j + 1) hj hil (by omega)
            rw [hy, ey, ey'] at hup
            have hup : a' < a ∨ (a' = a ∧ b' < b) := hup
            have hLj : LD[j]? = some (.tup [.int a', .int b', .int m']) := by
              rw [hLD, List.getElem?_map, List.getElem?_eq_getElem hj, ey']; rfl
            have c9 : cutD [D.int a', .int b', .int m'] none (some 2) = [.int a', .int b'] := cut_to [D.int a', .int b', .int m'] 2
            have el : opLeT (.tup [.int a, .int b]) (.tup [.int a', .int b']) = some (.bl false) := by
              show some (D.bl (Ob.lexAt (fun j => decide (([a, b] : List Int).getD j 0 = ([a', b'] : List Int).getD j 0)) (fun j => decide (([a, b] : List Int).getD j 0 ≤ ([a', b'] : List Int).getD j 0)) (decide (2 ≤ 2)) 0 2)) = _
              rw [Ob.lexAt_succ, Ob.lexAt_succ, Ob.lexAt_zero]
              rcases hup with q | ⟨q1, q2⟩
              · have n1 : ¬ a = a' := by omega
                have n2 : ¬ a ≤ a' := by omega
                simp [n1, n2]
              · subst q1
                have n1 : ¬ b = b' := by omega
                have n2 : ¬ b ≤ b' := by omega
                simp [n1, n2]
            have ei : ((j + 1 : Nat) : Int) - 1 = (j : Int) := by omega
            have ep : (0 : Int) < ((j + 1 : Nat) : Int) := by omega
            generalize ((j + 1 : Nat) : Int) = J at ei ep ⊢
            simp [cVar, cK, cOp, cB, cCons, cNil, conts, cTup, lLst, cFz, cMt, pures, asB, cTru, tNt, tAn, tOr2, cAnd, cOr, cNot, cIf, cUn, cChain, oNo, oSm, cSl, lB, lIt, cIt, seqOf, lLR1, lLR2, lSS, ssL, lSX, lSY, opAnd, opBor, opShl, opShr, opIn, opNin, cCall, cCallK, cCallV, cApp, truth, tTrue, gN, gTp, gNil, gCons, gSt, sNil, sSeq, sEx, sRt, sRtN, sIf, sAs, sFor, sPar, setAll, sFrz, sAug, lComp, wipeE, opAdd, opSub, opMul, opFdv, opMod, opPow, opEq, opNe, opLt, opLe, opGt, opGe, opIs, opIsn, isNon, opNeg, revD, ixD, slD, gLen, gAbs, gInt1, gMax2, gMin2, gSrt, LIM, gSum, gTup, gList, gIsi, tyName, instB, tyNames, iR1, iR2, iEn, iZp, iAdd, opt, ixN, kwPerm, finish, startE, opMul2, gSum2, cCnt, iZp2, cDix, cItK, keyD, dIf, dIfN, dEx, dPut, dAs, dFor, dRet, dComp, msk, bDc3, ofRd, lSDk, cStar, cPop, cIdxL, gMaxX_lst, gMaxX_tup, opLeT, -opLeT, et, c8, c9, hLj, el, ei, ep]
        · unfold sNil
          rw [OkS_nx]
          exact fin _ _
    · rintro env M' ⟨rfl, i, ys, er, hd, x3, x4, rfl⟩
      apply k2
      simp [cVar, cK, cOp, cB, cCons, cNil, conts, cTup, lLst, cFz, cMt, pures, asB, cTru, tNt, tAn, tOr2, cAnd, cOr, cNot, cIf, cUn, cChain, oNo, oSm, cSl, lB, lIt, cIt, seqOf, lLR1, lLR2, lSS, ssL, lSX, lSY, opAnd, opBor, opShl, opShr, opIn, opNin, cCall, cCallK, cCallV, cApp, truth, tTrue, gN, gTp, gNil, gCons, gSt, sNil, sSeq, sEx, sRt, sRtN, sIf, sAs, sFor, sPar, setAll, sFrz, sAug, lComp, wipeE, opAdd, opSub, opMul, opFdv, opMod, opPow, opEq, opNe, opLt, opLe, opGt, opGe, opIs, opIsn, isNon, opNeg, revD, ixD, slD, gLen, gAbs, gInt1, gMax2, gMin2, gSrt, LIM, gSum, gTup, gList, gIsi, tyName, instB, tyNames, iR1, iR2, iEn, iZp, iAdd, opt, ixN, kwPerm, finish, startE, opMul2, gSum2, cCnt, iZp2, cDix, cItK, keyD, dIf, dIfN, dEx, dPut, dAs, dFor, dRet, dComp, msk, bDc3, ofRd, lSDk, cStar, cPop, cIdxL, gMaxX_lst, gMaxX_tup, opLeT]
  obtain ⟨w, M', e, rfl, rfl⟩ := key.ex
  simp [R_wrong_in_left, mkFn, B_wrong_in_left, cVar, cK, cOp, cB, cCons, cNil, conts, cTup, lLst, cFz, cMt, pures, asB, cTru, tNt, tAn, tOr2, cAnd, cOr, cNot, cIf, cUn, cChain, oNo, oSm, cSl, lB, lIt, cIt, seqOf, lLR1, lLR2, lSS, ssL, lSX, lSY, opAnd, opBor, opShl, opShr, opIn, opNin, cCall, cCallK, cCallV, cApp, truth, tTrue, gN, gTp, gNil, gCons, gSt, sNil, sSeq, sEx, sRt, sRtN, sIf, sAs, sFor, sPar, setAll, sFrz, sAug, lComp, wipeE, opAdd, opSub, opMul, opFdv, opMod, opPow, opEq, opNe, opLt, opLe, opGt, opGe, opIs, opIsn, isNon, opNeg, revD, ixD, slD, gLen, gAbs, gInt1, gMax2, gMin2, gSrt, LIM, gSum, gTup, gList, gIsi, tyName, instB, tyNames, iR1, iR2, iEn, iZp, iAdd, opt, ixN, kwPerm, finish, startE, opMul2, gSum2, cCnt, iZp2, cDix, cItK, keyD, dIf, dIfN, dEx, dPut, dAs, dFor, dRet, dComp, msk, bDc3, ofRd, lSDk, cStar, cPop, cIdxL, gMaxX_lst, gMaxX_tup, opLeT, e]
theorem R_check_season_eq {W : List Int} {ls : List (List Int)} (h : SeaOk W ls) (M : Store) : R_check_season [.d (.tup (W.map .int)), .d (.tup (ls.map rowD))] M = .ok (.d .non) M := by
  have e1 := wins_ok h M
  have e2 := wrong_left_ok h M
  have h5 := h.five
  have g1 : W.length ≤ 16777216 := by omega
  simp [R_check_season, mkFn, B_check_season, cVar, cK, cOp, cB, cCons, cNil, conts, cTup, lLst, cFz, cMt, pures, asB, cTru, tNt, tAn, tOr2, cAnd, cOr, cNot, cIf, cUn, cChain, oNo, oSm, cSl, lB, lIt, cIt, seqOf, lLR1, lLR2, lSS, ssL, lSX, lSY, opAnd, opBor, opShl, opShr, opIn, opNin, cCall, cCallK, cCallV, cApp, truth, tTrue, gN, gTp, gNil, gCons, gSt, sNil, sSeq, sEx, sRt, sRtN, sIf, sAs, sFor, sPar, setAll, sFrz, sAug, lComp, wipeE, opAdd, opSub, opMul, opFdv, opMod, opPow, opEq, opNe, opLt, opLe, opGt, opGe, opIs, opIsn, isNon, opNeg, revD, ixD, slD, gLen, gAbs, gInt1, gMax2, gMin2, gSrt, LIM, gSum, gTup, gList, gIsi, tyName, instB, tyNames, iR1, iR2, iEn, iZp, iAdd, opt, ixN, kwPerm, finish, startE, opMul2, gSum2, cCnt, iZp2, cDix, cItK, keyD, dIf, dIfN, dEx, dPut, dAs, dFor, dRet, dComp, msk, bDc3, ofRd, lSDk, cStar, cPop, cIdxL, gMaxX_lst, gMaxX_tup, opLeT, e1, e2, g1, loopF]
/-! lots of others -/
def othL (t : Int) : Nat → List (List Int)
  | 0 => [[]]
  | n + 1 => if (n : Int) = t then othL t n else othL t n ++ (othL t n).map (· ++ [(n : Int)])
theorem othL_mem (t : Int) : ∀ (n : Nat) (S : List Int), S ∈ othL t n ↔ S ∈ lotsR n ∧ t ∉ S
  | 0, S => by
    show S ∈ [[]] ↔ S ∈ [[]] ∧ t ∉ S
    simp only [List.mem_singleton]
    constructor
    · rintro rfl; exact ⟨rfl, by simp⟩
    · exact fun h => h.1
  | n + 1, S => by
    have ih := othL_mem t n
    unfold othL
    show _ ↔ S ∈ lotsR n ++ (lotsR n).map (· ++ [(n : Int)]) ∧ t ∉ S
    by_cases c : (n : Int) = t
    · rw [if_pos c, ih, List.mem_append]
      constructor
      · rintro ⟨h1, h2⟩; exact ⟨.inl h1, h2⟩
      · rintro ⟨h1 | h1, h2⟩
        · exact ⟨h1, h2⟩
        · obtain ⟨S', _, rfl⟩ := List.mem_map.mp h1
          exact absurd (by rw [← c]; simp) h2
    · rw [if_neg c, List.mem_append, List.mem_append, ih]
      constructor
      · rintro (⟨h1, h2⟩ | h1)
        · exact ⟨.inl h1, h2⟩
        · obtain ⟨S', h2, rfl⟩ := List.mem_map.mp h1
          obtain ⟨h3, h4⟩ := (ih S').mp h2
          refine ⟨.inr (List.mem_map.mpr ⟨S', h3, rfl⟩), ?_⟩
          rw [List.mem_append, List.mem_singleton]
          rintro (q | q)
          · exact h4 q
          · exact c q.symm
      · rintro ⟨h1 | h1, h2⟩
        · exact .inl ⟨h1, h2⟩
        · obtain ⟨S', h3, rfl⟩ := List.mem_map.mp h1
          rw [List.mem_append] at h2
          exact .inr (List.mem_map.mpr ⟨S', (ih S').mpr ⟨h3, fun q => h2 (.inl q)⟩, rfl⟩)
theorem othL_len (t : Int) : ∀ n, (othL t n).length ≤ 2 ^ n
  | 0 => Nat.le_refl _
  | n + 1 => by
    have ih := othL_len t n
    unfold othL
    rw [Nat.pow_succ]
    split
    · omega
    · rw [List.length_append, List.length_map]; omega
theorem pures_ds : ∀ ds : List D, pures (ds.map PD.W.d) = some ds
  | [] => rfl
  | d :: ds => by
    have ih := pures_ds ds
    rw [List.map_cons]
    unfold pures
    rw [ih]; rfl
theorem R_lots_of_others_eq (n : Nat) (hn : n ≤ 9) (t : Nat) (M : Store) : R_lots_of_others [.d (.int n), .d (.int t)] M = .ok (.d (.lst (((srtR (othL t n)).drop 1).map rowD))) M := by
  have key : Ok (R_lots_of_others [.d (.int n), .d (.int t)] M) fun w M' => w = .d (.lst (((srtR (othL t n)).drop 1).map rowD)) ∧ M' = M := by
    refine Ok_fn rfl ?_
    refine OkS_seq fun n1 k1 => ?_
    simp [cVar, cK, cOp, cB, cCons, cNil, conts, cTup, lLst, cFz, cMt, pures, asB, cTru, tNt, tAn, tOr2, cAnd, cOr, cNot, cIf, cUn, cChain, oNo, oSm, cSl, lB, lIt, cIt, seqOf, lLR1, lLR2, lSS, ssL, lSX, lSY, opAnd, opBor, opShl, opShr, opIn, opNin, cCall, cCallK, cCallV, cApp, truth, tTrue, gN, gTp, gNil, gCons, gSt, sNil, sSeq, sEx, sRt, sRtN, sIf, sAs, sFor, sPar, setAll, sFrz, sAug, lComp, wipeE, opAdd, opSub, opMul, opFdv, opMod, opPow, opEq, opNe, opLt, opLe, opGt, opGe, opIs, opIsn, isNon, opNeg, revD, ixD, slD, gLen, gAbs, gInt1, gMax2, gMin2, gSrt, LIM, gSum, gTup, gList, gIsi, tyName, instB, tyNames, iR1, iR2, iEn, iZp, iAdd, opt, ixN, kwPerm, finish, startE, opMul2, gSum2, cCnt, iZp2, cDix, cItK, keyD, dIf, dIfN, dEx, dPut, dAs, dFor, dRet, dComp, msk, bDc3, ofRd, lSDk, cStar, cPop, cIdxL, gMaxX_lst, gMaxX_tup, opLeT]
    apply k1
    refine OkS_seq fun n2 k2 => ?_
    have g1 : -16777216 ≤ (n : Int) := by omega
    have g2 : (n : Int) ≤ 16777216 := by omega
    unfold sFor
    have e0 : lB iR1 (cCons (cVar 0) (cNil)) [some (.d (.int n)), some (.d (.int t)), some (.d (.lst [.tup []])), none, none] M = .ok (rngD 0 n) M := by
      simp [cVar, cK, cOp, cB, cCons, cNil, conts, cTup, lLst, cFz, cMt, pures, asB, cTru, tNt, tAn, tOr2, cAnd, cOr, cNot, cIf, cUn, cChain, oNo, oSm, cSl, lB, lIt, cIt, seqOf, lLR1, lLR2, lSS, ssL, lSX, lSY, opAnd, opBor, opShl, opShr, opIn, opNin, cCall, cCallK, cCallV, cApp, truth, tTrue, gN, gTp, gNil, gCons, gSt, sNil, sSeq, sEx, sRt, sRtN, sIf, sAs, sFor, sPar, setAll, sFrz, sAug, lComp, wipeE, opAdd, opSub, opMul, opFdv, opMod, opPow, opEq, opNe, opLt, opLe, opGt, opGe, opIs, opIsn, isNon, opNeg, revD, ixD, slD, gLen, gAbs, gInt1, gMax2, gMin2, gSrt, LIM, gSum, gTup, gList, gIsi, tyName, instB, tyNames, iR1, iR2, iEn, iZp, iAdd, opt, ixN, kwPerm, finish, startE, opMul2, gSum2, cCnt, iZp2, cDix, cItK, keyD, dIf, dIfN, dEx, dPut, dAs, dFor, dRet, dComp, msk, bDc3, ofRd, lSDk, cStar, cPop, cIdxL, gMaxX_lst, gMaxX_tup, opLeT, g1, g2]
    rw [e0, OkS_ofR, Ok_ok]
    refine OkS_loop (fun r env M' => ∃ (i : Nat) (x3 : Option W), i + r.length = n ∧ r = rngD i r.length ∧ env = [some (.d (.int n)), some (.d (.int t)), some (.d (.lst ((othL t i).map rowD))), x3, none] ∧ M' = M) _ _ _ ⟨0, none, by simp, by simp, rfl, rfl⟩ ?_ ?_
    · rintro d r env M' ⟨i, x2, hi, hr, rfl, rfl⟩
      have hr2 : d = .int i ∧ r = rngD (i + 1 : Nat) r.length := by
        have e1 : rngD (i : Int) (r.length + 1) = .int (i : Int) :: rngD (i + 1 : Nat) r.length := by
          unfold rngD
          rw [List.range_succ_eq_map, List.map_cons, List.map_map]
          rw [show ((i : Int) + ((0 : Nat) : Int)) = (i : Int) by simp]
          refine congrArg _ (List.map_congr_left fun j _ => ?_)
          show D.int ((i : Int) + ((j + 1 : Nat) : Int)) = .int (((i + 1 : Nat) : Int) + (j : Int))
          congr 1; omega
        rw [List.length_cons, e1] at hr
        injection hr with h1 h2
        exact ⟨h1, h2⟩
      obtain ⟨rfl, hr3⟩ := hr2
      rw [List.length_cons] at hi
      refine ⟨_, rfl, ?_⟩
      have hl := othL_len t i
      have hp : 2 ^ i ≤ 256 := Nat.le_trans (Nat.pow_le_pow_right (by decide) (by omega : i ≤ 8)) (by decide)
      by_cases c : (i : Int) = (t : Int)
      · have e1 : othL t (i + 1) = othL t i := by
          show (if (i : Int) = (t : Int) then othL t i else _) = _
          rw [if_pos c]
        refine OkS_if (b := false) (M1 := M') (by simp [cVar, cK, cOp, cB, cCons, cNil, conts, cTup, lLst, cFz, cMt, pures, asB, cTru, tNt, tAn, tOr2, cAnd, cOr, cNot, cIf, cUn, cChain, oNo, oSm, cSl, lB, lIt, cIt, seqOf, lLR1, lLR2, lSS, ssL, lSX, lSY, opAnd, opBor, opShl, opShr, opIn, opNin, cCall, cCallK, cCallV, cApp, truth, tTrue, gN, gTp, gNil, gCons, gSt, sNil, sSeq, sEx, sRt, sRtN, sIf, sAs, sFor, sPar, setAll, sFrz, sAug, lComp, wipeE, opAdd, opSub, opMul, opFdv, opMod, opPow, opEq, opNe, opLt, opLe, opGt, opGe, opIs, opIsn, isNon, opNeg, revD, ixD, slD, gLen, gAbs, gInt1, gMax2, gMin2, gSrt, LIM, gSum, gTup, gList, gIsi, tyName, instB, tyNames, iR1, iR2, iEn, iZp, iAdd, opt, ixN, kwPerm, finish, startE, opMul2, gSum2, cCnt, iZp2, cDix, cItK, keyD, dIf, dIfN, dEx, dPut, dAs, dFor, dRet, dComp, msk, bDc3, ofRd, lSDk, cStar, cPop, cIdxL, gMaxX_lst, gMaxX_tup, opLeT]; omega) (fun h => nomatch h) fun _ => ?_
        unfold sNil
        rw [OkS_nx]
        exact ⟨i + 1, _, by omega, hr3, by rw [e1]; rfl, rfl⟩
      · have e1 : othL t (i + 1) = othL t i ++ (othL t i).map (· ++ [(i : Int)]) := by
          show (if (i : Int) = (t : Int) then othL t i else _) = _
          rw [if_neg c]
        refine OkS_if (b := true) (M1 := M') (by simp [cVar, cK, cOp, cB, cCons, cNil, conts, cTup, lLst, cFz, cMt, pures, asB, cTru, tNt, tAn, tOr2, cAnd, cOr, cNot, cIf, cUn, cChain, oNo, oSm, cSl, lB, lIt, cIt, seqOf, lLR1, lLR2, lSS, ssL, lSX, lSY, opAnd, opBor, opShl, opShr, opIn, opNin, cCall, cCallK, cCallV, cApp, truth, tTrue, gN, gTp, gNil, gCons, gSt, sNil, sSeq, sEx, sRt, sRtN, sIf, sAs, sFor, sPar, setAll, sFrz, sAug, lComp, wipeE, opAdd, opSub, opMul, opFdv, opMod, opPow, opEq, opNe, opLt, opLe, opGt, opGe, opIs, opIsn, isNon, opNeg, revD, ixD, slD, gLen, gAbs, gInt1, gMax2, gMin2, gSrt, LIM, gSum, gTup, gList, gIsi, tyName, instB, tyNames, iR1, iR2, iEn, iZp, iAdd, opt, ixN, kwPerm, finish, startE, opMul2, gSum2, cCnt, iZp2, cDix, cItK, keyD, dIf, dIfN, dEx, dPut, dAs, dFor, dRet, dComp, msk, bDc3, ofRd, lSDk, cStar, cPop, cIdxL, gMaxX_lst, gMaxX_tup, opLeT]; omega) (fun _ => ?_) (fun h => nomatch h)
        refine OkS_k fun n' kn => ?_
        have ec := comp_all (M := M') (env0 := [some (.d (.int n)), some (.d (.int t)), some (.d (.lst ((othL t i).map rowD))), some (.d (.int i)), none]) (g := gN 4) (fe := cTup (cStar (cVar 4) (cCons (cVar 3) (cNil)))) (fun d => match d with | .tup xs => .tup (xs ++ [.int i]) | _ => .non) ((othL t i).map rowD) fun d hd => ⟨_, rfl, by
          obtain ⟨l, hl2, rfl⟩ := List.mem_map.mp hd
          have := (lotsR_in i ((othL_mem t i l).mp hl2).1).2.2
          have h5 : (l.map D.int ++ [D.int (i : Int)]).length ≤ LIM := by rw [List.length_append, List.length_map, List.length_singleton]; unfold LIM; omega
          have hpu : pures ((l.map D.int).map W.d ++ [W.d (D.int (i : Int))]) = some (l.map .int ++ [.int i]) := by
            have : (l.map D.int).map W.d ++ [W.d (D.int (i : Int))] = (l.map D.int ++ [D.int (i : Int)]).map W.d := by simp
            rw [this]; exact pures_ds _
          show cTup (cStar (cVar 4) (cCons (cVar 3) (cNil))) _ _ = _
          have h6 : l.length + 1 ≤ LIM := by unfold LIM; omega
          simp [cTup, cStar, cCons, cNil, cVar, gN, rowD, -List.map_map, hpu, h5, h6]⟩
        have e2 : ((othL t i).map rowD).map (fun d => match d with | .tup xs => .tup (xs ++ [.int i]) | _ => .non) = ((othL t i).map (· ++ [(i : Int)])).map rowD := by
          rw [List.map_map, List.map_map]
          refine List.map_congr_left fun l _ => ?_
          show D.tup (l.map .int ++ [.int i]) = .tup ((l ++ [(i : Int)]).map .int)
          rw [List.map_append]; rfl
        rw [e2] at ec
        have h6 : (othL t i).length ≤ 16777216 := by omega
        have h7 : (othL t i).length + (othL t i).length ≤ 16777216 := by omega
        simp [cVar, cK, cOp, cB, cCons, cNil, conts, cTup, lLst, cFz, cMt, pures, asB, cTru, tNt, tAn, tOr2, cAnd, cOr, cNot, cIf, cUn, cChain, oNo, oSm, cSl, lB, lIt, cIt, seqOf, lLR1, lLR2, lSS, ssL, lSX, lSY, opAnd, opBor, opShl, opShr, opIn, opNin, cCall, cCallK, cCallV, cApp, truth, tTrue, gN, gTp, gNil, gCons, gSt, sNil, sSeq, sEx, sRt, sRtN, sIf, sAs, sFor, sPar, setAll, sFrz, sAug, lComp, wipeE, opAdd, opSub, opMul, opFdv, opMod, opPow, opEq, opNe, opLt, opLe, opGt, opGe, opIs, opIsn, isNon, opNeg, revD, ixD, slD, gLen, gAbs, gInt1, gMax2, gMin2, gSrt, LIM, gSum, gTup, gList, gIsi, tyName, instB, tyNames, iR1, iR2, iEn, iZp, iAdd, opt, ixN, kwPerm, finish, startE, opMul2, gSum2, cCnt, iZp2, cDix, cItK, keyD, dIf, dIfN, dEx, dPut, dAs, dFor, dRet, dComp, msk, bDc3, ofRd, lSDk, cStar, cPop, cIdxL, gMaxX_lst, gMaxX_tup, opLeT, ec, h6, h7, -List.map_map, -cStar]
        apply kn
        rw [← List.map_append, ← e1]
        exact ⟨i + 1, some (.d (.int i)), by omega, hr3, rfl, rfl⟩
    · rintro env M' ⟨i, x2, hi, hr, rfl, rfl⟩
      apply k2
      have : i = n := by simpa using hi
      subst this
      have hl := othL_len t i
      have hp : 2 ^ i ≤ 512 := Nat.le_trans (Nat.pow_le_pow_right (by decide) (by omega : i ≤ 9)) (by decide)
      have h6 : (srtR (othL t i)).length ≤ 16777216 := by rw [(srtR_perm _).length_eq]; omega
      have h7 : (othL t i).length ≤ 16777216 := by omega
      have h8 : (srtR (othL t i)).length - 1 ≤ 16777216 := by omega
      simp [cVar, cK, cOp, cB, cCons, cNil, conts, cTup, lLst, cFz, cMt, pures, asB, cTru, tNt, tAn, tOr2, cAnd, cOr, cNot, cIf, cUn, cChain, oNo, oSm, cSl, lB, lIt, cIt, seqOf, lLR1, lLR2, lSS, ssL, lSX, lSY, opAnd, opBor, opShl, opShr, opIn, opNin, cCall, cCallK, cCallV, cApp, truth, tTrue, gN, gTp, gNil, gCons, gSt, sNil, sSeq, sEx, sRt, sRtN, sIf, sAs, sFor, sPar, setAll, sFrz, sAug, lComp, wipeE, opAdd, opSub, opMul, opFdv, opMod, opPow, opEq, opNe, opLt, opLe, opGt, opGe, opIs, opIsn, isNon, opNeg, revD, ixD, slD, gLen, gAbs, gInt1, gMax2, gMin2, gSrt, LIM, gSum, gTup, gList, gIsi, tyName, instB, tyNames, iR1, iR2, iEn, iZp, iAdd, opt, ixN, kwPerm, finish, startE, opMul2, gSum2, cCnt, iZp2, cDix, cItK, keyD, dIf, dIfN, dEx, dPut, dAs, dFor, dRet, dComp, msk, bDc3, ofRd, lSDk, cStar, cPop, cIdxL, gMaxX_lst, gMaxX_tup, opLeT, rowsD_map, h6, h7, h8]
      try rw [List.map_drop]
  obtain ⟨w, M', e, rfl, rfl⟩ := key.ex
  exact e
end PD.LW
namespace PD.LW
open PySem PySem.Spec PyProof.Rows L2 PD
theorem sum_left (t : Int) : ∀ (ls : List (List Int)) {n : Nat}, (∀ r ∈ ls, RowOk n r) → ((ls.filter fun r => decide (t = r.getD 0 0) || decide (t = r.getD 1 0)).map fun r => r.getD 2 0).sum = gL ls t
  | [], _, _ => rfl
  | r :: ls, n, h => by
    obtain ⟨a, b, m, rfl, _⟩ := h r (by simp)
    have ih := sum_left t ls (n := n) fun r q => h r (List.mem_cons_of_mem _ q)
    rw [gL_cons, ← ih]
    by_cases c : a = t ∨ b = t
    · rw [if_pos c, List.filter_cons_of_pos (by show (decide (t = a) || decide (t = b)) = true; simp; omega), List.map_cons, List.sum_cons]; rfl
    · rw [if_neg c, List.filter_cons_of_neg (by show ¬ (decide (t = a) || decide (t = b)) = true; simp; omega)]; omega
theorem sum_among (S : List Int) : ∀ (ls : List (List Int)) {n : Nat}, (∀ r ∈ ls, RowOk n r) → ((ls.filter fun r => decide (r.getD 0 0 ∈ S) && decide (r.getD 1 0 ∈ S)).map fun r => r.getD 2 0).sum = gA ls fun i => decide (i ∈ S)
  | [], _, _ => rfl
  | r :: ls, n, h => by
    obtain ⟨a, b, m, rfl, _⟩ := h r (by simp)
    have ih := sum_among S ls (n := n) fun r q => h r (List.mem_cons_of_mem _ q)
    rw [gA_cons, ← ih]
    by_cases c : (decide (a ∈ S) && decide (b ∈ S)) = true
    · rw [if_pos c, List.filter_cons_of_pos (by exact c), List.map_cons, List.sum_cons]; rfl
    · rw [if_neg c, List.filter_cons_of_neg (by exact c)]; omega
theorem R_games_left_by_eq {n : Nat} {ls : List (List Int)} (hr : ∀ r ∈ ls, RowOk n r) (hf : ls.length ≤ 64) (t : Int) (M : Store) : R_games_left_by [.d (.tup (ls.map rowD)), .d (.int t)] M = .ok (.d (.int (gL ls t))) M := by
  have e := comp_mapG (M := M) (env0 := [some (.d (.tup (ls.map rowD))), some (.d (.int t)), none, none, none]) (g := gTp 3 (gCons (gN 2) (gCons (gN 3) (gCons (gN 4) (gNil))))) (ft := asB (cOp opIn (cVar 1) (cTup (cCons (cVar 2) (cCons (cVar 3) (cNil)))))) (fe := cVar 4) rowD (fun r => [some (.d (.tup (ls.map rowD))), some (.d (.int t)), some (.d (.int (r.getD 0 0))), some (.d (.int (r.getD 1 0))), some (.d (.int (r.getD 2 0)))]) (fun r => decide (t = r.getD 0 0) || decide (t = r.getD 1 0)) (fun r => .int (r.getD 2 0)) ls fun r q => by
    obtain ⟨a, b, m, rfl, _⟩ := hr r q
    refine ⟨rfl, ?_, fun _ => rfl⟩
    simp only [List.getD_cons_zero, List.getD_cons_succ]
    have ei : inD (.int t) (.tup ([a, b].map .int)) = some (decide (t ∈ [a, b])) := inD_tup t [a, b]
    have ed : decide (t ∈ [a, b]) = (decide (t = a) || decide (t = b)) := by simp
    rw [ed] at ei
    simp only [List.map_cons, List.map_nil] at ei
    simp [cVar, cK, cOp, cB, cCons, cNil, conts, cTup, lLst, cFz, cMt, pures, asB, cTru, tNt, tAn, tOr2, cAnd, cOr, cNot, cIf, cUn, cChain, oNo, oSm, cSl, lB, lIt, cIt, seqOf, lLR1, lLR2, lSS, ssL, lSX, lSY, opAnd, opBor, opShl, opShr, opIn, opNin, cCall, cCallK, cCallV, cApp, truth, tTrue, gN, gTp, gNil, gCons, gSt, sNil, sSeq, sEx, sRt, sRtN, sIf, sAs, sFor, sPar, setAll, sFrz, sAug, lComp, wipeE, opAdd, opSub, opMul, opFdv, opMod, opPow, opEq, opNe, opLt, opLe, opGt, opGe, opIs, opIsn, isNon, opNeg, revD, ixD, slD, gLen, gAbs, gInt1, gMax2, gMin2, gSrt, LIM, gSum, gTup, gList, gIsi, tyName, instB, tyNames, iR1, iR2, iEn, iZp, iAdd, opt, ixN, kwPerm, finish, startE, opMul2, gSum2, cCnt, iZp2, cDix, cItK, keyD, dIf, dIfN, dEx, dPut, dAs, dFor, dRet, dComp, msk, bDc3, ofRd, lSDk, cStar, cPop, cIdxL, gMaxX_lst, gMaxX_tup, opLeT, ei]
  have hl : ((ls.filter fun r => decide (t = r.getD 0 0) || decide (t = r.getD 1 0)).map fun r => r.getD 2 0).length ≤ 16777216 := by
    rw [List.length_map]
    have := List.length_filter_le (fun r : List Int => decide (t = r.getD 0 0) || decide (t = r.getD 1 0)) ls
    omega
  have es := sum_left t ls hr
  have ef : ((ls.filter fun r => decide (t = r.getD 0 0) || decide (t = r.getD 1 0)).map fun r => D.int (r.getD 2 0)) = ((ls.filter fun r => decide (t = r.getD 0 0) || decide (t = r.getD 1 0)).map fun r => r.getD 2 0).map .int := by rw [List.map_map]; rfl
  rw [ef] at e
  have g1 : ls.length ≤ 16777216 := by omega
  generalize ((ls.filter fun r => decide (t = r.getD 0 0) || decide (t = r.getD 1 0)).map fun r => r.getD 2 0) = ns at e es hl
  simp [R_games_left_by, mkFn, B_games_left_by, cVar, cK, cOp, cB, cCons, cNil, conts, cTup, lLst, cFz, cMt, pures, asB, cTru, tNt, tAn, tOr2, cAnd, cOr, cNot, cIf, cUn, cChain, oNo, oSm, cSl, lB, lIt, cIt, seqOf, lLR1, lLR2, lSS, ssL, lSX, lSY, opAnd, opBor, opShl, opShr, opIn, opNin, cCall, cCallK, cCallV, cApp, truth, tTrue, gN, gTp, gNil, gCons, gSt, sNil, sSeq, sEx, sRt, sRtN, sIf, sAs, sFor, sPar, setAll, sFrz, sAug, lComp, wipeE, opAdd, opSub, opMul, opFdv, opMod, opPow, opEq, opNe, opLt, opLe, opGt, opGe, opIs, opIsn, isNon, opNeg, revD, ixD, slD, gLen, gAbs, gInt1, gMax2, gMin2, gSrt, LIM, gSum, gTup, gList, gIsi, tyName, instB, tyNames, iR1, iR2, iEn, iZp, iAdd, opt, ixN, kwPerm, finish, startE, opMul2, gSum2, cCnt, iZp2, cDix, cItK, keyD, dIf, dIfN, dEx, dPut, dAs, dFor, dRet, dComp, msk, bDc3, ofRd, lSDk, cStar, cPop, cIdxL, gMaxX_lst, gMaxX_tup, opLeT, e, g1, hl, intsOf_map, es]
theorem R_games_among_eq {n : Nat} {ls : List (List Int)} (hr : ∀ r ∈ ls, RowOk n r) (hf : ls.length ≤ 64) (S : List Int) (M : Store) : R_games_among [.d (.tup (ls.map rowD)), .d (.tup (S.map .int))] M = .ok (.d (.int (gA ls fun i => decide (i ∈ S)))) M := by
  have e := comp_mapG (M := M) (env0 := [some (.d (.tup (ls.map rowD))), some (.d (.tup (S.map .int))), none, none, none]) (g := gTp 3 (gCons (gN 2) (gCons (gN 3) (gCons (gN 4) (gNil))))) (ft := tAn (asB (cOp opIn (cVar 2) (cVar 1))) (asB (cOp opIn (cVar 3) (cVar 1)))) (fe := cVar 4) rowD (fun r => [some (.d (.tup (ls.map rowD))), some (.d (.tup (S.map .int))), some (.d (.int (r.getD 0 0))), some (.d (.int (r.getD 1 0))), some (.d (.int (r.getD 2 0)))]) (fun r => decide (r.getD 0 0 ∈ S) && decide (r.getD 1 0 ∈ S)) (fun r => .int (r.getD 2 0)) ls fun r q => by
    obtain ⟨a, b, m, rfl, _⟩ := hr r q
    refine ⟨rfl, ?_, fun _ => rfl⟩
    simp only [List.getD_cons_zero, List.getD_cons_succ]
    by_cases c : a ∈ S <;> by_cases c2 : b ∈ S <;> simp [cVar, cK, cOp, cB, cCons, cNil, conts, cTup, lLst, cFz, cMt, pures, asB, cTru, tNt, tAn, tOr2, cAnd, cOr, cNot, cIf, cUn, cChain, oNo, oSm, cSl, lB, lIt, cIt, seqOf, lLR1, lLR2, lSS, ssL, lSX, lSY, opAnd, opBor, opShl, opShr, opIn, opNin, cCall, cCallK, cCallV, cApp, truth, tTrue, gN, gTp, gNil, gCons, gSt, sNil, sSeq, sEx, sRt, sRtN, sIf, sAs, sFor, sPar, setAll, sFrz, sAug, lComp, wipeE, opAdd, opSub, opMul, opFdv, opMod, opPow, opEq, opNe, opLt, opLe, opGt, opGe, opIs, opIsn, isNon, opNeg, revD, ixD, slD, gLen, gAbs, gInt1, gMax2, gMin2, gSrt, LIM, gSum, gTup, gList, gIsi, tyName, instB, tyNames, iR1, iR2, iEn, iZp, iAdd, opt, ixN, kwPerm, finish, startE, opMul2, gSum2, cCnt, iZp2, cDix, cItK, keyD, dIf, dIfN, dEx, dPut, dAs, dFor, dRet, dComp, msk, bDc3, ofRd, lSDk, cStar, cPop, cIdxL, gMaxX_lst, gMaxX_tup, opLeT, c, c2]
  have hl : ((ls.filter fun r => decide (r.getD 0 0 ∈ S) && decide (r.getD 1 0 ∈ S)).map fun r => r.getD 2 0).length ≤ 16777216 := by
    rw [List.length_map]
    have := List.length_filter_le (fun r : List Int => decide (r.getD 0 0 ∈ S) && decide (r.getD 1 0 ∈ S)) ls
    omega
  have es := sum_among S ls hr
  have ef : ((ls.filter fun r => decide (r.getD 0 0 ∈ S) && decide (r.getD 1 0 ∈ S)).map fun r => D.int (r.getD 2 0)) = ((ls.filter fun r => decide (r.getD 0 0 ∈ S) && decide (r.getD 1 0 ∈ S)).map fun r => r.getD 2 0).map .int := by rw [List.map_map]; rfl
  rw [ef] at e
  have g1 : ls.length ≤ 16777216 := by omega
  generalize ((ls.filter fun r => decide (r.getD 0 0 ∈ S) && decide (r.getD 1 0 ∈ S)).map fun r => r.getD 2 0) = ns at e es hl
  simp [R_games_among, mkFn, B_games_among, cVar, cK, cOp, cB, cCons, cNil, conts, cTup, lLst, cFz, cMt, pures, asB, cTru, tNt, tAn, tOr2, cAnd, cOr, cNot, cIf, cUn, cChain, oNo, oSm, cSl, lB, lIt, cIt, seqOf, lLR1, lLR2, lSS, ssL, lSX, lSY, opAnd, opBor, opShl, opShr, opIn, opNin, cCall, cCallK, cCallV, cApp, truth, tTrue, gN, gTp, gNil, gCons, gSt, sNil, sSeq, sEx, sRt, sRtN, sIf, sAs, sFor, sPar, setAll, sFrz, sAug, lComp, wipeE, opAdd, opSub, opMul, opFdv, opMod, opPow, opEq, opNe, opLt, opLe, opGt, opGe, opIs, opIsn, isNon, opNeg, revD, ixD, slD, gLen, gAbs, gInt1, gMax2, gMin2, gSrt, LIM, gSum, gTup, gList, gIsi, tyName, instB, tyNames, iR1, iR2, iEn, iZp, iAdd, opt, ixN, kwPerm, finish, startE, opMul2, gSum2, cCnt, iZp2, cDix, cItK, keyD, dIf, dIfN, dEx, dPut, dAs, dFor, dRet, dComp, msk, bDc3, ofRd, lSDk, cStar, cPop, cIdxL, gMaxX_lst, gMaxX_tup, opLeT, e, g1, hl, intsOf_map, es]
theorem at_int {W : List Int} {i : Nat} (hi : i < W.length) : (W.map D.int)[i]? = some (.int (W.getD i 0)) := by
  rw [List.getElem?_map, List.getD_eq_getElem?_getD, List.getElem?_eq_getElem hi]; rfl
theorem R_is_over_eq {W : List Int} {ls : List (List Int)} (h : SeaOk W ls) (most : Int) {S : List Int} (hS : S ∈ lotsR W.length) (M : Store) : R_is_over [.d (.tup (W.map .int)), .d (.tup (ls.map rowD)), .d (.int most), .d (.tup (S.map .int))] M = .ok (.d (.bl (overB W ls most S))) M := by
  obtain ⟨h0, _, hl⟩ := lotsR_in _ hS
  have h5 := h.five
  have e1 := R_games_among_eq h.row h.few S M
  have e := comp_intsF (M := M) (env0 := [some (.d (.tup (W.map .int))), some (.d (.tup (ls.map rowD))), some (.d (.int most)), some (.d (.tup (S.map .int))), none]) (k := 4) (fe := cOp ixD (cVar 0) (cVar 4)) (fun i => .int (W.getD i.toNat 0)) S fun i hi => by
    have := h0 i hi
    obtain ⟨v, rfl⟩ := Int.eq_ofNat_of_zero_le this.1
    have hv : v < W.length := by omega
    have ea := at_int hv
    rw [Int.toNat_natCast]
    generalize W.getD v 0 = x at ea
    generalize W.map D.int = WD at ea
    simp [cVar, cK, cOp, cB, cCons, cNil, conts, cTup, lLst, cFz, cMt, pures, asB, cTru, tNt, tAn, tOr2, cAnd, cOr, cNot, cIf, cUn, cChain, oNo, oSm, cSl, lB, lIt, cIt, seqOf, lLR1, lLR2, lSS, ssL, lSX, lSY, opAnd, opBor, opShl, opShr, opIn, opNin, cCall, cCallK, cCallV, cApp, truth, tTrue, gN, gTp, gNil, gCons, gSt, sNil, sSeq, sEx, sRt, sRtN, sIf, sAs, sFor, sPar, setAll, sFrz, sAug, lComp, wipeE, opAdd, opSub, opMul, opFdv, opMod, opPow, opEq, opNe, opLt, opLe, opGt, opGe, opIs, opIsn, isNon, opNeg, revD, ixD, slD, gLen, gAbs, gInt1, gMax2, gMin2, gSrt, LIM, gSum, gTup, gList, gIsi, tyName, instB, tyNames, iR1, iR2, iEn, iZp, iAdd, opt, ixN, kwPerm, finish, startE, opMul2, gSum2, cCnt, iZp2, cDix, cItK, keyD, dIf, dIfN, dEx, dPut, dAs, dFor, dRet, dComp, msk, bDc3, ofRd, lSDk, cStar, cPop, cIdxL, gMaxX_lst, gMaxX_tup, opLeT, ea]
  have ef : (S.map fun i => D.int (W.getD i.toNat 0)) = (S.map fun i => W.getD i.toNat 0).map .int := by rw [List.map_map]; rfl
  rw [ef] at e
  have g1 : S.length ≤ 16777216 := by omega
  have g2 : (S.map fun i => W.getD i.toNat 0).length ≤ 16777216 := by rw [List.length_map]; exact g1
  have es : (S.map fun i => W.getD i.toNat 0).sum = worthI W S := rfl
  have g3 : S.length < 18446744073709551616 := by omega
  unfold overB
  generalize (S.map fun i => W.getD i.toNat 0) = ns at e es g2
  generalize gA ls (fun i => decide (i ∈ S)) = ga at e1
  simp [R_is_over, mkFn, B_is_over, cVar, cK, cOp, cB, cCons, cNil, conts, cTup, lLst, cFz, cMt, pures, asB, cTru, tNt, tAn, tOr2, cAnd, cOr, cNot, cIf, cUn, cChain, oNo, oSm, cSl, lB, lIt, cIt, seqOf, lLR1, lLR2, lSS, ssL, lSX, lSY, opAnd, opBor, opShl, opShr, opIn, opNin, cCall, cCallK, cCallV, cApp, truth, tTrue, gN, gTp, gNil, gCons, gSt, sNil, sSeq, sEx, sRt, sRtN, sIf, sAs, sFor, sPar, setAll, sFrz, sAug, lComp, wipeE, opAdd, opSub, opMul, opFdv, opMod, opPow, opEq, opNe, opLt, opLe, opGt, opGe, opIs, opIsn, isNon, opNeg, revD, ixD, slD, gLen, gAbs, gInt1, gMax2, gMin2, gSrt, LIM, gSum, gTup, gList, gIsi, tyName, instB, tyNames, iR1, iR2, iEn, iZp, iAdd, opt, ixN, kwPerm, finish, startE, opMul2, gSum2, cCnt, iZp2, cDix, cItK, keyD, dIf, dIfN, dEx, dPut, dAs, dFor, dRet, dComp, msk, bDc3, ofRd, lSDk, cStar, cPop, cIdxL, gMaxX_lst, gMaxX_tup, opLeT, e, e1, g1, g2, g3, intsOf_map, es]
theorem R_most_wins_by_eq {W : List Int} {ls : List (List Int)} (hr : ∀ r ∈ ls, RowOk W.length r) (hf : ls.length ≤ 64) {t : Nat} (ht : t < W.length) (M : Store) : R_most_wins_by [.d (.tup (W.map .int)), .d (.tup (ls.map rowD)), .d (.int t)] M = .ok (.d (.int (W.getD t 0 + gL ls t))) M := by
  have e1 := R_games_left_by_eq hr hf t M
  have ea := at_int ht
  generalize W.getD t 0 = x at ea
  generalize W.map D.int = WD at ea
  simp [R_most_wins_by, mkFn, B_most_wins_by, cVar, cK, cOp, cB, cCons, cNil, conts, cTup, lLst, cFz, cMt, pures, asB, cTru, tNt, tAn, tOr2, cAnd, cOr, cNot, cIf, cUn, cChain, oNo, oSm, cSl, lB, lIt, cIt, seqOf, lLR1, lLR2, lSS, ssL, lSX, lSY, opAnd, opBor, opShl, opShr, opIn, opNin, cCall, cCallK, cCallV, cApp, truth, tTrue, gN, gTp, gNil, gCons, gSt, sNil, sSeq, sEx, sRt, sRtN, sIf, sAs, sFor, sPar, setAll, sFrz, sAug, lComp, wipeE, opAdd, opSub, opMul, opFdv, opMod, opPow, opEq, opNe, opLt, opLe, opGt, opGe, opIs, opIsn, isNon, opNeg, revD, ixD, slD, gLen, gAbs, gInt1, gMax2, gMin2, gSrt, LIM, gSum, gTup, gList, gIsi, tyName, instB, tyNames, iR1, iR2, iEn, iZp, iAdd, opt, ixN, kwPerm, finish, startE, opMul2, gSum2, cCnt, iZp2, cDix, cItK, keyD, dIf, dIfN, dEx, dPut, dAs, dFor, dRet, dComp, msk, bDc3, ofRd, lSDk, cStar, cPop, cIdxL, gMaxX_lst, gMaxX_tup, opLeT, e1, ea]
open Classical in
noncomputable def canB (W : List Int) (ls : List (List Int)) (t : Nat) : Bool := decide (Can W ls t)
open Classical in
theorem canB_iff {W : List Int} {ls : List (List Int)} {t : Nat} : canB W ls t = true ↔ Can W ls t := by
  unfold canB
  exact decide_eq_true_iff
theorem over_nil (W : List Int) {n : Nat} : ∀ (ls : List (List Int)) (most : Int), (∀ r ∈ ls, RowOk n r) → overB W ls most [] = false
  | ls, most, hr => by
    have : gA ls (fun i => decide (i ∈ ([] : List Int))) = 0 := by
      have e := gA_congr (n := n) (x := fun i => decide (i ∈ ([] : List Int))) (y := fun _ => false) (fun i _ => by simp) ls hr
      rw [e]
      clear e hr
      induction ls with
      | nil => rfl
      | cons r ls ih =>
        show (match r with | [a, b, m] => if false && false then m else 0 | _ => 0) + gA ls (fun _ => false) = 0
        rw [ih]
        split <;> simp
    unfold overB
    rw [this]
    simp [worthI]
theorem lots_all {t : Nat} {n : Nat} {p : List Int → Bool} (hp : p [] = false) : (∀ S ∈ (srtR (othL t n)).drop 1, p S = false) ↔ ∀ S ∈ lotsR n, (t : Int) ∉ S → p S = false := by
  have hm : ∀ S, S ∈ srtR (othL t n) ↔ S ∈ lotsR n ∧ (t : Int) ∉ S := fun S => by rw [(srtR_perm _).mem_iff, othL_mem]
  have hup := srtR_up (othL t n)
  have hnil : [] ∈ srtR (othL t n) := (hm []).mpr ⟨lotsR_iff.mpr ⟨fun x hx => (nomatch hx), List.Pairwise.nil⟩, by simp⟩
  generalize srtR (othL t n) = X at hm hup hnil
  cases X with
  | nil => cases hnil
  | cons z X =>
    have hz : z = [] := by
      rcases List.mem_cons.mp hnil with q | q
      · exact q.symm
      · have := (List.pairwise_cons.mp hup).1 [] q
        cases z with
        | nil => rfl
        | cons a z => cases this
    show (∀ S ∈ X, p S = false) ↔ _
    constructor
    · intro h S h1 h2
      rcases List.mem_cons.mp ((hm S).mpr ⟨h1, h2⟩) with q | q
      · rw [q, hz]; exact hp
      · exact h S q
    · intro h S hS
      obtain ⟨h1, h2⟩ := (hm S).mp (List.mem_cons_of_mem _ hS)
      exact h S h1 h2
theorem R_can_be_first_by_eq {W : List Int} {ls : List (List Int)} (h : SeaOk W ls) {t : Nat} (ht : t < W.length) (M : Store) : R_can_be_first_by [.d (.tup (W.map .int)), .d (.tup (ls.map rowD)), .d (.int t)] M = .ok (.d (.bl (canB W ls t))) M := by
  have h5 := h.five
  have e1 := R_most_wins_by_eq h.row h.few ht M
  obtain ⟨most, hmost⟩ : ∃ most, most = W.getD t 0 + gL ls t := ⟨_, rfl⟩
  rw [← hmost] at e1
  have hl := othL_len t W.length
  have hp : 2 ^ W.length ≤ 512 := Nat.le_trans (Nat.pow_le_pow_right (by decide) (by omega : W.length ≤ 9)) (by decide)
  obtain ⟨L, hL⟩ : ∃ L, L = (srtR (othL t W.length)).drop 1 := ⟨_, rfl⟩
  have hLl : L.length ≤ 16777216 := by rw [hL, List.length_drop, (srtR_perm _).length_eq]; omega
  have hLm : ∀ S ∈ L, S ∈ lotsR W.length := fun S hS => by
    rw [hL] at hS
    exact ((othL_mem t _ S).mp ((srtR_perm _).mem_iff.mp (List.mem_of_mem_drop hS))).1
  have hiff : (∀ S ∈ L, overB W ls most S = false) ↔ Can W ls t := by
    rw [hL, lots_all (over_nil W ls most h.row), hmost]
    exact (can_lots ht h.row).symm
  have e2 := R_lots_of_others_eq W.length (by omega) t M
  rw [← hL] at e2
  have key : Ok (R_lot_over_most [.d (.tup (W.map .int)), .d (.tup (ls.map rowD)), .d (.int t), .d (.int most)] M) fun w M' => M' = M ∧ ((w = .d .non ∧ ∀ S ∈ L, overB W ls most S = false) ∨ ∃ S ∈ L, overB W ls most S = true ∧ w = .d (rowD S)) := by
    refine Ok_fn rfl ?_
    refine OkS_seq fun n1 k1 => ?_
    unfold sFor
    have g1 : W.length ≤ 16777216 := by omega
    have e0 : cIt (cCall R_lots_of_others (cCons (cB gLen (cCons (cVar 0) (cNil))) (cCons (cVar 2) (cNil)))) [some (.d (.tup (W.map .int))), some (.d (.tup (ls.map rowD))), some (.d (.int t)), some (.d (.int most)), none] M = .ok (L.map rowD) M := by
      generalize ls.map rowD = LD
      simp [cVar, cK, cOp, cB, cCons, cNil, conts, cTup, lLst, cFz, cMt, pures, asB, cTru, tNt, tAn, tOr2, cAnd, cOr, cNot, cIf, cUn, cChain, oNo, oSm, cSl, lB, lIt, cIt, seqOf, lLR1, lLR2, lSS, ssL, lSX, lSY, opAnd, opBor, opShl, opShr, opIn, opNin, cCall, cCallK, cCallV, cApp, truth, tTrue, gN, gTp, gNil, gCons, gSt, sNil, sSeq, sEx, sRt, sRtN, sIf, sAs, sFor, sPar, setAll, sFrz, sAug, lComp, wipeE, opAdd, opSub, opMul, opFdv, opMod, opPow, opEq, opNe, opLt, opLe, opGt, opGe, opIs, opIsn, isNon, opNeg, revD, ixD, slD, gLen, gAbs, gInt1, gMax2, gMin2, gSrt, LIM, gSum, gTup, gList, gIsi, tyName, instB, tyNames, iR1, iR2, iEn, iZp, iAdd, opt, ixN, kwPerm, finish, startE, opMul2, gSum2, cCnt, iZp2, cDix, cItK, keyD, dIf, dIfN, dEx, dPut, dAs, dFor, dRet, dComp, msk, bDc3, ofRd, lSDk, cStar, cPop, cIdxL, gMaxX_lst, gMaxX_tup, opLeT, e2, g1, hLl]
    have e0' : cIt (cCall R_lots_of_others (cCons (cB gLen (cCons (cVar 0) (cNil))) (cCons (cVar 2) (cNil)))) (startE 5 [.d (.tup (W.map .int)), .d (.tup (ls.map rowD)), .d (.int t), .d (.int most)]) M = .ok (L.map rowD) M := e0
    rw [e0', OkS_ofR, Ok_ok]
    refine OkS_loop (fun r env M' => M' = M ∧ ∃ (done ys : List (List Int)), r = ys.map rowD ∧ L = done ++ ys ∧ (∀ S ∈ done, overB W ls most S = false) ∧ ∃ x4, env = [some (.d (.tup (W.map .int))), some (.d (.tup (ls.map rowD))), some (.d (.int t)), some (.d (.int most)), x4]) _ _ _ ⟨rfl, [], L, rfl, rfl, fun S h => (nomatch h), none, rfl⟩ ?_ ?_
    · rintro d r env M' ⟨rfl, done, ys, er, hd, hall, x4, rfl⟩
      cases ys with
      | nil => cases er
      | cons S ys =>
        rw [List.map_cons, List.cons.injEq] at er
        obtain ⟨rfl, rfl⟩ := er
        refine ⟨_, rfl, ?_⟩
        have hSL : S ∈ L := by rw [hd]; simp
        have eo := R_is_over_eq h most (hLm S hSL) M'
        have er : rowD S = .tup (S.map .int) := rfl
        refine OkS_if (b := overB W ls most S) (M1 := M') (by rw [er]; simp [cVar, cK, cOp, cB, cCons, cNil, conts, cTup, lLst, cFz, cMt, pures, asB, cTru, tNt, tAn, tOr2, cAnd, cOr, cNot, cIf, cUn, cChain, oNo, oSm, cSl, lB, lIt, cIt, seqOf, lLR1, lLR2, lSS, ssL, lSX, lSY, opAnd, opBor, opShl, opShr, opIn, opNin, cCall, cCallK, cCallV, cApp, truth, tTrue, gN, gTp, gNil, gCons, gSt, sNil, sSeq, sEx, sRt, sRtN, sIf, sAs, sFor, sPar, setAll, sFrz, sAug, lComp, wipeE, opAdd, opSub, opMul, opFdv, opMod, opPow, opEq, opNe, opLt, opLe, opGt, opGe, opIs, opIsn, isNon, opNeg, revD, ixD, slD, gLen, gAbs, gInt1, gMax2, gMin2, gSrt, LIM, gSum, gTup, gList, gIsi, tyName, instB, tyNames, iR1, iR2, iEn, iZp, iAdd, opt, ixN, kwPerm, finish, startE, opMul2, gSum2, cCnt, iZp2, cDix, cItK, keyD, dIf, dIfN, dEx, dPut, dAs, dFor, dRet, dComp, msk, bDc3, ofRd, lSDk, cStar, cPop, cIdxL, gMaxX_lst, gMaxX_tup, opLeT, eo]) (fun hb => ?_) fun hb => ?_
        · simp [cVar, cK, cOp, cB, cCons, cNil, conts, cTup, lLst, cFz, cMt, pures, asB, cTru, tNt, tAn, tOr2, cAnd, cOr, cNot, cIf, cUn, cChain, oNo, oSm, cSl, lB, lIt, cIt, seqOf, lLR1, lLR2, lSS, ssL, lSX, lSY, opAnd, opBor, opShl, opShr, opIn, opNin, cCall, cCallK, cCallV, cApp, truth, tTrue, gN, gTp, gNil, gCons, gSt, sNil, sSeq, sEx, sRt, sRtN, sIf, sAs, sFor, sPar, setAll, sFrz, sAug, lComp, wipeE, opAdd, opSub, opMul, opFdv, opMod, opPow, opEq, opNe, opLt, opLe, opGt, opGe, opIs, opIsn, isNon, opNeg, revD, ixD, slD, gLen, gAbs, gInt1, gMax2, gMin2, gSrt, LIM, gSum, gTup, gList, gIsi, tyName, instB, tyNames, iR1, iR2, iEn, iZp, iAdd, opt, ixN, kwPerm, finish, startE, opMul2, gSum2, cCnt, iZp2, cDix, cItK, keyD, dIf, dIfN, dEx, dPut, dAs, dFor, dRet, dComp, msk, bDc3, ofRd, lSDk, cStar, cPop, cIdxL, gMaxX_lst, gMaxX_tup, opLeT]
          exact .inr ⟨S, hSL, hb, rfl⟩
        · unfold sNil
          rw [OkS_nx]
          refine ⟨rfl, done ++ [S], ys, rfl, by rw [hd]; simp, fun S' hS' => ?_, _, rfl⟩
          rcases List.mem_append.mp hS' with q | q
          · exact hall S' q
          · rw [List.mem_singleton.mp q]; exact hb
    · rintro env M' ⟨rfl, done, ys, er, hd, hall, x4, rfl⟩
      cases ys with
      | cons z ys => cases er
      | nil =>
        apply k1
        rw [List.append_nil] at hd
        simp [cVar, cK, cOp, cB, cCons, cNil, conts, cTup, lLst, cFz, cMt, pures, asB, cTru, tNt, tAn, tOr2, cAnd, cOr, cNot, cIf, cUn, cChain, oNo, oSm, cSl, lB, lIt, cIt, seqOf, lLR1, lLR2, lSS, ssL, lSX, lSY, opAnd, opBor, opShl, opShr, opIn, opNin, cCall, cCallK, cCallV, cApp, truth, tTrue, gN, gTp, gNil, gCons, gSt, sNil, sSeq, sEx, sRt, sRtN, sIf, sAs, sFor, sPar, setAll, sFrz, sAug, lComp, wipeE, opAdd, opSub, opMul, opFdv, opMod, opPow, opEq, opNe, opLt, opLe, opGt, opGe, opIs, opIsn, isNon, opNeg, revD, ixD, slD, gLen, gAbs, gInt1, gMax2, gMin2, gSrt, LIM, gSum, gTup, gList, gIsi, tyName, instB, tyNames, iR1, iR2, iEn, iZp, iAdd, opt, ixN, kwPerm, finish, startE, opMul2, gSum2, cCnt, iZp2, cDix, cItK, keyD, dIf, dIfN, dEx, dPut, dAs, dFor, dRet, dComp, msk, bDc3, ofRd, lSDk, cStar, cPop, cIdxL, gMaxX_lst, gMaxX_tup, opLeT]
        refine .inl (by rw [hd]; exact hall)
  obtain ⟨w, M', e, rfl, hw⟩ := key.ex
  have ew : ∃ d : D, w = .d d ∧ isNon d = canB W ls t := by
    rcases hw with ⟨rfl, hw⟩ | ⟨S, hS, hb, rfl⟩
    · exact ⟨_, rfl, (canB_iff.mpr (hiff.mp hw)).symm⟩
    · refine ⟨_, rfl, ?_⟩
      have : canB W ls t = false := by
        cases c : canB W ls t with
        | false => rfl
        | true =>
          have := hiff.mpr (canB_iff.mp c) S hS
          rw [hb] at this
          cases this
      rw [this]; rfl
  obtain ⟨d, rfl, hd⟩ := ew
  have e3 : R_lot_over_by [.d (.tup (W.map .int)), .d (.tup (ls.map rowD)), .d (.int t)] M' = .ok (.d d) M' := by
    simp [R_lot_over_by, mkFn, B_lot_over_by, cVar, cK, cOp, cB, cCons, cNil, conts, cTup, lLst, cFz, cMt, pures, asB, cTru, tNt, tAn, tOr2, cAnd, cOr, cNot, cIf, cUn, cChain, oNo, oSm, cSl, lB, lIt, cIt, seqOf, lLR1, lLR2, lSS, ssL, lSX, lSY, opAnd, opBor, opShl, opShr, opIn, opNin, cCall, cCallK, cCallV, cApp, truth, tTrue, gN, gTp, gNil, gCons, gSt, sNil, sSeq, sEx, sRt, sRtN, sIf, sAs, sFor, sPar, setAll, sFrz, sAug, lComp, wipeE, opAdd, opSub, opMul, opFdv, opMod, opPow, opEq, opNe, opLt, opLe, opGt, opGe, opIs, opIsn, isNon, opNeg, revD, ixD, slD, gLen, gAbs, gInt1, gMax2, gMin2, gSrt, LIM, gSum, gTup, gList, gIsi, tyName, instB, tyNames, iR1, iR2, iEn, iZp, iAdd, opt, ixN, kwPerm, finish, startE, opMul2, gSum2, cCnt, iZp2, cDix, cItK, keyD, dIf, dIfN, dEx, dPut, dAs, dFor, dRet, dComp, msk, bDc3, ofRd, lSDk, cStar, cPop, cIdxL, gMaxX_lst, gMaxX_tup, opLeT, e1, e]
  simp [R_can_be_first_by, mkFn, B_can_be_first_by, cVar, cK, cOp, cB, cCons, cNil, conts, cTup, lLst, cFz, cMt, pures, asB, cTru, tNt, tAn, tOr2, cAnd, cOr, cNot, cIf, cUn, cChain, oNo, oSm, cSl, lB, lIt, cIt, seqOf, lLR1, lLR2, lSS, ssL, lSX, lSY, opAnd, opBor, opShl, opShr, opIn, opNin, cCall, cCallK, cCallV, cApp, truth, tTrue, gN, gTp, gNil, gCons, gSt, sNil, sSeq, sEx, sRt, sRtN, sIf, sAs, sFor, sPar, setAll, sFrz, sAug, lComp, wipeE, opAdd, opSub, opMul, opFdv, opMod, opPow, opEq, opNe, opLt, opLe, opGt, opGe, opIs, opIsn, isNon, opNeg, revD, ixD, slD, gLen, gAbs, gInt1, gMax2, gMin2, gSrt, LIM, gSum, gTup, gList, gIsi, tyName, instB, tyNames, iR1, iR2, iEn, iZp, iAdd, opt, ixN, kwPerm, finish, startE, opMul2, gSum2, cCnt, iZp2, cDix, cItK, keyD, dIf, dIfN, dEx, dPut, dAs, dFor, dRet, dComp, msk, bDc3, ofRd, lSDk, cStar, cPop, cIdxL, gMaxX_lst, gMaxX_tup, opLeT, -isNon, e3, hd]
noncomputable def firstL (W : List Int) (ls : List (List Int)) : List Int := keepN W.length (canB W ls)
theorem R_firsts_eq {W : List Int} {ls : List (List Int)} (h : SeaOk W ls) (M : Store) : R_firsts [.d (.tup (W.map .int)), .d (.tup (ls.map rowD))] M = .ok (.d (.tup ((firstL W ls).map .int))) M := by
  have h5 := h.five
  have e1 := R_check_season_eq h M
  have e := comp_rngC (M := M) (env0 := [some (.d (.tup (W.map .int))), some (.d (.tup (ls.map rowD))), none]) (k := 2) (ft := cTru (cCall R_can_be_first_by (cCons (cVar 0) (cCons (cVar 1) (cCons (cVar 2) (cNil)))))) (fe := cVar 2) (canB W ls) (fun i : Nat => .int (i : Int)) W.length fun i hi => by
    have e2 := R_can_be_first_by_eq h hi M
    generalize ls.map rowD = LD at e2 ⊢
    generalize W.map D.int = WD at e2 ⊢
    exact ⟨by simp [cVar, cK, cOp, cB, cCons, cNil, conts, cTup, lLst, cFz, cMt, pures, asB, cTru, tNt, tAn, tOr2, cAnd, cOr, cNot, cIf, cUn, cChain, oNo, oSm, cSl, lB, lIt, cIt, seqOf, lLR1, lLR2, lSS, ssL, lSX, lSY, opAnd, opBor, opShl, opShr, opIn, opNin, cCall, cCallK, cCallV, cApp, truth, tTrue, gN, gTp, gNil, gCons, gSt, sNil, sSeq, sEx, sRt, sRtN, sIf, sAs, sFor, sPar, setAll, sFrz, sAug, lComp, wipeE, opAdd, opSub, opMul, opFdv, opMod, opPow, opEq, opNe, opLt, opLe, opGt, opGe, opIs, opIsn, isNon, opNeg, revD, ixD, slD, gLen, gAbs, gInt1, gMax2, gMin2, gSrt, LIM, gSum, gTup, gList, gIsi, tyName, instB, tyNames, iR1, iR2, iEn, iZp, iAdd, opt, ixN, kwPerm, finish, startE, opMul2, gSum2, cCnt, iZp2, cDix, cItK, keyD, dIf, dIfN, dEx, dPut, dAs, dFor, dRet, dComp, msk, bDc3, ofRd, lSDk, cStar, cPop, cIdxL, gMaxX_lst, gMaxX_tup, opLeT, e2], fun _ => by simp [cVar, cK, cOp, cB, cCons, cNil, conts, cTup, lLst, cFz, cMt, pures, asB, cTru, tNt, tAn, tOr2, cAnd, cOr, cNot, cIf, cUn, cChain, oNo, oSm, cSl, lB, lIt, cIt, seqOf, lLR1, lLR2, lSS, ssL, lSX, lSY, opAnd, opBor, opShl, opShr, opIn, opNin, cCall, cCallK, cCallV, cApp, truth, tTrue, gN, gTp, gNil, gCons, gSt, sNil, sSeq, sEx, sRt, sRtN, sIf, sAs, sFor, sPar, setAll, sFrz, sAug, lComp, wipeE, opAdd, opSub, opMul, opFdv, opMod, opPow, opEq, opNe, opLt, opLe, opGt, opGe, opIs, opIsn, isNon, opNeg, revD, ixD, slD, gLen, gAbs, gInt1, gMax2, gMin2, gSrt, LIM, gSum, gTup, gList, gIsi, tyName, instB, tyNames, iR1, iR2, iEn, iZp, iAdd, opt, ixN, kwPerm, finish, startE, opMul2, gSum2, cCnt, iZp2, cDix, cItK, keyD, dIf, dIfN, dEx, dPut, dAs, dFor, dRet, dComp, msk, bDc3, ofRd, lSDk, cStar, cPop, cIdxL, gMaxX_lst, gMaxX_tup, opLeT]⟩
  have ef : (((List.range W.length).filter (canB W ls)).map fun i : Nat => D.int (i : Int)) = (firstL W ls).map .int := by
    unfold firstL keepN
    rw [List.map_map]; rfl
  rw [ef] at e
  have hfl : (firstL W ls).length ≤ W.length := (lotsR_in _ (keepN_lots _ _)).2.2
  have g1 : W.length ≤ 16777216 := by omega
  have g2 : (firstL W ls).length ≤ 16777216 := by omega
  have g3 : (W.length : Int) ≤ 16777216 := by omega
  have g4 : -16777216 ≤ (W.length : Int) := by omega
  generalize firstL W ls = F at e g2 ⊢
  generalize ls.map rowD = LD at e e1 ⊢
  simp [R_firsts, mkFn, B_firsts, cVar, cK, cOp, cB, cCons, cNil, conts, cTup, lLst, cFz, cMt, pures, asB, cTru, tNt, tAn, tOr2, cAnd, cOr, cNot, cIf, cUn, cChain, oNo, oSm, cSl, lB, lIt, cIt, seqOf, lLR1, lLR2, lSS, ssL, lSX, lSY, opAnd, opBor, opShl, opShr, opIn, opNin, cCall, cCallK, cCallV, cApp, truth, tTrue, gN, gTp, gNil, gCons, gSt, sNil, sSeq, sEx, sRt, sRtN, sIf, sAs, sFor, sPar, setAll, sFrz, sAug, lComp, wipeE, opAdd, opSub, opMul, opFdv, opMod, opPow, opEq, opNe, opLt, opLe, opGt, opGe, opIs, opIsn, isNon, opNeg, revD, ixD, slD, gLen, gAbs, gInt1, gMax2, gMin2, gSrt, LIM, gSum, gTup, gList, gIsi, tyName, instB, tyNames, iR1, iR2, iEn, iZp, iAdd, opt, ixN, kwPerm, finish, startE, opMul2, gSum2, cCnt, iZp2, cDix, cItK, keyD, dIf, dIfN, dEx, dPut, dAs, dFor, dRet, dComp, msk, bDc3, ofRd, lSDk, cStar, cPop, cIdxL, gMaxX_lst, gMaxX_tup, opLeT, e1, e, g1, g2, g3, g4]
theorem R_check_team_eq {W : List Int} {ls : List (List Int)} (h : SeaOk W ls) {t : Nat} (ht : t < W.length) (M : Store) : R_check_team [.d (.tup (W.map .int)), .d (.tup (ls.map rowD)), .d (.int t)] M = .ok (.d .non) M := by
  have h5 := h.five
  have e1 := R_check_season_eq h M
  have g1 : W.length ≤ 16777216 := by omega
  have c1 : (t : Int) ≤ (W.length : Int) - 1 := by omega
  generalize ls.map rowD = LD at e1 ⊢
  simp [R_check_team, mkFn, B_check_team, cVar, cK, cOp, cB, cCons, cNil, conts, cTup, lLst, cFz, cMt, pures, asB, cTru, tNt, tAn, tOr2, cAnd, cOr, cNot, cIf, cUn, cChain, oNo, oSm, cSl, lB, lIt, cIt, seqOf, lLR1, lLR2, lSS, ssL, lSX, lSY, opAnd, opBor, opShl, opShr, opIn, opNin, cCall, cCallK, cCallV, cApp, truth, tTrue, gN, gTp, gNil, gCons, gSt, sNil, sSeq, sEx, sRt, sRtN, sIf, sAs, sFor, sPar, setAll, sFrz, sAug, lComp, wipeE, opAdd, opSub, opMul, opFdv, opMod, opPow, opEq, opNe, opLt, opLe, opGt, opGe, opIs, opIsn, isNon, opNeg, revD, ixD, slD, gLen, gAbs, gInt1, gMax2, gMin2, gSrt, LIM, gSum, gTup, gList, gIsi, tyName, instB, tyNames, iR1, iR2, iEn, iZp, iAdd, opt, ixN, kwPerm, finish, startE, opMul2, gSum2, cCnt, iZp2, cDix, cItK, keyD, dIf, dIfN, dEx, dPut, dAs, dFor, dRet, dComp, msk, bDc3, ofRd, lSDk, cStar, cPop, cIdxL, gMaxX_lst, gMaxX_tup, opLeT, e1, g1, R_is_between_int, c1]
theorem R_can_be_first_eq {W : List Int} {ls : List (List Int)} (h : SeaOk W ls) {t : Nat} (ht : t < W.length) (M : Store) : R_can_be_first [.d (.tup (W.map .int)), .d (.tup (ls.map rowD)), .d (.int t)] M = .ok (.d (.bl (canB W ls t))) M := by
  have e1 := R_check_team_eq h ht M
  have e2 := R_can_be_first_by_eq h ht M
  simp [R_can_be_first, mkFn, B_can_be_first, cVar, cK, cOp, cB, cCons, cNil, conts, cTup, lLst, cFz, cMt, pures, asB, cTru, tNt, tAn, tOr2, cAnd, cOr, cNot, cIf, cUn, cChain, oNo, oSm, cSl, lB, lIt, cIt, seqOf, lLR1, lLR2, lSS, ssL, lSX, lSY, opAnd, opBor, opShl, opShr, opIn, opNin, cCall, cCallK, cCallV, cApp, truth, tTrue, gN, gTp, gNil, gCons, gSt, sNil, sSeq, sEx, sRt, sRtN, sIf, sAs, sFor, sPar, setAll, sFrz, sAug, lComp, wipeE, opAdd, opSub, opMul, opFdv, opMod, opPow, opEq, opNe, opLt, opLe, opGt, opGe, opIs, opIsn, isNon, opNeg, revD, ixD, slD, gLen, gAbs, gInt1, gMax2, gMin2, gSrt, LIM, gSum, gTup, gList, gIsi, tyName, instB, tyNames, iR1, iR2, iEn, iZp, iAdd, opt, ixN, kwPerm, finish, startE, opMul2, gSum2, cCnt, iZp2, cDix, cItK, keyD, dIf, dIfN, dEx, dPut, dAs, dFor, dRet, dComp, msk, bDc3, ofRd, lSDk, cStar, cPop, cIdxL, gMaxX_lst, gMaxX_tup, opLeT, e1, e2]
theorem R_most_wins_eq {W : List Int} {ls : List (List Int)} (h : SeaOk W ls) {t : Nat} (ht : t < W.length) (M : Store) : R_most_wins [.d (.tup (W.map .int)), .d (.tup (ls.map rowD)), .d (.int t)] M = .ok (.d (.int (W.getD t 0 + gL ls t))) M := by
  have e1 := R_check_team_eq h ht M
  have e2 := R_most_wins_by_eq h.row h.few ht M
  generalize W.getD t 0 + gL ls t = q at e2 ⊢
  simp [R_most_wins, mkFn, B_most_wins, cVar, cK, cOp, cB, cCons, cNil, conts, cTup, lLst, cFz, cMt, pures, asB, cTru, tNt, tAn, tOr2, cAnd, cOr, cNot, cIf, cUn, cChain, oNo, oSm, cSl, lB, lIt, cIt, seqOf, lLR1, lLR2, lSS, ssL, lSX, lSY, opAnd, opBor, opShl, opShr, opIn, opNin, cCall, cCallK, cCallV, cApp, truth, tTrue, gN, gTp, gNil, gCons, gSt, sNil, sSeq, sEx, sRt, sRtN, sIf, sAs, sFor, sPar, setAll, sFrz, sAug, lComp, wipeE, opAdd, opSub, opMul, opFdv, opMod, opPow, opEq, opNe, opLt, opLe, opGt, opGe, opIs, opIsn, isNon, opNeg, revD, ixD, slD, gLen, gAbs, gInt1, gMax2, gMin2, gSrt, LIM, gSum, gTup, gList, gIsi, tyName, instB, tyNames, iR1, iR2, iEn, iZp, iAdd, opt, ixN, kwPerm, finish, startE, opMul2, gSum2, cCnt, iZp2, cDix, cItK, keyD, dIf, dIfN, dEx, dPut, dAs, dFor, dRet, dComp, msk, bDc3, ofRd, lSDk, cStar, cPop, cIdxL, gMaxX_lst, gMaxX_tup, opLeT, e1, e2]
end PD.LW
namespace PD.LW
open PySem PySem.Spec PyProof.Rows L2 PD
/-! a truth value among some -/
theorem toPys_bls : ∀ bs : List Bool, toPys (bs.map D.bl) = some (bs.map .bool)
  | [] => rfl
  | b :: bs => by
    rw [List.map_cons]
    show (match toPy (.bl b), toPys (bs.map D.bl) with | some p, some ps => some (p :: ps) | _, _ => none) = _
    rw [toPys_bls bs]; rfl
theorem lay_bls : ∀ bs : List Bool, PyData.canLayAll0 (bs.map .bool) = true ∧ PyData.depthAll (bs.map .bool) = 0
  | [] => ⟨rfl, rfl⟩
  | b :: bs => by
    obtain ⟨h1, h2⟩ := lay_bls bs
    refine ⟨?_, ?_⟩
    · show (PyData.canLay0 (.bool b) && PyData.canLayAll0 (bs.map .bool)) = true
      rw [h1]; rfl
    · show max (PyData.depth (.bool b)) (PyData.depthAll (bs.map .bool)) = 0
      rw [h2]; rfl
theorem shaped_bls (bs : List Bool) : SeqAt.shaped (.list (bs.map PyData.bool)) = true := by
  obtain ⟨h1, h2⟩ := lay_bls bs
  show (PyData.canLayAll0 (bs.map .bool) && decide (PyData.depthAll (bs.map .bool) + 1 ≤ 64)) = true
  rw [h1, h2]; rfl
theorem any_bls : ∀ bs : List Bool, (bs.map PyData.bool).any (fun z => PyData.eqv z (.bool true)) = bs.any id
  | [] => rfl
  | b :: bs => by
    rw [List.map_cons, List.any_cons, any_bls bs, List.any_cons]
    cases b <;> rfl
theorem inD_bls (bs : List Bool) : inD (.bl true) (.lst (bs.map D.bl)) = some (bs.any id) := by
  unfold inD
  simp only [toPy, toPys_bls, Option.map_some]
  rw [if_pos ⟨rfl, shaped_bls bs⟩, any_bls]
/-! results as told -/
def rowK : List (List Int) → List Int → List (List Int)
  | [_, _, m] :: ls, k :: ks => [k, m - k] :: rowK ls ks
  | _, _ => []
def resD (ls : List (List Int)) (ks : List Int) : D := .tup ((rowK ls ks).map rowD)
def Tri (ls : List (List Int)) : Prop := ∀ r ∈ ls, ∃ a b m : Int, r = [a, b, m] ∧ 0 ≤ m ∧ m ≤ 2
theorem rowK_len : ∀ {ls : List (List Int)} {ks : List Int}, KsOk ls ks → (rowK ls ks).length = ls.length ∧ ks.length = ls.length
  | [], [], _ => ⟨rfl, rfl⟩
  | [], _ :: _, h => h.elim
  | [_, _, _] :: _, [], h => h.elim
  | [] :: _, _, h => h.elim
  | [_] :: _, _, h => h.elim
  | [_, _] :: _, _, h => h.elim
  | (_ :: _ :: _ :: _ :: _) :: _, _, h => h.elim
  | [_, _, m] :: ls, k :: ks, h => by
    obtain ⟨_, _, h2⟩ := h
    have ih := rowK_len h2
    exact ⟨by show (rowK ls ks).length + 1 = _; rw [ih.1]; rfl, by rw [List.length_cons, ih.2]; rfl⟩
theorem ks_snoc : ∀ {ls : List (List Int)} {ks : List Int} {a b m w : Int}, KsOk ls ks → 0 ≤ w → w ≤ m → KsOk (ls ++ [[a, b, m]]) (ks ++ [w]) ∧ rowK (ls ++ [[a, b, m]]) (ks ++ [w]) = rowK ls ks ++ [[w, m - w]]
  | [], [], a, b, m, w, _, h0, h1 => ⟨⟨h0, h1, trivial⟩, rfl⟩
  | [], _ :: _, _, _, _, _, h, _, _ => h.elim
  | [_, _, _] :: _, [], _, _, _, _, h, _, _ => h.elim
  | [] :: _, _, _, _, _, _, h, _, _ => h.elim
  | [_] :: _, _, _, _, _, _, h, _, _ => h.elim
  | [_, _] :: _, _, _, _, _, _, h, _, _ => h.elim
  | (_ :: _ :: _ :: _ :: _) :: _, _, _, _, _, _, h, _, _ => h.elim
  | [_, _, m'] :: ls, k :: ks, a, b, m, w, h, h0, h1 => by
    obtain ⟨k0, k1, h2⟩ := h
    obtain ⟨i1, i2⟩ := ks_snoc (a := a) (b := b) h2 h0 h1
    refine ⟨⟨k0, k1, i1⟩, ?_⟩
    show [k, m' - k] :: rowK (ls ++ [[a, b, m]]) (ks ++ [w]) = _
    rw [i2]; rfl
theorem ks_unsnoc : ∀ {ls : List (List Int)} {ks : List Int} {a b m : Int}, KsOk (ls ++ [[a, b, m]]) ks → ∃ ks' w, ks = ks' ++ [w] ∧ KsOk ls ks' ∧ 0 ≤ w ∧ w ≤ m
  | [], [k], a, b, m, h => ⟨[], k, rfl, trivial, h.1, h.2.1⟩
  | [], [], _, _, _, h => h.elim
  | [], _ :: _ :: _, _, _, _, h => h.2.2.elim
  | [_, _, _] :: _, [], _, _, _, h => h.elim
  | [] :: _, _, _, _, _, h => h.elim
  | [_] :: _, _, _, _, _, h => h.elim
  | [_, _] :: _, _, _, _, _, h => h.elim
  | (_ :: _ :: _ :: _ :: _) :: _, _, _, _, _, h => h.elim
  | [_, _, m'] :: ls, k :: ks, a, b, m, h => by
    obtain ⟨k0, k1, h2⟩ := h
    obtain ⟨ks', w, rfl, i1, i2, i3⟩ := ks_unsnoc (ls := ls) h2
    exact ⟨k :: ks', w, rfl, ⟨k0, k1, i1⟩, i2, i3⟩
structure Full (done : List (List Int)) (F : List (List Int)) : Prop where
  ok : ∀ ks ∈ F, KsOk done ks
  all : ∀ ks, KsOk done ks → ks ∈ F
  few : F.length ≤ 3 ^ done.length
def nextF (m : Nat) (F : List (List Int)) : List (List Int) := F.flatMap fun ks => (List.range (m + 1)).map fun w : Nat => ks ++ [(w : Int)]
theorem Full.next {done F : List (List Int)} (h : Full done F) {a b : Int} {m : Nat} (hm : m ≤ 2) : Full (done ++ [[a, b, (m : Int)]]) (nextF m F) := by
  refine ⟨fun ks hk => ?_, fun ks hk => ?_, ?_⟩
  · obtain ⟨ks', h1, h2⟩ := List.mem_flatMap.mp hk
    obtain ⟨w, hw, rfl⟩ := List.mem_map.mp h2
    rw [List.mem_range] at hw
    exact (ks_snoc (h.ok ks' h1) (by omega) (by omega)).1
  · obtain ⟨ks', w, rfl, i1, i2, i3⟩ := ks_unsnoc hk
    obtain ⟨w, rfl⟩ := Int.eq_ofNat_of_zero_le i2
    exact List.mem_flatMap.mpr ⟨ks', h.all ks' i1, List.mem_map.mpr ⟨w, List.mem_range.mpr (by omega), rfl⟩⟩
  · have : ∀ F : List (List Int), (nextF m F).length = F.length * (m + 1) := fun F => by
      induction F with
      | nil => simp [nextF]
      | cons x F ih =>
        unfold nextF at ih ⊢
        rw [List.flatMap_cons, List.length_append, ih, List.length_map, List.length_range, List.length_cons, Nat.add_mul]; omega
    rw [this, List.length_append, List.length_singleton, Nat.pow_succ]
    exact Nat.mul_le_mul h.few (by omega)
def nextD (m : Nat) (zs : List (List D)) : List D := zs.flatMap fun R => (List.range (m + 1)).map fun w : Nat => D.tup (R ++ [.tup [.int w, .int ((m : Int) - w)]])
theorem nextD_len (m : Nat) : ∀ zs : List (List D), (nextD m zs).length = zs.length * (m + 1)
  | [] => by simp [nextD]
  | x :: zs => by
    have ih := nextD_len m zs
    unfold nextD at ih ⊢
    rw [List.flatMap_cons, List.length_append, ih, List.length_map, List.length_range, List.length_cons, Nat.add_mul]; omega
theorem nextD_snoc (m : Nat) (d1 : List (List D)) (R : List D) : nextD m (d1 ++ [R]) = nextD m d1 ++ ((List.range (m + 1)).map fun w : Nat => D.tup (R ++ [.tup [.int w, .int ((m : Int) - w)]])) := by
  unfold nextD
  rw [List.flatMap_append]
  congr 1
  simp
theorem range_of {fe : DE} {env : Ev} {k : Nat} {M : Store} (ev : fe env M = .ok (.d (.int (k : Int))) M) (gm1 : (k : Int) ≤ 16777216) (gm2 : -16777216 ≤ (k : Int)) (gm3 : k ≤ 16777216) : (lB iR1 (cCons fe (cNil)) : DL) env M = .ok (rngD 0 k) M := by
  simp [lB, cCons, cNil, ev, conts, iR1, gm1, gm2, gm3]
theorem step_of {LD FD N1 N2 R : List D} {a b m : Int} {k : Nat} {fi : DL} {M : Store}
  (er : fi [some (.d (.tup LD)), some (.d (.lst FD)), some (.d (.int a)), some (.d (.int b)), some (.d (.int m)), some (.d (.lst N1)), some (.d (.tup R)), none] M = .ok (rngD 0 k) M)
  (ec : compL [some (.d (.tup LD)), some (.d (.lst FD)), some (.d (.int a)), some (.d (.int b)), some (.d (.int m)), some (.d (.lst N1)), some (.d (.tup R)), none] (gN 7) tTrue (cOp opAdd (cVar 6) (cTup (cCons (cTup (cCons (cVar 7) (cCons (cOp opSub (cVar 4) (cVar 7)) (cNil)))) (cNil)))) (rngD 0 k) M = .ok N2 M)
  (g7 : N1.length + N2.length ≤ 16777216) (g8 : N2.length ≤ 16777216) (g9 : N1.length ≤ 16777216) (gm3 : k ≤ 16777216) :
   (sAs (cOp opAdd (cVar 5) (cFz (lComp fi [7] (gN 7) (tTrue) (cOp opAdd (cVar 6) (cTup (cCons (cTup (cCons (cVar 7) (cCons (cOp opSub (cVar 4) (cVar 7)) (cNil)))) (cNil))))))) (gN 5)) [some (.d (.tup LD)), some (.d (.lst FD)), some (.d (.int a)), some (.d (.int b)), some (.d (.int m)), some (.d (.lst N1)), some (.d (.tup R)), none] M = .nx [some (.d (.tup LD)), some (.d (.lst FD)), some (.d (.int a)), some (.d (.int b)), some (.d (.int m)), some (.d (.lst (N1 ++ N2))), some (.d (.tup R)), none] M := by
  simp [cVar, cK, cOp, cB, cCons, cNil, conts, cTup, lLst, cFz, cMt, pures, asB, cTru, tNt, tAn, tOr2, cAnd, cOr, cNot, cIf, cUn, cChain, oNo, oSm, cSl, lB, lIt, cIt, seqOf, lLR1, lLR2, lSS, ssL, lSX, lSY, opAnd, opBor, opShl, opShr, opIn, opNin, cCall, cCallK, cCallV, cApp, truth, tTrue, gN, gTp, gNil, gCons, gSt, sNil, sSeq, sEx, sRt, sRtN, sIf, sAs, sFor, sPar, setAll, sFrz, sAug, lComp, wipeE, opAdd, opSub, opMul, opFdv, opMod, opPow, opEq, opNe, opLt, opLe, opGt, opGe, opIs, opIsn, isNon, opNeg, revD, ixD, slD, gLen, gAbs, gInt1, gMax2, gMin2, gSrt, LIM, gSum, gTup, gList, gIsi, tyName, instB, tyNames, iR1, iR2, iEn, iZp, iAdd, opt, ixN, kwPerm, finish, startE, opMul2, gSum2, cCnt, iZp2, cDix, cItK, keyD, dIf, dIfN, dEx, dPut, dAs, dFor, dRet, dComp, msk, bDc3, ofRd, lSDk, cStar, cPop, cIdxL, gMaxX_lst, gMaxX_tup, opLeT, er, ec, g7, g8, g9, gm3]
theorem inc_of {LD FD N1 R : List D} {a b m : Int} (M : Store) : (cOp opAdd (cVar 4) (cK (.int 1)) : DE) [some (.d (.tup LD)), some (.d (.lst FD)), some (.d (.int a)), some (.d (.int b)), some (.d (.int m)), some (.d (.lst N1)), some (.d (.tup R)), none] M = .ok (.d (.int (m + 1))) M := by
  simp [cOp, cVar, cK, opAdd, conts]
theorem comp_of' {LD FD N1 R : List D} {a b m : Int} (gR : R.length + 1 ≤ 16777216) (k : Nat) (M : Store) : compL [some (.d (.tup LD)), some (.d (.lst FD)), some (.d (.int a)), some (.d (.int b)), some (.d (.int m)), some (.d (.lst N1)), some (.d (.tup R)), none] (gN 7) tTrue (cOp opAdd (cVar 6) (cTup (cCons (cTup (cCons (cVar 7) (cCons (cOp opSub (cVar 4) (cVar 7)) (cNil)))) (cNil)))) (rngD 0 k) M = .ok ((List.range k).map fun w : Nat => D.tup (R ++ [.tup [.int w, .int (m - w)]])) M :=
  comp_rng (M := M) (env0 := [some (.d (.tup LD)), some (.d (.lst FD)), some (.d (.int a)), some (.d (.int b)), some (.d (.int m)), some (.d (.lst N1)), some (.d (.tup R)), none]) (k := 7) (fe := (cOp opAdd (cVar 6) (cTup (cCons (cTup (cCons (cVar 7) (cCons (cOp opSub (cVar 4) (cVar 7)) (cNil)))) (cNil))))) (fun w : Nat => D.tup (R ++ [.tup [.int w, .int (m - w)]])) k fun w hw => by simp [cVar, cK, cOp, cB, cCons, cNil, conts, cTup, lLst, cFz, cMt, pures, asB, cTru, tNt, tAn, tOr2, cAnd, cOr, cNot, cIf, cUn, cChain, oNo, oSm, cSl, lB, lIt, cIt, seqOf, lLR1, lLR2, lSS, ssL, lSX, lSY, opAnd, opBor, opShl, opShr, opIn, opNin, cCall, cCallK, cCallV, cApp, truth, tTrue, gN, gTp, gNil, gCons, gSt, sNil, sSeq, sEx, sRt, sRtN, sIf, sAs, sFor, sPar, setAll, sFrz, sAug, lComp, wipeE, opAdd, opSub, opMul, opFdv, opMod, opPow, opEq, opNe, opLt, opLe, opGt, opGe, opIs, opIsn, isNon, opNeg, revD, ixD, slD, gLen, gAbs, gInt1, gMax2, gMin2, gSrt, LIM, gSum, gTup, gList, gIsi, tyName, instB, tyNames, iR1, iR2, iEn, iZp, iAdd, opt, ixN, kwPerm, finish, startE, opMul2, gSum2, cCnt, iZp2, cDix, cItK, keyD, dIf, dIfN, dEx, dPut, dAs, dFor, dRet, dComp, msk, bDc3, ofRd, lSDk, cStar, cPop, cIdxL, gMaxX_lst, gMaxX_tup, opLeT, gR]
theorem inner_step {LD FD N1 R : List D} {a b : Int} {m : Nat} (hm : m ≤ 2) (hR : R.length ≤ 100) (hn1 : N1.length ≤ 243) (M : Store) :
    F_law_all_results_1 [some (.d (.tup LD)), some (.d (.lst FD)), some (.d (.int a)), some (.d (.int b)), some (.d (.int (m : Int))), some (.d (.lst N1)), some (.d (.tup R)), none] M =
      .nx [some (.d (.tup LD)), some (.d (.lst FD)), some (.d (.int a)), some (.d (.int b)), some (.d (.int (m : Int))), some (.d (.lst (N1 ++ (List.range (m + 1)).map fun w : Nat => D.tup (R ++ [.tup [.int w, .int ((m : Int) - w)]])))), some (.d (.tup R)), none] M := by
  have g6 : ((List.range (m + 1)).map fun w : Nat => D.tup (R ++ [.tup [.int w, .int ((m : Int) - w)]])).length ≤ 3 := by rw [List.length_map, List.length_range]; omega
  have ev := inc_of (LD := LD) (FD := FD) (N1 := N1) (R := R) (a := a) (b := b) (m := (m : Int)) M
  have em : (m : Int) + 1 = ((m + 1 : Nat) : Int) := (Int.natCast_succ m).symm
  rw [em] at ev
  exact step_of (range_of ev (by omega) (by omega) (by omega)) (comp_of' (by omega) (m + 1) M) (by omega) (by omega) (by omega) (by omega)
theorem all_inner {LD : List D} {a b : Int} {m : Nat} (hm : m ≤ 2) {zs : List (List D)} (hz : ∀ R ∈ zs, R.length ≤ 100) (hzl : zs.length ≤ 81) {x5 x6 : Option W} {M : Store} {t : W → Store → Prop} :
    OkS (F_law_all_results_2 [some (.d (.tup LD)), some (.d (.lst (zs.map .tup))), some (.d (.int a)), some (.d (.int b)), some (.d (.int (m : Int))), x5, x6, none] M)
      (fun env M' => M' = M ∧ ∃ v5 v6, env = [some (.d (.tup LD)), some (.d (.lst (nextD m zs))), some (.d (.int a)), some (.d (.int b)), some (.d (.int (m : Int))), v5, v6, none]) t := by
  unfold F_law_all_results_2
  refine OkS_seq fun n3 k3 => ?_
  simp [cVar, cK, cOp, cB, cCons, cNil, conts, cTup, lLst, cFz, cMt, pures, asB, cTru, tNt, tAn, tOr2, cAnd, cOr, cNot, cIf, cUn, cChain, oNo, oSm, cSl, lB, lIt, cIt, seqOf, lLR1, lLR2, lSS, ssL, lSX, lSY, opAnd, opBor, opShl, opShr, opIn, opNin, cCall, cCallK, cCallV, cApp, truth, tTrue, gN, gTp, gNil, gCons, gSt, sNil, sSeq, sEx, sRt, sRtN, sIf, sAs, sFor, sPar, setAll, sFrz, sAug, lComp, wipeE, opAdd, opSub, opMul, opFdv, opMod, opPow, opEq, opNe, opLt, opLe, opGt, opGe, opIs, opIsn, isNon, opNeg, revD, ixD, slD, gLen, gAbs, gInt1, gMax2, gMin2, gSrt, LIM, gSum, gTup, gList, gIsi, tyName, instB, tyNames, iR1, iR2, iEn, iZp, iAdd, opt, ixN, kwPerm, finish, startE, opMul2, gSum2, cCnt, iZp2, cDix, cItK, keyD, dIf, dIfN, dEx, dPut, dAs, dFor, dRet, dComp, msk, bDc3, ofRd, lSDk, cStar, cPop, cIdxL, gMaxX_lst, gMaxX_tup, opLeT]
  apply k3
  refine OkS_seq fun n4 k4 => ?_
  unfold sFor
  obtain ⟨FD, hFD⟩ : ∃ FD, FD = zs.map D.tup := ⟨_, rfl⟩
  have gF : FD.length ≤ 16777216 := by rw [hFD, List.length_map]; omega
  rw [← hFD]
  have e1 : cIt (cVar 1) [some (.d (.tup LD)), some (.d (.lst FD)), some (.d (.int a)), some (.d (.int b)), some (.d (.int (m : Int))), some (.d (.lst [])), x6, none] M = .ok (zs.map D.tup) M := by
    rw [← hFD]
    simp [cVar, cK, cOp, cB, cCons, cNil, conts, cTup, lLst, cFz, cMt, pures, asB, cTru, tNt, tAn, tOr2, cAnd, cOr, cNot, cIf, cUn, cChain, oNo, oSm, cSl, lB, lIt, cIt, seqOf, lLR1, lLR2, lSS, ssL, lSX, lSY, opAnd, opBor, opShl, opShr, opIn, opNin, cCall, cCallK, cCallV, cApp, truth, tTrue, gN, gTp, gNil, gCons, gSt, sNil, sSeq, sEx, sRt, sRtN, sIf, sAs, sFor, sPar, setAll, sFrz, sAug, lComp, wipeE, opAdd, opSub, opMul, opFdv, opMod, opPow, opEq, opNe, opLt, opLe, opGt, opGe, opIs, opIsn, isNon, opNeg, revD, ixD, slD, gLen, gAbs, gInt1, gMax2, gMin2, gSrt, LIM, gSum, gTup, gList, gIsi, tyName, instB, tyNames, iR1, iR2, iEn, iZp, iAdd, opt, ixN, kwPerm, finish, startE, opMul2, gSum2, cCnt, iZp2, cDix, cItK, keyD, dIf, dIfN, dEx, dPut, dAs, dFor, dRet, dComp, msk, bDc3, ofRd, lSDk, cStar, cPop, cIdxL, gMaxX_lst, gMaxX_tup, opLeT, gF]
  rw [e1, OkS_ofR, Ok_ok]
  refine OkS_loop (fun r env M'' => M'' = M ∧ ∃ (d1 ys : List (List D)), r = ys.map D.tup ∧ zs = d1 ++ ys ∧ ∃ x6, env = [some (.d (.tup LD)), some (.d (.lst FD)), some (.d (.int a)), some (.d (.int b)), some (.d (.int (m : Int))), some (.d (.lst (nextD m d1))), x6, none]) _ _ _ ⟨rfl, [], zs, rfl, rfl, _, rfl⟩ ?_ ?_
  · rintro d r env M'' ⟨rfl, d1, ys, er, hzz, x6, rfl⟩
    cases ys with
    | nil => cases er
    | cons R ys =>
      rw [List.map_cons, List.cons.injEq] at er
      obtain ⟨rfl, rfl⟩ := er
      refine ⟨_, rfl, ?_⟩
      have hR := hz R (by rw [hzz]; simp)
      have hd1 : d1.length ≤ 81 := by
        have := congrArg List.length hzz
        rw [List.length_append] at this
        omega
      have hn1 : (nextD m d1).length ≤ 243 := by
        rw [nextD_len]
        have := Nat.mul_le_mul hd1 (by omega : m + 1 ≤ 3)
        omega
      have fin2 : ∀ v6, M'' = M'' ∧ ∃ (d1' ys' : List (List D)), ys.map D.tup = ys'.map D.tup ∧ zs = d1' ++ ys' ∧ ∃ x6, ([some (.d (.tup LD)), some (.d (.lst FD)), some (.d (.int a)), some (.d (.int b)), some (.d (.int (m : Int))), some (.d (.lst (nextD m (d1 ++ [R])))), v6, none] : Ev) = [some (.d (.tup LD)), some (.d (.lst FD)), some (.d (.int a)), some (.d (.int b)), some (.d (.int (m : Int))), some (.d (.lst (nextD m d1'))), x6, none] := fun v6 => ⟨rfl, d1 ++ [R], ys, rfl, by rw [hzz]; simp, v6, rfl⟩
      rw [nextD_snoc] at fin2
      have es := inner_step (LD := LD) (FD := FD) (a := a) (b := b) hm hR hn1 M''
      show OkS (F_law_all_results_1 [some (.d (.tup LD)), some (.d (.lst FD)), some (.d (.int a)), some (.d (.int b)), some (.d (.int (m : Int))), some (.d (.lst (nextD m d1))), some (.d (.tup R)), none] M'') _ _
      rw [es, OkS_nx]
      exact fin2 _
  · rintro env M'' ⟨rfl, d1, ys, er, hzz, x6, rfl⟩
    cases ys with
    | cons z zs => cases er
    | nil =>
      rw [List.append_nil] at hzz
      subst hzz
      apply k4
      generalize nextD m zs = ND
      simp [cVar, cK, cOp, cB, cCons, cNil, conts, cTup, lLst, cFz, cMt, pures, asB, cTru, tNt, tAn, tOr2, cAnd, cOr, cNot, cIf, cUn, cChain, oNo, oSm, cSl, lB, lIt, cIt, seqOf, lLR1, lLR2, lSS, ssL, lSX, lSY, opAnd, opBor, opShl, opShr, opIn, opNin, cCall, cCallK, cCallV, cApp, truth, tTrue, gN, gTp, gNil, gCons, gSt, sNil, sSeq, sEx, sRt, sRtN, sIf, sAs, sFor, sPar, setAll, sFrz, sAug, lComp, wipeE, opAdd, opSub, opMul, opFdv, opMod, opPow, opEq, opNe, opLt, opLe, opGt, opGe, opIs, opIsn, isNon, opNeg, revD, ixD, slD, gLen, gAbs, gInt1, gMax2, gMin2, gSrt, LIM, gSum, gTup, gList, gIsi, tyName, instB, tyNames, iR1, iR2, iEn, iZp, iAdd, opt, ixN, kwPerm, finish, startE, opMul2, gSum2, cCnt, iZp2, cDix, cItK, keyD, dIf, dIfN, dEx, dPut, dAs, dFor, dRet, dComp, msk, bDc3, ofRd, lSDk, cStar, cPop, cIdxL, gMaxX_lst, gMaxX_tup, opLeT]
theorem next_eq {done F : List (List Int)} (h : ∀ ks ∈ F, KsOk done ks) (a b : Int) (m : Nat) : nextD m (F.map fun ks => (rowK done ks).map rowD) = (nextF m F).map (resD (done ++ [[a, b, (m : Int)]])) := by
  induction F with
  | nil => rfl
  | cons ks F ih =>
    have ih := ih fun z hz => h z (List.mem_cons_of_mem _ hz)
    unfold nextD nextF at ih ⊢
    rw [List.map_cons, List.flatMap_cons, List.flatMap_cons, List.map_append, ih, List.map_map]
    congr 1
    refine List.map_congr_left fun w hw => ?_
    rw [List.mem_range] at hw
    have es := (ks_snoc (a := a) (b := b) (m := (m : Int)) (w := (w : Int)) (h ks (by simp)) (by omega) (by omega)).2
    show _ = resD (done ++ [[a, b, (m : Int)]]) (ks ++ [(w : Int)])
    unfold resD
    rw [es, List.map_append]; rfl
theorem res_map (done : List (List Int)) (F : List (List Int)) : F.map (resD done) = (F.map fun ks => (rowK done ks).map rowD).map D.tup := by
  rw [List.map_map]; rfl
theorem full_nil : Full [] [[]] := ⟨fun ks hk => by rw [List.mem_singleton.mp hk]; trivial, fun ks hk => by
  cases ks with
  | nil => simp
  | cons k ks => exact hk.elim, by decide⟩
theorem R__law_all_results_eq {ls : List (List Int)} (ht : Tri ls) (hf : ls.length ≤ 5) (M : Store) : ∃ F, Full ls F ∧ R__law_all_results [.d (.tup (ls.map rowD))] M = .ok (.d (.lst (F.map (resD ls)))) M := by
  have key : Ok (R__law_all_results [.d (.tup (ls.map rowD))] M) fun w M' => M' = M ∧ ∃ F, Full ls F ∧ w = .d (.lst (F.map (resD ls))) := by
    refine Ok_fn rfl ?_
    refine OkS_seq fun n1 k1 => ?_
    simp [cVar, cK, cOp, cB, cCons, cNil, conts, cTup, lLst, cFz, cMt, pures, asB, cTru, tNt, tAn, tOr2, cAnd, cOr, cNot, cIf, cUn, cChain, oNo, oSm, cSl, lB, lIt, cIt, seqOf, lLR1, lLR2, lSS, ssL, lSX, lSY, opAnd, opBor, opShl, opShr, opIn, opNin, cCall, cCallK, cCallV, cApp, truth, tTrue, gN, gTp, gNil, gCons, gSt, sNil, sSeq, sEx, sRt, sRtN, sIf, sAs, sFor, sPar, setAll, sFrz, sAug, lComp, wipeE, opAdd, opSub, opMul, opFdv, opMod, opPow, opEq, opNe, opLt, opLe, opGt, opGe, opIs, opIsn, isNon, opNeg, revD, ixD, slD, gLen, gAbs, gInt1, gMax2, gMin2, gSrt, LIM, gSum, gTup, gList, gIsi, tyName, instB, tyNames, iR1, iR2, iEn, iZp, iAdd, opt, ixN, kwPerm, finish, startE, opMul2, gSum2, cCnt, iZp2, cDix, cItK, keyD, dIf, dIfN, dEx, dPut, dAs, dFor, dRet, dComp, msk, bDc3, ofRd, lSDk, cStar, cPop, cIdxL, gMaxX_lst, gMaxX_tup, opLeT]
    apply k1
    refine OkS_seq fun n2 k2 => ?_
    unfold sFor
    obtain ⟨LD, hLD⟩ : ∃ LD, LD = ls.map rowD := ⟨_, rfl⟩
    have gL : LD.length ≤ 16777216 := by rw [hLD, List.length_map]; omega
    rw [← hLD]
    have e0 : cIt (cVar 0) [some (.d (.tup LD)), some (.d (.lst [.tup []])), none, none, none, none, none, none] M = .ok (ls.map rowD) M := by
      rw [← hLD]
      simp [cVar, cK, cOp, cB, cCons, cNil, conts, cTup, lLst, cFz, cMt, pures, asB, cTru, tNt, tAn, tOr2, cAnd, cOr, cNot, cIf, cUn, cChain, oNo, oSm, cSl, lB, lIt, cIt, seqOf, lLR1, lLR2, lSS, ssL, lSX, lSY, opAnd, opBor, opShl, opShr, opIn, opNin, cCall, cCallK, cCallV, cApp, truth, tTrue, gN, gTp, gNil, gCons, gSt, sNil, sSeq, sEx, sRt, sRtN, sIf, sAs, sFor, sPar, setAll, sFrz, sAug, lComp, wipeE, opAdd, opSub, opMul, opFdv, opMod, opPow, opEq, opNe, opLt, opLe, opGt, opGe, opIs, opIsn, isNon, opNeg, revD, ixD, slD, gLen, gAbs, gInt1, gMax2, gMin2, gSrt, LIM, gSum, gTup, gList, gIsi, tyName, instB, tyNames, iR1, iR2, iEn, iZp, iAdd, opt, ixN, kwPerm, finish, startE, opMul2, gSum2, cCnt, iZp2, cDix, cItK, keyD, dIf, dIfN, dEx, dPut, dAs, dFor, dRet, dComp, msk, bDc3, ofRd, lSDk, cStar, cPop, cIdxL, gMaxX_lst, gMaxX_tup, opLeT, gL]
    rw [e0, OkS_ofR, Ok_ok]
    refine OkS_loop (fun r env M' => M' = M ∧ ∃ (done ys F : List (List Int)), r = ys.map rowD ∧ ls = done ++ ys ∧ Full done F ∧ ∃ x2 x3 x4 x5 x6, env = [some (.d (.tup LD)), some (.d (.lst (F.map (resD done)))), x2, x3, x4, x5, x6, none]) _ _ _ ⟨rfl, [], ls, [[]], rfl, rfl, full_nil, _, _, _, _, _, rfl⟩ ?_ ?_
    · rintro d r env M' ⟨rfl, done, ys, F, er, hd, hF, x2, x3, x4, x5, x6, rfl⟩
      cases ys with
      | nil => cases er
      | cons y ys =>
        rw [List.map_cons, List.cons.injEq] at er
        obtain ⟨rfl, rfl⟩ := er
        obtain ⟨a, b, m, rfl, m0, m2⟩ := ht y (by rw [hd]; simp)
        obtain ⟨m, rfl⟩ := Int.eq_ofNat_of_zero_le m0
        have m2 : m ≤ 2 := by omega
        refine ⟨_, rfl, ?_⟩
        have hdl : done.length ≤ 4 := by
          have := congrArg List.length hd
          rw [List.length_append, List.length_cons] at this
          omega
        have hFl : F.length ≤ 81 := Nat.le_trans hF.few (Nat.le_trans (Nat.pow_le_pow_right (by decide) hdl) (by decide))
        rw [res_map]
        refine (all_inner (LD := LD) (a := a) (b := b) (m := m) (x5 := x5) (x6 := x6) m2 (zs := F.map fun ks => (rowK done ks).map rowD) (fun R hR => ?_) (by rw [List.length_map]; exact hFl)).mono ?_ fun _ _ hh => hh
        · obtain ⟨ks, hks, rfl⟩ := List.mem_map.mp hR
          rw [List.length_map, (@rowK_len done ks (hF.ok ks hks)).1]
          omega
        · rintro env M2 ⟨rfl, v5, v6, rfl⟩
          rw [next_eq hF.ok a b m]
          exact ⟨rfl, done ++ [[a, b, (m : Int)]], ys, nextF m F, rfl, by rw [hd]; simp, hF.next m2, _, _, _, _, _, rfl⟩
    · rintro env M' ⟨rfl, done, ys, F, er, hd, hF, x2, x3, x4, x5, x6, rfl⟩
      cases ys with
      | cons z ys => cases er
      | nil =>
        rw [List.append_nil] at hd
        subst hd
        apply k2
        obtain ⟨FD, hFD⟩ : ∃ FD, FD = F.map (resD ls) := ⟨_, rfl⟩
        rw [← hFD]
        simp [cVar, cK, cOp, cB, cCons, cNil, conts, cTup, lLst, cFz, cMt, pures, asB, cTru, tNt, tAn, tOr2, cAnd, cOr, cNot, cIf, cUn, cChain, oNo, oSm, cSl, lB, lIt, cIt, seqOf, lLR1, lLR2, lSS, ssL, lSX, lSY, opAnd, opBor, opShl, opShr, opIn, opNin, cCall, cCallK, cCallV, cApp, truth, tTrue, gN, gTp, gNil, gCons, gSt, sNil, sSeq, sEx, sRt, sRtN, sIf, sAs, sFor, sPar, setAll, sFrz, sAug, lComp, wipeE, opAdd, opSub, opMul, opFdv, opMod, opPow, opEq, opNe, opLt, opLe, opGt, opGe, opIs, opIsn, isNon, opNeg, revD, ixD, slD, gLen, gAbs, gInt1, gMax2, gMin2, gSrt, LIM, gSum, gTup, gList, gIsi, tyName, instB, tyNames, iR1, iR2, iEn, iZp, iAdd, opt, ixN, kwPerm, finish, startE, opMul2, gSum2, cCnt, iZp2, cDix, cItK, keyD, dIf, dIfN, dEx, dPut, dAs, dFor, dRet, dComp, msk, bDc3, ofRd, lSDk, cStar, cPop, cIdxL, gMaxX_lst, gMaxX_tup, opLeT]
        exact ⟨F, hF, hFD⟩
  obtain ⟨w, M', e, rfl, F, hF, rfl⟩ := key.ex
  exact ⟨F, hF, e⟩
end PD.LW
namespace PD.LW
open PySem PySem.Spec PyProof.Rows L2 PD
theorem R__law_is_in_int (i lo hi : Int) (M : Store) : R__law_is_in [.d (.int i), .d (.int lo), .d (.int hi)] M = .ok (.d (.bl (decide (lo ≤ i) && decide (i ≤ hi)))) M := by
  have e : R__law_is_num [.d (.int i)] M = .ok (.d (.bl true)) M := by
    simp [R__law_is_num, mkFn, B__law_is_num, cVar, cK, cOp, cB, cCons, cNil, conts, cTup, lLst, cFz, cMt, pures, asB, cTru, tNt, tAn, tOr2, cAnd, cOr, cNot, cIf, cUn, cChain, oNo, oSm, cSl, lB, lIt, cIt, seqOf, lLR1, lLR2, lSS, ssL, lSX, lSY, opAnd, opBor, opShl, opShr, opIn, opNin, cCall, cCallK, cCallV, cApp, truth, tTrue, gN, gTp, gNil, gCons, gSt, sNil, sSeq, sEx, sRt, sRtN, sIf, sAs, sFor, sPar, setAll, sFrz, sAug, lComp, wipeE, opAdd, opSub, opMul, opFdv, opMod, opPow, opEq, opNe, opLt, opLe, opGt, opGe, opIs, opIsn, isNon, opNeg, revD, ixD, slD, gLen, gAbs, gInt1, gMax2, gMin2, gSrt, LIM, gSum, gTup, gList, gIsi, tyName, instB, tyNames, iR1, iR2, iEn, iZp, iAdd, opt, ixN, kwPerm, finish, startE, opMul2, gSum2, cCnt, iZp2, cDix, cItK, keyD, dIf, dIfN, dEx, dPut, dAs, dFor, dRet, dComp, msk, bDc3, ofRd, lSDk, cStar, cPop, cIdxL, gMaxX_lst, gMaxX_tup, opLeT]
  by_cases c1 : lo ≤ i <;> by_cases c2 : i ≤ hi <;> simp [R__law_is_in, mkFn, B__law_is_in, cVar, cK, cOp, cB, cCons, cNil, conts, cTup, lLst, cFz, cMt, pures, asB, cTru, tNt, tAn, tOr2, cAnd, cOr, cNot, cIf, cUn, cChain, oNo, oSm, cSl, lB, lIt, cIt, seqOf, lLR1, lLR2, lSS, ssL, lSX, lSY, opAnd, opBor, opShl, opShr, opIn, opNin, cCall, cCallK, cCallV, cApp, truth, tTrue, gN, gTp, gNil, gCons, gSt, sNil, sSeq, sEx, sRt, sRtN, sIf, sAs, sFor, sPar, setAll, sFrz, sAug, lComp, wipeE, opAdd, opSub, opMul, opFdv, opMod, opPow, opEq, opNe, opLt, opLe, opGt, opGe, opIs, opIsn, isNon, opNeg, revD, ixD, slD, gLen, gAbs, gInt1, gMax2, gMin2, gSrt, LIM, gSum, gTup, gList, gIsi, tyName, instB, tyNames, iR1, iR2, iEn, iZp, iAdd, opt, ixN, kwPerm, finish, startE, opMul2, gSum2, cCnt, iZp2, cDix, cItK, keyD, dIf, dIfN, dEx, dPut, dAs, dFor, dRet, dComp, msk, bDc3, ofRd, lSDk, cStar, cPop, cIdxL, gMaxX_lst, gMaxX_tup, opLeT, e, c1, c2]
theorem inD_ff : inD (.bl false) (.lst [.bl true, .bl true]) = some false := rfl
theorem res_step {WD LD VD : List D} {t k : Nat} {q : Nat} {a b : Nat} {w m : Int} {cur : List Int} {x6 x7 x8 x9 : Option PD.W} {M : Store}
    (hL : LD[k]? = some (.tup [.int a, .int b, .int m])) (hV : VD[k]? = some (.tup [.int w, .int (m - w)])) (w0 : 0 ≤ w) (w1 : w ≤ m) (ha : a < cur.length) (hb : b < cur.length) (hab : a ≠ b) (hq : M[q]? = some (some (cur.map .int))) :
    F_law_are_results_1 [some (.d (.tup WD)), some (.d (.tup LD)), some (.d (.int t)), some (.d (.tup VD)), some (.mt q), some (.d (.int k)), x6, x7, x8, x9, none] M =
      .nx [some (.d (.tup WD)), some (.d (.tup LD)), some (.d (.int t)), some (.d (.tup VD)), some (.mt q), some (.d (.int k)), some (.d (.int a)), some (.d (.int b)), some (.d (.int m)), some (.d (.tup [.int w, .int (m - w)])), none] (M.set q (some ((upd cur a b w (m - w)).map .int))) := by
  have hql := (List.getElem?_eq_some_iff.mp hq).1
  have hs : ∀ v, (M.set q v)[q]? = some v := fun v => List.getElem?_set_self hql
  have s1 : w + (m - w) = m := by omega
  have c1 : 0 ≤ m - w := by omega
  have c2 : m - w ≤ m := by omega
  have e := comp_all (M := M) (env0 := [some (.d (.tup WD)), some (.d (.tup LD)), some (.d (.int t)), some (.d (.tup VD)), some (.mt q), some (.d (.int k)), some (.d (.int a)), some (.d (.int b)), some (.d (.int m)), some (.d (.tup [.int w, .int (m - w)])), none]) (g := gN 10) (fe := cCall R__law_is_in (cCons (cVar 10) (cCons (cK (.int 0)) (cCons (cVar 8) (cNil))))) (fun _ => .bl true) [.int w, .int (m - w)] fun d hd => ⟨_, rfl, by
    simp only [List.mem_cons, List.not_mem_nil, or_false] at hd
    rcases hd with rfl | rfl
    · simp [cVar, cK, cOp, cB, cCons, cNil, conts, cTup, lLst, cFz, cMt, pures, asB, cTru, tNt, tAn, tOr2, cAnd, cOr, cNot, cIf, cUn, cChain, oNo, oSm, cSl, lB, lIt, cIt, seqOf, lLR1, lLR2, lSS, ssL, lSX, lSY, opAnd, opBor, opShl, opShr, opIn, opNin, cCall, cCallK, cCallV, cApp, truth, tTrue, gN, gTp, gNil, gCons, gSt, sNil, sSeq, sEx, sRt, sRtN, sIf, sAs, sFor, sPar, setAll, sFrz, sAug, lComp, wipeE, opAdd, opSub, opMul, opFdv, opMod, opPow, opEq, opNe, opLt, opLe, opGt, opGe, opIs, opIsn, isNon, opNeg, revD, ixD, slD, gLen, gAbs, gInt1, gMax2, gMin2, gSrt, LIM, gSum, gTup, gList, gIsi, tyName, instB, tyNames, iR1, iR2, iEn, iZp, iAdd, opt, ixN, kwPerm, finish, startE, opMul2, gSum2, cCnt, iZp2, cDix, cItK, keyD, dIf, dIfN, dEx, dPut, dAs, dFor, dRet, dComp, msk, bDc3, ofRd, lSDk, cStar, cPop, cIdxL, gMaxX_lst, gMaxX_tup, opLeT, R__law_is_in_int, w0, w1]
    · simp [cVar, cK, cOp, cB, cCons, cNil, conts, cTup, lLst, cFz, cMt, pures, asB, cTru, tNt, tAn, tOr2, cAnd, cOr, cNot, cIf, cUn, cChain, oNo, oSm, cSl, lB, lIt, cIt, seqOf, lLR1, lLR2, lSS, ssL, lSX, lSY, opAnd, opBor, opShl, opShr, opIn, opNin, cCall, cCallK, cCallV, cApp, truth, tTrue, gN, gTp, gNil, gCons, gSt, sNil, sSeq, sEx, sRt, sRtN, sIf, sAs, sFor, sPar, setAll, sFrz, sAug, lComp, wipeE, opAdd, opSub, opMul, opFdv, opMod, opPow, opEq, opNe, opLt, opLe, opGt, opGe, opIs, opIsn, isNon, opNeg, revD, ixD, slD, gLen, gAbs, gInt1, gMax2, gMin2, gSrt, LIM, gSum, gTup, gList, gIsi, tyName, instB, tyNames, iR1, iR2, iEn, iZp, iAdd, opt, ixN, kwPerm, finish, startE, opMul2, gSum2, cCnt, iZp2, cDix, cItK, keyD, dIf, dIfN, dEx, dPut, dAs, dFor, dRet, dComp, msk, bDc3, ofRd, lSDk, cStar, cPop, cIdxL, gMaxX_lst, gMaxX_tup, opLeT, R__law_is_in_int, c1, c2, w0, w1]⟩
  have e : PD.compL [some (.d (.tup WD)), some (.d (.tup LD)), some (.d (.int t)), some (.d (.tup VD)), some (.mt q), some (.d (.int k)), some (.d (.int a)), some (.d (.int b)), some (.d (.int m)), some (.d (.tup [.int w, .int (m - w)])), none] (gN 10) tTrue (cCall R__law_is_in (cCons (cVar 10) (cCons (cK (.int 0)) (cCons (cVar 8) (cNil))))) [.int w, .int (m - w)] M = .ok [.bl true, .bl true] M := e
  have ea := at_int ha
  have eb := at_int hb
  have eu : (upd cur a b w (m - w)).map D.int = ((cur.map D.int).set a (.int (cur.getD a 0 + w))).set b (.int (cur.getD b 0 + (m - w))) := by
    unfold upd
    rw [Int.toNat_natCast, Int.toNat_natCast, List.map_set, List.map_set]
  rw [eu]
  have hcl : (cur.map D.int).length = cur.length := by simp
  generalize cur.getD a 0 = ca at ea ⊢
  generalize cur.getD b 0 = cb at eb ⊢
  generalize cur.map D.int = CD at *
  have ha' : a < CD.length := by omega
  have hb' : b < CD.length := by omega
  generalize hmw : m - w = u at *
  have ei : intsOf [D.int w, .int u] = some [w, u] := rfl
  have ea2 := (List.getElem?_eq_some_iff.mp ea).2
  have eb2 := (List.getElem?_eq_some_iff.mp eb).2
  unfold F_law_are_results_1
  simp [cVar, cK, cOp, cB, cCons, cNil, conts, cTup, lLst, cFz, cMt, pures, asB, cTru, tNt, tAn, tOr2, cAnd, cOr, cNot, cIf, cUn, cChain, oNo, oSm, cSl, lB, lIt, cIt, seqOf, lLR1, lLR2, lSS, ssL, lSX, lSY, opAnd, opBor, opShl, opShr, opIn, opNin, cCall, cCallK, cCallV, cApp, truth, tTrue, gN, gTp, gNil, gCons, gSt, sNil, sSeq, sEx, sRt, sRtN, sIf, sAs, sFor, sPar, setAll, sFrz, sAug, lComp, wipeE, opAdd, opSub, opMul, opFdv, opMod, opPow, opEq, opNe, opLt, opLe, opGt, opGe, opIs, opIsn, isNon, opNeg, revD, ixD, slD, gLen, gAbs, gInt1, gMax2, gMin2, gSrt, LIM, gSum, gTup, gList, gIsi, tyName, instB, tyNames, iR1, iR2, iEn, iZp, iAdd, opt, ixN, kwPerm, finish, startE, opMul2, gSum2, cCnt, iZp2, cDix, cItK, keyD, dIf, dIfN, dEx, dPut, dAs, dFor, dRet, dComp, msk, bDc3, ofRd, lSDk, cStar, cPop, cIdxL, gMaxX_lst, gMaxX_tup, opLeT, hL, hV, e, inD_ff, ei, s1, hq, ea, eb, hs, ha', hb', ea2, eb2]
theorem drop_at {l : List D} {k : Nat} {x : D} {r : List D} (h : l.drop k = x :: r) : l[k]? = some x ∧ l.drop (k + 1) = r := by
  constructor
  · have := congrArg (fun z : List D => z[0]?) h
    simp only [List.getElem?_drop, Nat.add_zero, List.getElem?_cons_zero] at this
    exact this
  · rw [← List.drop_drop, h]; rfl
theorem rng_cons' (i k : Nat) : rngD (i : Int) (k + 1) = .int (i : Int) :: rngD (i + 1 : Nat) k := by
  unfold rngD
  rw [List.range_succ_eq_map, List.map_cons, List.map_map]
  rw [show ((i : Int) + ((0 : Nat) : Int)) = (i : Int) by simp]
  refine congrArg _ (List.map_congr_left fun j _ => ?_)
  show D.int ((i : Int) + ((j + 1 : Nat) : Int)) = .int (((i + 1 : Nat) : Int) + (j : Int))
  congr 1; omega
theorem R__law_are_results_eq {W : List Int} {ls : List (List Int)} {ks : List Int} (h2 : 2 ≤ W.length) (h5 : W.length ≤ 5) (hr : ∀ r ∈ ls, RowOk W.length r) (hk : KsOk ls ks) (hf : ls.length ≤ 5) {t : Nat} (ht : t < W.length) (M : Store) :
    R__law_are_results [.d (.tup (W.map .int)), .d (.tup (ls.map rowD)), .d (.int t), .d (resD ls ks)] M = .ok (.d (.bl (decide (∀ j, j < W.length → (finL W ls ks).getD j 0 ≤ (finL W ls ks).getD t 0)))) M := by
  have key : Ok (R__law_are_results [.d (.tup (W.map .int)), .d (.tup (ls.map rowD)), .d (.int t), .d (resD ls ks)] M) fun w M' => w = .d (.bl (decide (∀ j, j < W.length → (finL W ls ks).getD j 0 ≤ (finL W ls ks).getD t 0))) ∧ M' = M := by
    have hl := (@rowK_len ls ks hk).1
    have hFl := fin_len ls ks W fun r q => by
      obtain ⟨a, b, m, e, _⟩ := hr r q
      exact ⟨a, b, m, e⟩
    obtain ⟨F, hF⟩ : ∃ F, F = finL W ls ks := ⟨_, rfl⟩
    rw [← hF] at hFl ⊢
    obtain ⟨LD, hLD⟩ : ∃ LD, LD = ls.map rowD := ⟨_, rfl⟩
    obtain ⟨VD, hVD⟩ : ∃ VD, VD = (rowK ls ks).map rowD := ⟨_, rfl⟩
    have gLl : LD.length = ls.length := by rw [hLD, List.length_map]
    have gVl : VD.length = ls.length := by rw [hVD, List.length_map, hl]
    have gL : LD.length ≤ 16777216 := by omega
    have gV : VD.length ≤ 16777216 := by omega
    have eVD : resD ls ks = .tup VD := by rw [hVD]; rfl
    rw [eVD, ← hLD]
    refine Ok_fn rfl ?_
    refine @OkS_seq _ _ _ _ _ _ ?_
    intro n1 k1
    have eq : ((VD.length : Int) == (LD.length : Int)) = true := by simp [gVl, gLl]
    refine OkS_if (b := false) (M1 := M) (by simp [cVar, cK, cOp, cB, cCons, cNil, conts, cTup, lLst, cFz, cMt, pures, asB, cTru, tNt, tAn, tOr2, cAnd, cOr, cNot, cIf, cUn, cChain, oNo, oSm, cSl, lB, lIt, cIt, seqOf, lLR1, lLR2, lSS, ssL, lSX, lSY, opAnd, opBor, opShl, opShr, opIn, opNin, cCall, cCallK, cCallV, cApp, truth, tTrue, gN, gTp, gNil, gCons, gSt, sNil, sSeq, sEx, sRt, sRtN, sIf, sAs, sFor, sPar, setAll, sFrz, sAug, lComp, wipeE, opAdd, opSub, opMul, opFdv, opMod, opPow, opEq, opNe, opLt, opLe, opGt, opGe, opIs, opIsn, isNon, opNeg, revD, ixD, slD, gLen, gAbs, gInt1, gMax2, gMin2, gSrt, LIM, gSum, gTup, gList, gIsi, tyName, instB, tyNames, iR1, iR2, iEn, iZp, iAdd, opt, ixN, kwPerm, finish, startE, opMul2, gSum2, cCnt, iZp2, cDix, cItK, keyD, dIf, dIfN, dEx, dPut, dAs, dFor, dRet, dComp, msk, bDc3, ofRd, lSDk, cStar, cPop, cIdxL, gMaxX_lst, gMaxX_tup, opLeT, startE, gL, gV, gVl, gLl]) (fun h => nomatch h) fun _ => ?_
    unfold sNil
    rw [OkS_nx]
    apply k1
    refine @OkS_seq _ _ _ _ _ _ ?_
    intro n2 k2
    have gW : W.length ≤ 16777216 := by omega
    have hs1 : sAs (cMt (lB gList (cCons (cVar 0) (cNil)))) (gN 4) (startE 11 [.d (.tup (W.map .int)), .d (.tup LD), .d (.int t), .d (.tup VD)]) M = .nx [some (.d (.tup (W.map .int))), some (.d (.tup LD)), some (.d (.int t)), some (.d (.tup VD)), some (.mt M.length), none, none, none, none, none, none] (M ++ [some (W.map .int)]) := by
      simp [cVar, cK, cOp, cB, cCons, cNil, conts, cTup, lLst, cFz, cMt, pures, asB, cTru, tNt, tAn, tOr2, cAnd, cOr, cNot, cIf, cUn, cChain, oNo, oSm, cSl, lB, lIt, cIt, seqOf, lLR1, lLR2, lSS, ssL, lSX, lSY, opAnd, opBor, opShl, opShr, opIn, opNin, cCall, cCallK, cCallV, cApp, truth, tTrue, gN, gTp, gNil, gCons, gSt, sNil, sSeq, sEx, sRt, sRtN, sIf, sAs, sFor, sPar, setAll, sFrz, sAug, lComp, wipeE, opAdd, opSub, opMul, opFdv, opMod, opPow, opEq, opNe, opLt, opLe, opGt, opGe, opIs, opIsn, isNon, opNeg, revD, ixD, slD, gLen, gAbs, gInt1, gMax2, gMin2, gSrt, LIM, gSum, gTup, gList, gIsi, tyName, instB, tyNames, iR1, iR2, iEn, iZp, iAdd, opt, ixN, kwPerm, finish, startE, opMul2, gSum2, cCnt, iZp2, cDix, cItK, keyD, dIf, dIfN, dEx, dPut, dAs, dFor, dRet, dComp, msk, bDc3, ofRd, lSDk, cStar, cPop, cIdxL, gMaxX_lst, gMaxX_tup, opLeT, gW]
    rw [hs1, OkS_nx]
    apply k2
    refine @OkS_seq _ _ _ _ _ _ ?_
    intro n3 k3
    unfold sFor
    have gl1 : (LD.length : Int) ≤ 16777216 := by omega
    have gl2 : -16777216 ≤ (LD.length : Int) := by omega
    have e0 : lB iR1 (cCons (cB gLen (cCons (cVar 1) (cNil))) (cNil)) [some (.d (.tup (W.map .int))), some (.d (.tup LD)), some (.d (.int t)), some (.d (.tup VD)), some (.mt M.length), none, none, none, none, none, none] (M ++ [some (W.map .int)]) = .ok (rngD 0 LD.length) (M ++ [some (W.map .int)]) := by
      simp [cVar, cK, cOp, cB, cCons, cNil, conts, cTup, lLst, cFz, cMt, pures, asB, cTru, tNt, tAn, tOr2, cAnd, cOr, cNot, cIf, cUn, cChain, oNo, oSm, cSl, lB, lIt, cIt, seqOf, lLR1, lLR2, lSS, ssL, lSX, lSY, opAnd, opBor, opShl, opShr, opIn, opNin, cCall, cCallK, cCallV, cApp, truth, tTrue, gN, gTp, gNil, gCons, gSt, sNil, sSeq, sEx, sRt, sRtN, sIf, sAs, sFor, sPar, setAll, sFrz, sAug, lComp, wipeE, opAdd, opSub, opMul, opFdv, opMod, opPow, opEq, opNe, opLt, opLe, opGt, opGe, opIs, opIsn, isNon, opNeg, revD, ixD, slD, gLen, gAbs, gInt1, gMax2, gMin2, gSrt, LIM, gSum, gTup, gList, gIsi, tyName, instB, tyNames, iR1, iR2, iEn, iZp, iAdd, opt, ixN, kwPerm, finish, startE, opMul2, gSum2, cCnt, iZp2, cDix, cItK, keyD, dIf, dIfN, dEx, dPut, dAs, dFor, dRet, dComp, msk, bDc3, ofRd, lSDk, cStar, cPop, cIdxL, gMaxX_lst, gMaxX_tup, opLeT, gL, gl1, gl2]
    rw [e0, OkS_ofR, Ok_ok]
    refine OkS_loop (fun r env M' => ∃ (k : Nat) (cur : List Int) (ys : List (List Int)) (zs : List Int), k + r.length = LD.length ∧ r = rngD k r.length ∧ LD.drop k = ys.map rowD ∧ VD.drop k = (rowK ys zs).map rowD ∧ KsOk ys zs ∧ (∀ y ∈ ys, RowOk W.length y) ∧ cur.length = W.length ∧ finL cur ys zs = F ∧ M' = M ++ [some (cur.map .int)] ∧ ∃ x5 x6 x7 x8 x9, env = [some (.d (.tup (W.map .int))), some (.d (.tup LD)), some (.d (.int t)), some (.d (.tup VD)), some (.mt M.length), x5, x6, x7, x8, x9, none]) _ _ _ ⟨0, W, ls, ks, by simp, by simp, by rw [List.drop_zero, hLD], by rw [List.drop_zero, hVD], hk, hr, rfl, hF.symm, rfl, _, _, _, _, _, rfl⟩ ?_ ?_
    · rintro d r env M' ⟨k, cur, ys, zs, hk1, hrr, hd1, hd2, hko, hry, hcl, hfin, rfl, x5, x6, x7, x8, x9, rfl⟩
      rw [List.length_cons, rng_cons', List.cons.injEq] at hrr
      obtain ⟨rfl, hrr⟩ := hrr
      rw [List.length_cons] at hk1
      have hkl : k < LD.length := by omega
      cases ys with
      | nil =>
        have := congrArg List.length hd1
        rw [List.length_drop, List.length_map, List.length_nil] at this
        omega
      | cons y ys =>
        obtain ⟨a, b, m, rfl, ha, hab, hb, hm⟩ := hry y (by simp)
        cases zs with
        | nil => exact hko.elim
        | cons w zs =>
          obtain ⟨w0, w1, hko2⟩ := hko
          obtain ⟨a, rfl⟩ := Int.eq_ofNat_of_zero_le ha
          obtain ⟨b, rfl⟩ := Int.eq_ofNat_of_zero_le (by omega : 0 ≤ b)
          obtain ⟨c1, c2⟩ := drop_at hd1
          obtain ⟨c3, c4⟩ := drop_at hd2
          refine ⟨_, rfl, ?_⟩
          have es := res_step (WD := W.map .int) (LD := LD) (VD := VD) (t := t) (k := k) (q := M.length) (a := a) (b := b) (w := w) (m := m) (cur := cur) (x6 := x6) (x7 := x7) (x8 := x8) (x9 := x9) (M := M ++ [some (cur.map .int)]) c1 c3 w0 w1 (by omega) (by omega) (by omega) (by simp)
          have hset : ∀ v, (M ++ [some (cur.map D.int)]).set M.length v = M ++ [v] := fun v => by
            rw [List.set_append_right _ _ (Nat.le_refl _), Nat.sub_self]; rfl
          rw [hset] at es
          show OkS (F_law_are_results_1 [some (.d (.tup (W.map .int))), some (.d (.tup LD)), some (.d (.int t)), some (.d (.tup VD)), some (.mt M.length), some (.d (.int k)), x6, x7, x8, x9, none] (M ++ [some (cur.map .int)])) _ _
          rw [es, OkS_nx]
          exact ⟨k + 1, upd cur a b w (m - w), ys, zs, by omega, hrr, c2, c4, hko2, fun y hy => hry y (List.mem_cons_of_mem _ hy), by rw [upd_len]; exact hcl, hfin, rfl, _, _, _, _, _, rfl⟩
    · rintro env M' ⟨k, cur, ys, zs, hk1, hrr, hd1, hd2, hko, hry, hcl, hfin, rfl, x5, x6, x7, x8, x9, rfl⟩
      have hk1 : k = LD.length := by simpa using hk1
      cases ys with
      | cons y ys =>
        have := congrArg List.length hd1
        rw [List.length_drop, List.length_map, List.length_cons] at this
        omega
      | nil =>
        have hfin : cur = F := by
          cases zs with
          | nil => exact hfin
          | cons z zs => exact hfin
        subst hfin
        apply k3
        have hne : cur ≠ [] := fun c => by rw [c] at hcl; simp at hcl; omega
        obtain ⟨mx, m1, m2, m3⟩ := gMaxL_ints hne
        have htl : t < cur.length := by omega
        have et := at_int htl
        have ed : decide (∀ j, j < W.length → cur.getD j 0 ≤ cur.getD t 0) = (mx == cur.getD t 0) := by
          rw [Bool.eq_iff_iff, decide_eq_true_iff, beq_iff_eq]
          constructor
          · intro h
            obtain ⟨i, hi, e⟩ := List.getElem_of_mem m1
            have h1 := h i (by omega)
            rw [List.getD_eq_getElem?_getD, List.getElem?_eq_getElem hi] at h1
            have h1 : cur[i] ≤ cur.getD t 0 := h1
            rw [e] at h1
            have h3 := m2 _ (getD_in htl)
            omega
          · intro h j hj
            have := m2 _ (getD_in (by omega : j < cur.length))
            omega
        rw [ed]
        have hget : (M ++ [some (cur.map D.int)])[M.length]? = some (some (cur.map .int)) := by simp
        generalize cur.getD t 0 = ct at et ⊢
        generalize cur.map D.int = CD at m3 et hget ⊢
        simp [cVar, cK, cOp, cB, cCons, cNil, conts, cTup, lLst, cFz, cMt, pures, asB, cTru, tNt, tAn, tOr2, cAnd, cOr, cNot, cIf, cUn, cChain, oNo, oSm, cSl, lB, lIt, cIt, seqOf, lLR1, lLR2, lSS, ssL, lSX, lSY, opAnd, opBor, opShl, opShr, opIn, opNin, cCall, cCallK, cCallV, cApp, truth, tTrue, gN, gTp, gNil, gCons, gSt, sNil, sSeq, sEx, sRt, sRtN, sIf, sAs, sFor, sPar, setAll, sFrz, sAug, lComp, wipeE, opAdd, opSub, opMul, opFdv, opMod, opPow, opEq, opNe, opLt, opLe, opGt, opGe, opIs, opIsn, isNon, opNeg, revD, ixD, slD, gLen, gAbs, gInt1, gMax2, gMin2, gSrt, LIM, gSum, gTup, gList, gIsi, tyName, instB, tyNames, iR1, iR2, iEn, iZp, iAdd, opt, ixN, kwPerm, finish, startE, opMul2, gSum2, cCnt, iZp2, cDix, cItK, keyD, dIf, dIfN, dEx, dPut, dAs, dFor, dRet, dComp, msk, bDc3, ofRd, lSDk, cStar, cPop, cIdxL, gMaxX_lst, gMaxX_tup, opLeT, m3, et]
  obtain ⟨w, M', e, rfl, rfl⟩ := key.ex
  exact e
end PD.LW
namespace PD.LW
open PySem PySem.Spec PyProof.Rows L2 PD
/-! a season told by other numbers -/
theorem rng_same (n : Nat) : rngI' n = rngI n := rfl
theorem nd_names {v : List Int} {n : Nat} (hv : v.Perm (rngI n)) : v.Nodup := by
  refine hv.nodup_iff.mpr ?_
  unfold rngI
  exact List.Pairwise.map _ (fun a b h => by omega) (List.nodup_range (n := n))
theorem in_names {v : List Int} {n : Nat} (hv : v.Perm (rngI n)) {i : Nat} (hi : i < n) : 0 ≤ v.getD i 0 ∧ v.getD i 0 < n := by
  have hl : v.length = n := by rw [hv.length_eq]; simp [rngI]
  exact rngI_mem.mp (hv.mem_iff.mp (getD_in (by omega)))
def freshW (W v : List Int) : List Int := (List.range W.length).map fun j : Nat => W.getD (v.idxOf (j : Int)) 0
def freshL (ls : List (List Int)) (v : List Int) : List (List Int) := srtR (ls.map (ren v))
theorem freshW_at {W v : List Int} (hv : v.Perm (rngI W.length)) {i : Nat} (hi : i < W.length) : (freshW W v).getD (v.getD i 0).toNat 0 = W.getD i 0 := by
  have h1 := in_names hv hi
  have hl : v.length = W.length := by rw [hv.length_eq]; simp [rngI]
  have h2 : (v.getD i 0).toNat < W.length := by omega
  unfold freshW
  have e : (((v.getD i 0).toNat : Nat) : Int) = v.getD i 0 := by omega
  have e2 : v.idxOf (v.getD i 0) = i := by
    rw [List.getD_eq_getElem?_getD, List.getElem?_eq_getElem (by omega : i < v.length)]
    exact (nd_names hv).idxOf_getElem i (by omega)
  rw [List.getD_eq_getElem?_getD, List.getElem?_map, List.getElem?_range h2]
  show W.getD (v.idxOf (((v.getD i 0).toNat : Nat) : Int)) 0 = _
  rw [e, e2]
theorem pair_up {ls : List (List Int)} {n : Nat} (hr : ∀ r ∈ ls, ∃ a b m : Int, r = [a, b, m]) (hu : Up ls) (hd : ls.Pairwise fun r s => ¬ (r.getD 0 0 = s.getD 0 0 ∧ r.getD 1 0 = s.getD 1 0)) : ls.Pairwise fun r s => r.getD 0 0 < s.getD 0 0 ∨ (r.getD 0 0 = s.getD 0 0 ∧ r.getD 1 0 < s.getD 1 0) := by
  have h := hu.and hd
  refine (List.Pairwise.and_mem.mp h).imp ?_
  rintro r s ⟨h1, h2, h3, h4⟩
  obtain ⟨a, b, m, rfl⟩ := hr r h1
  obtain ⟨a', b', m', rfl⟩ := hr s h2
  have h4 : ¬ (a = a' ∧ b = b') := h4
  show a < a' ∨ (a = a' ∧ b < b')
  rw [HT.lexLt_cons] at h3
  by_cases c : a' = a
  · rw [if_pos c, HT.lexLt_cons] at h3
    have hb : ¬ b' = b := fun e => h4 ⟨c.symm, e.symm⟩
    rw [if_neg hb] at h3
    have := of_decide_eq_false h3
    right; omega
  · rw [if_neg c] at h3
    have := of_decide_eq_false h3
    left; omega
theorem ren_pair {v : List Int} (hv : v.Nodup) {n : Nat} (hl : v.length = n) {r s : List Int} (h1 : RowOk n r) (h2 : RowOk n s) (h : (ren v r).getD 0 0 = (ren v s).getD 0 0 ∧ (ren v r).getD 1 0 = (ren v s).getD 1 0) : r.getD 0 0 = s.getD 0 0 ∧ r.getD 1 0 = s.getD 1 0 := by
  obtain ⟨a, b, m, rfl, ha, hab, hb, _⟩ := h1
  obtain ⟨a', b', m', rfl, ha', hab', hb', _⟩ := h2
  have e1 := nodup_at hv (i := a.toNat) (j := a'.toNat) (by omega) (by omega)
  have e2 := nodup_at hv (i := b.toNat) (j := b'.toNat) (by omega) (by omega)
  have e3 := nodup_at hv (i := a.toNat) (j := b'.toNat) (by omega) (by omega)
  have e4 := nodup_at hv (i := b.toNat) (j := a'.toNat) (by omega) (by omega)
  show a = a' ∧ b = b'
  have q : ∀ x y z : Int, (ren v [x, y, z]).getD 0 0 = (if v.getD y.toNat 0 < v.getD x.toNat 0 then v.getD y.toNat 0 else v.getD x.toNat 0) ∧ (ren v [x, y, z]).getD 1 0 = (if v.getD y.toNat 0 < v.getD x.toNat 0 then v.getD x.toNat 0 else v.getD y.toNat 0) := fun x y z => by
    have er : ren v [x, y, z] = if v.getD y.toNat 0 < v.getD x.toNat 0 then [v.getD y.toNat 0, v.getD x.toNat 0, z] else [v.getD x.toNat 0, v.getD y.toNat 0, z] := rfl
    rw [er]
    by_cases c : v.getD y.toNat 0 < v.getD x.toNat 0
    · rw [if_pos c, if_pos c, if_pos c]; exact ⟨rfl, rfl⟩
    · rw [if_neg c, if_neg c, if_neg c]; exact ⟨rfl, rfl⟩
  rw [(q a b m).1, (q a b m).2, (q a' b' m').1, (q a' b' m').2] at h
  generalize v.getD a.toNat 0 = va at *
  generalize v.getD b.toNat 0 = vb at *
  generalize v.getD a'.toNat 0 = va' at *
  generalize v.getD b'.toNat 0 = vb' at *
  split at h <;> split at h <;> omega
theorem ren_row {v : List Int} {n : Nat} (hv : v.Perm (rngI n)) {a b m : Int} (ha : 0 ≤ a) (hab : a < b) (hb : b < n) : ∃ a' b' : Int, ren v [a, b, m] = [a', b', m] ∧ 0 ≤ a' ∧ a' < b' ∧ b' < n := by
  have hl : v.length = n := by rw [hv.length_eq]; simp [rngI]
  have h1 := in_names hv (by omega : a.toNat < n)
  have h2 := in_names hv (by omega : b.toNat < n)
  have h3 := nodup_at (nd_names hv) (i := a.toNat) (j := b.toNat) (by omega) (by omega)
  have er : ren v [a, b, m] = if v.getD b.toNat 0 < v.getD a.toNat 0 then [v.getD b.toNat 0, v.getD a.toNat 0, m] else [v.getD a.toNat 0, v.getD b.toNat 0, m] := rfl
  rw [er]
  generalize v.getD a.toNat 0 = va at *
  generalize v.getD b.toNat 0 = vb at *
  have hne : va ≠ vb := fun e => by have := h3.mp e; omega
  split
  · exact ⟨_, _, rfl, by omega, by omega, by omega⟩
  · exact ⟨_, _, rfl, by omega, by omega, by omega⟩
theorem fresh_ok {W v : List Int} {ls : List (List Int)} (h : SeaOk W ls) (hv : v.Perm (rngI W.length)) : SeaOk (freshW W v) (freshL ls v) := by
  have hl : (freshW W v).length = W.length := by simp [freshW]
  have hvl : v.length = W.length := by rw [hv.length_eq]; simp [rngI]
  have hrow : ∀ r ∈ freshL ls v, ∃ a b m : Int, r = [a, b, m] ∧ 0 ≤ a ∧ a < b ∧ b < W.length ∧ 1 ≤ m ∧ m ≤ 20 := fun r hr => by
    obtain ⟨s, hs, rfl⟩ := List.mem_map.mp ((srtR_perm _).mem_iff.mp hr)
    obtain ⟨a, b, m, rfl, ha, hab, hb, m1, m2⟩ := h.each s hs
    obtain ⟨a', b', e, h1, h2, h3⟩ := ren_row hv (m := m) ha hab hb
    exact ⟨a', b', m, e, h1, h2, h3, m1, m2⟩
  refine ⟨by rw [hl]; exact h.two, by rw [hl]; exact h.five, fun w hw => ?_, by rw [hl]; exact hrow, ?_, ?_⟩
  · unfold freshW at hw
    obtain ⟨j, hj, rfl⟩ := List.mem_map.mp hw
    rw [List.mem_range] at hj
    have : v.idxOf (j : Int) < W.length := by
      rw [← hvl]
      exact List.idxOf_lt_length_of_mem (hv.mem_iff.mpr (rngI_mem.mpr ⟨by omega, by omega⟩))
    exact h.wins _ (getD_in this)
  · refine pair_up (n := W.length) (fun r hr => by
      obtain ⟨a, b, m, e, _⟩ := hrow r hr
      exact ⟨a, b, m, e⟩) (srtR_up _) ?_
    have h0 : ls.Pairwise fun r s => ¬ (r.getD 0 0 = s.getD 0 0 ∧ r.getD 1 0 = s.getD 1 0) := h.up.imp fun q => by omega
    have h1 : (ls.map (ren v)).Pairwise fun r s => ¬ (r.getD 0 0 = s.getD 0 0 ∧ r.getD 1 0 = s.getD 1 0) := by
      rw [List.pairwise_map]
      refine (List.Pairwise.and_mem.mp h0).imp ?_
      rintro r s ⟨m1, m2, q⟩ c
      exact q (ren_pair (nd_names hv) hvl (h.row r m1) (h.row s m2) c)
    exact ((srtR_perm (ls.map (ren v))).symm.pairwise_iff (fun {x y} q c => q ⟨c.1.symm, c.2.symm⟩)).mp h1
  · unfold freshL
    rw [(srtR_perm _).length_eq, List.length_map]; exact h.few
theorem fresh_first {W v : List Int} {ls : List (List Int)} (h : SeaOk W ls) (hv : v.Perm (rngI W.length)) : firstL (freshW W v) (freshL ls v) = srtI ((firstL W ls).map fun t => v.getD t.toNat 0) := by
  have hl : (freshW W v).length = W.length := by simp [freshW]
  have hvl : v.length = W.length := by rw [hv.length_eq]; simp [rngI]
  have hnd := nd_names hv
  have hcan : ∀ i, i < W.length → (Can (freshW W v) (freshL ls v) (v.getD i 0) ↔ Can W ls i) := fun i hi => can_ren (by rw [rng_same]; exact hv) h.row hl (fun j hj => freshW_at hv hj) (srtR_perm _) hi
  have hmem : ∀ z, z ∈ firstL W ls ↔ ∃ i : Nat, z = i ∧ i < W.length ∧ Can W ls i := fun z => by
    unfold firstL
    rw [keepN_mem]
    simp only [canB_iff]
  have hsrt : (srtI ((firstL W ls).map fun t => v.getD t.toNat 0)).Pairwise (· < ·) := by
    have h1 := srtI_up ((firstL W ls).map fun t => v.getD t.toNat 0)
    have h2 : ((firstL W ls).map fun t => v.getD t.toNat 0).Nodup := by
      have hf : (firstL W ls).Pairwise (· < ·) := keepN_up _ _
      refine List.pairwise_map.mpr ((List.Pairwise.and_mem.mp hf).imp ?_)
      rintro x y ⟨m1, m2, q⟩ c
      obtain ⟨i, rfl, hi, _⟩ := (hmem x).mp m1
      obtain ⟨j, rfl, hj, _⟩ := (hmem y).mp m2
      rw [Int.toNat_natCast, Int.toNat_natCast] at c
      have := (nodup_at hnd (by omega : i < v.length) (by omega : j < v.length)).mp c
      omega
    have h3 : (srtI ((firstL W ls).map fun t => v.getD t.toNat 0)).Nodup := (srtI_perm _).nodup_iff.mpr h2
    exact (h1.and h3).imp fun q => by
      obtain ⟨q1, q2⟩ := q
      omega
  refine upI_ext (keepN_up _ _) hsrt fun z => ?_
  rw [(srtI_perm _).mem_iff, List.mem_map]
  unfold firstL
  rw [keepN_mem, hl]
  constructor
  · rintro ⟨j, rfl, hj, hc⟩
    have hc := canB_iff.mp hc
    obtain ⟨i, hi, e⟩ := List.getElem_of_mem (hv.mem_iff.mpr (rngI_mem.mpr ⟨by omega, by omega⟩) : (j : Int) ∈ v)
    have ej : (j : Int) = v.getD i 0 := by
      rw [List.getD_eq_getElem?_getD, List.getElem?_eq_getElem hi, e]; rfl
    rw [ej] at hc
    have := (hcan i (by omega)).mp hc
    exact ⟨(i : Int), keepN_mem.mpr ⟨i, rfl, by omega, canB_iff.mpr this⟩, by rw [Int.toNat_natCast, ← ej]⟩
  · rintro ⟨t, ht, rfl⟩
    obtain ⟨i, rfl, hi, hc⟩ := keepN_mem.mp ht
    rw [Int.toNat_natCast]
    have h1 := in_names hv hi
    obtain ⟨j, hj⟩ := Int.eq_ofNat_of_zero_le h1.1
    refine ⟨j, hj, by omega, canB_iff.mpr ?_⟩
    have := (hcan i hi).mpr (canB_iff.mp hc)
    rw [hj] at this
    exact this
theorem idxL_ints {ns : List Int} {a : Int} (h : a ∈ ns) : idxL (ns.map .int) (.int a) = some (ns.idxOf a) := by
  unfold idxL
  rw [toPys_ints]
  have e : toPy (.int a) = some (.int a) := rfl
  rw [e]
  simp only []
  rw [if_pos ⟨rfl, shaped_lst ns⟩]
  clear e
  induction ns with
  | nil => cases h
  | cons n ns ih =>
    rw [List.map_cons, List.findIdx?_cons]
    have e1 : PyData.eqv (.int n) (.int a) = (n == a) := rfl
    rw [e1]
    by_cases c : n = a
    · subst c
      simp
    · have h' : a ∈ ns := by
        rcases List.mem_cons.mp h with q | q
        · exact absurd q.symm c
        · exact q
      have c2 : (n == a) = false := by simpa using c
      rw [c2]
      simp only [Bool.false_eq_true, if_false]
      rw [ih h', List.idxOf_cons, c2]
      simp
end PD.LW
namespace PD.LW
open PySem PySem.Spec PyProof.Rows L2 PD
theorem ren_step {WD LD : D} {VD RD : List D} {q r : Nat} {a b : Nat} {va vb m : Int} {x7 x8 : Option PD.W} {M : Store} (hq : M[q]? = some (some VD)) (hr : M[r]? = some (some RD)) (ha : VD[a]? = some (.int va)) (hb : VD[b]? = some (.int vb)) (hR : RD.length ≤ 100) :
    F_law_renamed_1 [some (.mt q), some (.d WD), some (.d LD), some (.mt r), some (.d (.int a)), some (.d (.int b)), some (.d (.int m)), x7, x8, none] M =
      .nx [some (.mt q), some (.d WD), some (.d LD), some (.mt r), some (.d (.int a)), some (.d (.int b)), some (.d (.int m)), some (.d (.int va)), some (.d (.int vb)), none] (M.set r (some (RD ++ [.tup [.int (if vb < va then vb else va), .int (if va < vb then vb else va), .int m]]))) := by
  have g : RD.length < 16777216 := by omega
  unfold F_law_renamed_1
  simp [cVar, cK, cOp, cB, cCons, cNil, conts, cTup, lLst, cFz, cMt, pures, asB, cTru, tNt, tAn, tOr2, cAnd, cOr, cNot, cIf, cUn, cChain, oNo, oSm, cSl, lB, lIt, cIt, seqOf, lLR1, lLR2, lSS, ssL, lSX, lSY, opAnd, opBor, opShl, opShr, opIn, opNin, cCall, cCallK, cCallV, cApp, truth, tTrue, gN, gTp, gNil, gCons, gSt, sNil, sSeq, sEx, sRt, sRtN, sIf, sAs, sFor, sPar, setAll, sFrz, sAug, lComp, wipeE, opAdd, opSub, opMul, opFdv, opMod, opPow, opEq, opNe, opLt, opLe, opGt, opGe, opIs, opIsn, isNon, opNeg, revD, ixD, slD, gLen, gAbs, gInt1, gMax2, gMin2, gSrt, LIM, gSum, gTup, gList, gIsi, tyName, instB, tyNames, iR1, iR2, iEn, iZp, iAdd, opt, ixN, kwPerm, finish, startE, opMul2, gSum2, cCnt, iZp2, cDix, cItK, keyD, dIf, dIfN, dEx, dPut, dAs, dFor, dRet, dComp, msk, bDc3, ofRd, lSDk, cStar, cPop, cIdxL, gMaxX_lst, gMaxX_tup, opLeT, hq, hr, ha, hb, g]
theorem R__law_renamed_eq {W v : List Int} {ls : List (List Int)} (h : SeaOk W ls) (hv : v.Perm (rngI W.length)) {q : Nat} {M : Store} (hq : M[q]? = some (some (v.map .int))) :
    R__law_renamed [.mt q, .d (.tup (W.map .int)), .d (.tup (ls.map rowD))] M = .ok (.d (.tup [.tup ((freshW W v).map .int), .tup ((freshL ls v).map rowD)])) M := by
  have hql := (List.getElem?_eq_some_iff.mp hq).1
  have h5 := h.five
  have hf := h.few
  have hvl : v.length = W.length := by rw [hv.length_eq]; simp [rngI]
  have key : Ok (R__law_renamed [.mt q, .d (.tup (W.map .int)), .d (.tup (ls.map rowD))] M) fun w M' => w = .d (.tup [.tup ((freshW W v).map .int), .tup ((freshL ls v).map rowD)]) ∧ M' = M := by
    obtain ⟨LD, hLD⟩ : ∃ LD, LD = ls.map rowD := ⟨_, rfl⟩
    have gLl : LD.length = ls.length := by rw [hLD, List.length_map]
    have gL : LD.length ≤ 16777216 := by omega
    rw [← hLD]
    refine Ok_fn rfl ?_
    refine @OkS_seq _ _ _ _ _ _ ?_
    intro n1 k1
    have hs1 : sAs (cMt (lLst (cNil))) (gN 3) (startE 10 [.mt q, .d (.tup (W.map .int)), .d (.tup LD)]) M = .nx [some (.mt q), some (.d (.tup (W.map .int))), some (.d (.tup LD)), some (.mt M.length), none, none, none, none, none, none] (M ++ [some []]) := by
      simp [cVar, cK, cOp, cB, cCons, cNil, conts, cTup, lLst, cFz, cMt, pures, asB, cTru, tNt, tAn, tOr2, cAnd, cOr, cNot, cIf, cUn, cChain, oNo, oSm, cSl, lB, lIt, cIt, seqOf, lLR1, lLR2, lSS, ssL, lSX, lSY, opAnd, opBor, opShl, opShr, opIn, opNin, cCall, cCallK, cCallV, cApp, truth, tTrue, gN, gTp, gNil, gCons, gSt, sNil, sSeq, sEx, sRt, sRtN, sIf, sAs, sFor, sPar, setAll, sFrz, sAug, lComp, wipeE, opAdd, opSub, opMul, opFdv, opMod, opPow, opEq, opNe, opLt, opLe, opGt, opGe, opIs, opIsn, isNon, opNeg, revD, ixD, slD, gLen, gAbs, gInt1, gMax2, gMin2, gSrt, LIM, gSum, gTup, gList, gIsi, tyName, instB, tyNames, iR1, iR2, iEn, iZp, iAdd, opt, ixN, kwPerm, finish, startE, opMul2, gSum2, cCnt, iZp2, cDix, cItK, keyD, dIf, dIfN, dEx, dPut, dAs, dFor, dRet, dComp, msk, bDc3, ofRd, lSDk, cStar, cPop, cIdxL, gMaxX_lst, gMaxX_tup, opLeT]
    rw [hs1, OkS_nx]
    apply k1
    refine @OkS_seq _ _ _ _ _ _ ?_
    intro n2 k2
    unfold sFor
    have e0 : cIt (cVar 2) [some (.mt q), some (.d (.tup (W.map .int))), some (.d (.tup LD)), some (.mt M.length), none, none, none, none, none, none] (M ++ [some []]) = .ok (ls.map rowD) (M ++ [some []]) := by
      rw [← hLD]
      simp [cVar, cK, cOp, cB, cCons, cNil, conts, cTup, lLst, cFz, cMt, pures, asB, cTru, tNt, tAn, tOr2, cAnd, cOr, cNot, cIf, cUn, cChain, oNo, oSm, cSl, lB, lIt, cIt, seqOf, lLR1, lLR2, lSS, ssL, lSX, lSY, opAnd, opBor, opShl, opShr, opIn, opNin, cCall, cCallK, cCallV, cApp, truth, tTrue, gN, gTp, gNil, gCons, gSt, sNil, sSeq, sEx, sRt, sRtN, sIf, sAs, sFor, sPar, setAll, sFrz, sAug, lComp, wipeE, opAdd, opSub, opMul, opFdv, opMod, opPow, opEq, opNe, opLt, opLe, opGt, opGe, opIs, opIsn, isNon, opNeg, revD, ixD, slD, gLen, gAbs, gInt1, gMax2, gMin2, gSrt, LIM, gSum, gTup, gList, gIsi, tyName, instB, tyNames, iR1, iR2, iEn, iZp, iAdd, opt, ixN, kwPerm, finish, startE, opMul2, gSum2, cCnt, iZp2, cDix, cItK, keyD, dIf, dIfN, dEx, dPut, dAs, dFor, dRet, dComp, msk, bDc3, ofRd, lSDk, cStar, cPop, cIdxL, gMaxX_lst, gMaxX_tup, opLeT, gL]
    rw [e0, OkS_ofR, Ok_ok]
    refine OkS_loop (fun r env M' => ∃ (done ys : List (List Int)), r = ys.map rowD ∧ ls = done ++ ys ∧ M' = M ++ [some ((done.map (ren v)).map rowD)] ∧ ∃ x4 x5 x6 x7 x8, env = [some (.mt q), some (.d (.tup (W.map .int))), some (.d (.tup LD)), some (.mt M.length), x4, x5, x6, x7, x8, none]) _ _ _ ⟨[], ls, rfl, rfl, rfl, _, _, _, _, _, rfl⟩ ?_ ?_
    · rintro d r env M' ⟨done, ys, er, hd, rfl, x4, x5, x6, x7, x8, rfl⟩
      cases ys with
      | nil => cases er
      | cons y ys =>
        rw [List.map_cons, List.cons.injEq] at er
        obtain ⟨rfl, rfl⟩ := er
        obtain ⟨a, b, m, rfl, ha, hab, hb, _⟩ := h.row y (by rw [hd]; simp)
        obtain ⟨a, rfl⟩ := Int.eq_ofNat_of_zero_le ha
        obtain ⟨b, rfl⟩ := Int.eq_ofNat_of_zero_le (by omega : 0 ≤ b)
        have hdl : done.length ≤ 64 := by
          have := congrArg List.length hd
          rw [List.length_append] at this
          omega
        have av := at_int (W := v) (i := a) (by omega)
        have bv := at_int (W := v) (i := b) (by omega)
        refine ⟨_, rfl, ?_⟩
        have es := ren_step (WD := .tup (W.map .int)) (LD := .tup LD) (VD := v.map .int) (RD := (done.map (ren v)).map rowD) (q := q) (r := M.length) (a := a) (b := b) (m := m) (x7 := x7) (x8 := x8) (M := M ++ [some ((done.map (ren v)).map rowD)]) (by rw [List.getElem?_append_left hql]; exact hq) (by simp) av bv (by rw [List.length_map, List.length_map]; omega)
        have hset : ∀ x z, (M ++ [some z]).set M.length x = M ++ [x] := fun x z => by
          rw [List.set_append_right _ _ (Nat.le_refl _), Nat.sub_self]; rfl
        rw [hset] at es
        have er2 : (D.tup [.int (if v.getD b 0 < v.getD a 0 then v.getD b 0 else v.getD a 0), .int (if v.getD a 0 < v.getD b 0 then v.getD b 0 else v.getD a 0), .int m]) = rowD (ren v [(a : Int), (b : Int), m]) := by
          have er : ren v [(a : Int), (b : Int), m] = if v.getD ((b : Int)).toNat 0 < v.getD ((a : Int)).toNat 0 then [v.getD ((b : Int)).toNat 0, v.getD ((a : Int)).toNat 0, m] else [v.getD ((a : Int)).toNat 0, v.getD ((b : Int)).toNat 0, m] := rfl
          rw [er, Int.toNat_natCast, Int.toNat_natCast]
          generalize v.getD a 0 = va
          generalize v.getD b 0 = vb
          by_cases c : vb < va
          · rw [if_pos c, if_neg (by omega), if_pos c]; rfl
          · rw [if_neg c, if_neg c]
            by_cases c2 : va < vb
            · rw [if_pos c2]; rfl
            · have : va = vb := by omega
              rw [if_neg c2, this]; rfl
        rw [er2] at es
        show OkS (F_law_renamed_1 [some (.mt q), some (.d (.tup (W.map .int))), some (.d (.tup LD)), some (.mt M.length), some (.d (.int a)), some (.d (.int b)), some (.d (.int m)), x7, x8, none] (M ++ [some ((done.map (ren v)).map rowD)])) _ _
        rw [es, OkS_nx]
        exact ⟨done ++ [[(a : Int), (b : Int), m]], ys, rfl, by rw [hd]; simp, by rw [List.map_append, List.map_append]; rfl, _, _, _, _, _, rfl⟩
    · rintro env M' ⟨done, ys, er, hd, rfl, x4, x5, x6, x7, x8, rfl⟩
      cases ys with
      | cons z ys => cases er
      | nil =>
        rw [List.append_nil] at hd
        subst hd
        apply k2
        obtain ⟨RR, hRR⟩ : ∃ RR, RR = ls.map (ren v) := ⟨_, rfl⟩
        have hRl : RR.length ≤ 64 := by rw [hRR, List.length_map]; exact hf
        have eL : freshL ls v = srtR RR := by rw [hRR]; rfl
        rw [eL, ← hRR]
        have gS : (srtR RR).length ≤ 16777216 := by rw [(srtR_perm _).length_eq]; omega
        have eC := comp_rng (M := M ++ [none]) (env0 := [some (.mt q), some (.d (.tup (W.map .int))), some (.d (.tup LD)), some (.d (.lst (RR.map rowD))), x4, x5, x6, x7, x8, none]) (k := 9) (fe := cOp ixD (cVar 1) (cIdxL (cVar 0) (cVar 9))) (fun j : Nat => .int (W.getD (v.idxOf (j : Int)) 0)) W.length fun j hj => by
          have hm : (j : Int) ∈ v := hv.mem_iff.mpr (rngI_mem.mpr ⟨by omega, by omega⟩)
          have hi := idxL_ints hm
          have hlt : v.idxOf (j : Int) < W.length := by rw [← hvl]; exact List.idxOf_lt_length_of_mem hm
          have ea := at_int hlt
          have hq2 : (M ++ [none])[q]? = some (some (v.map .int)) := by rw [List.getElem?_append_left hql]; exact hq
          generalize W.getD (v.idxOf (j : Int)) 0 = wv at ea ⊢
          generalize v.idxOf (j : Int) = iv at ea hi
          generalize v.map D.int = VD at hi hq2
          generalize W.map D.int = WD at ea ⊢
          generalize M ++ [none] = M9 at hq2 ⊢
          simp [cVar, cK, cOp, cB, cCons, cNil, conts, cTup, lLst, cFz, cMt, pures, asB, cTru, tNt, tAn, tOr2, cAnd, cOr, cNot, cIf, cUn, cChain, oNo, oSm, cSl, lB, lIt, cIt, seqOf, lLR1, lLR2, lSS, ssL, lSX, lSY, opAnd, opBor, opShl, opShr, opIn, opNin, cCall, cCallK, cCallV, cApp, truth, tTrue, gN, gTp, gNil, gCons, gSt, sNil, sSeq, sEx, sRt, sRtN, sIf, sAs, sFor, sPar, setAll, sFrz, sAug, lComp, wipeE, opAdd, opSub, opMul, opFdv, opMod, opPow, opEq, opNe, opLt, opLe, opGt, opGe, opIs, opIsn, isNon, opNeg, revD, ixD, slD, gLen, gAbs, gInt1, gMax2, gMin2, gSrt, LIM, gSum, gTup, gList, gIsi, tyName, instB, tyNames, iR1, iR2, iEn, iZp, iAdd, opt, ixN, kwPerm, finish, startE, opMul2, gSum2, cCnt, iZp2, cDix, cItK, keyD, dIf, dIfN, dEx, dPut, dAs, dFor, dRet, dComp, msk, bDc3, ofRd, lSDk, cStar, cPop, cIdxL, gMaxX_lst, gMaxX_tup, opLeT, hq2, hi, ea]
        have eF : ((List.range W.length).map fun j : Nat => D.int (W.getD (v.idxOf (j : Int)) 0)) = (freshW W v).map .int := by
          unfold freshW
          rw [List.map_map]; rfl
        rw [eF] at eC
        have gFl : (freshW W v).length = W.length := by simp [freshW]
        have gF : (freshW W v).length ≤ 16777216 := by omega
        have g1 : W.length ≤ 16777216 := by omega
        have g2 : (W.length : Int) ≤ 16777216 := by omega
        have g3 : -16777216 ≤ (W.length : Int) := by omega
        generalize freshW W v = FW at eC gF ⊢
        have hget : (M ++ [some (RR.map rowD)])[M.length]? = some (some (RR.map rowD)) := by simp
        simp [cVar, cK, cOp, cB, cCons, cNil, conts, cTup, lLst, cFz, cMt, pures, asB, cTru, tNt, tAn, tOr2, cAnd, cOr, cNot, cIf, cUn, cChain, oNo, oSm, cSl, lB, lIt, cIt, seqOf, lLR1, lLR2, lSS, ssL, lSX, lSY, opAnd, opBor, opShl, opShr, opIn, opNin, cCall, cCallK, cCallV, cApp, truth, tTrue, gN, gTp, gNil, gCons, gSt, sNil, sSeq, sEx, sRt, sRtN, sIf, sAs, sFor, sPar, setAll, sFrz, sAug, lComp, wipeE, opAdd, opSub, opMul, opFdv, opMod, opPow, opEq, opNe, opLt, opLe, opGt, opGe, opIs, opIsn, isNon, opNeg, revD, ixD, slD, gLen, gAbs, gInt1, gMax2, gMin2, gSrt, LIM, gSum, gTup, gList, gIsi, tyName, instB, tyNames, iR1, iR2, iEn, iZp, iAdd, opt, ixN, kwPerm, finish, startE, opMul2, gSum2, cCnt, iZp2, cDix, cItK, keyD, dIf, dIfN, dEx, dPut, dAs, dFor, dRet, dComp, msk, bDc3, ofRd, lSDk, cStar, cPop, cIdxL, gMaxX_lst, gMaxX_tup, opLeT, eC, gF, g1, g2, g3, rowsD_map, gS]
  obtain ⟨w, M', e, rfl, rfl⟩ := key.ex
  exact e
/-! the drawn names -/
theorem rng_D (n : Nat) : rngD 0 n = (rngI n).map .int := rngI_D n
theorem sp_names {p : Nat} {M0 M : Store} {n : Nat} {x1 x2 x3 x5 x8 x9 x10 x11 x12 x13 x14 x15 x16 x17 x18 : Option PD.W} {t : PD.W → Store → Prop} (h : Pl p M) (hn : n ≤ 9) :
    OkS (sFor (lB iR1 (cCons (cVar 4) (cNil))) (gN 8) (F_law_season_right_1) [some (.mt p), x1, x2, x3, some (.d (.int n)), x5, some (.mt M.length), some (.mt (M.length + 1)), x8, x9, x10, x11, x12, x13, x14, x15, x16, x17, x18] (M ++ [some [], some ((rngI n).map .int)]))
      (fun env M' => ∃ v : List Int, v.Perm (rngI n) ∧ StX p M [some (v.map .int), some []] M' ∧ ∃ x8, env = [some (.mt p), x1, x2, x3, some (.d (.int n)), x5, some (.mt M.length), some (.mt (M.length + 1)), x8, x9, x10, x11, x12, x13, x14, x15, x16, x17, x18]) t := by
  have hp := h.lt
  have q1 : (n : Int) ≤ 16777216 := by omega
  have q2 : -16777216 ≤ (n : Int) := by omega
  have q3 : n ≤ 16777216 := by omega
  have s0 : StX p M [some (([] : List Int).map .int), some ((rngI n).map .int)] (M ++ [some [], some ((rngI n).map .int)]) := by
    have := ((StX.of (Fr.refl h)).push hp (some [])).push hp (some ((rngI n).map .int))
    simpa using this
  unfold sFor
  have e0 : lB iR1 (cCons (cVar 4) (cNil)) [some (.mt p), x1, x2, x3, some (.d (.int n)), x5, some (.mt M.length), some (.mt (M.length + 1)), x8, x9, x10, x11, x12, x13, x14, x15, x16, x17, x18] (M ++ [some [], some ((rngI n).map .int)]) = .ok (rngD 0 n) (M ++ [some [], some ((rngI n).map .int)]) := by
    generalize M ++ [some [], some ((rngI n).map .int)] = M9
    simp [cVar, cK, cOp, cB, cCons, cNil, conts, cTup, lLst, cFz, cMt, pures, asB, cTru, tNt, tAn, tOr2, cAnd, cOr, cNot, cIf, cUn, cChain, oNo, oSm, cSl, lB, lIt, cIt, seqOf, lLR1, lLR2, lSS, ssL, lSX, lSY, opAnd, opBor, opShl, opShr, opIn, opNin, cCall, cCallK, cCallV, cApp, truth, tTrue, gN, gTp, gNil, gCons, gSt, sNil, sSeq, sEx, sRt, sRtN, sIf, sAs, sFor, sPar, setAll, sFrz, sAug, lComp, wipeE, opAdd, opSub, opMul, opFdv, opMod, opPow, opEq, opNe, opLt, opLe, opGt, opGe, opIs, opIsn, isNon, opNeg, revD, ixD, slD, gLen, gAbs, gInt1, gMax2, gMin2, gSrt, LIM, gSum, gTup, gList, gIsi, tyName, instB, tyNames, iR1, iR2, iEn, iZp, iAdd, opt, ixN, kwPerm, finish, startE, opMul2, gSum2, cCnt, iZp2, cDix, cItK, keyD, dIf, dIfN, dEx, dPut, dAs, dFor, dRet, dComp, msk, bDc3, ofRd, lSDk, cStar, cPop, cIdxL, gMaxX_lst, gMaxX_tup, opLeT, q1, q2, q3]
  rw [e0, OkS_ofR, Ok_ok]
  refine OkS_loop (fun r env M' => (∃ os ws : List Int, os.length = r.length ∧ os.length + ws.length = n ∧ (os ++ ws).Perm (rngI n) ∧ StX p M [some (ws.map .int), some (os.map .int)] M') ∧ ∃ x8, env = [some (.mt p), x1, x2, x3, some (.d (.int n)), x5, some (.mt M.length), some (.mt (M.length + 1)), x8, x9, x10, x11, x12, x13, x14, x15, x16, x17, x18]) _ _ _ ⟨⟨rngI n, [], by simp [rngI], by simp [rngI], by simp, s0⟩, _, rfl⟩ ?_ ?_
  · rintro d r env M' ⟨⟨os, ws, hr, hlen, hpm, s⟩, x8, rfl⟩
    refine ⟨_, rfl, ?_⟩
    have hol : 0 < os.length := by rw [hr]; simp
    have c0 : M'[M.length + 1]? = some (some (os.map .int)) := s.at_ 1 (by simp)
    have c1 : M'[M.length]? = some (some (ws.map .int)) := s.at_ 0 (by simp)
    refine OkS_k fun q kq => ?_
    have g1 : os.length ≤ 16777216 := by omega
    simp [F_law_season_right_1, cVar, cK, cOp, cB, cCons, cNil, conts, cTup, lLst, cFz, cMt, pures, asB, cTru, tNt, tAn, tOr2, cAnd, cOr, cNot, cIf, cUn, cChain, oNo, oSm, cSl, lB, lIt, cIt, seqOf, lLR1, lLR2, lSS, ssL, lSX, lSY, opAnd, opBor, opShl, opShr, opIn, opNin, cCall, cCallK, cCallV, cApp, truth, tTrue, gN, gTp, gNil, gCons, gSt, sNil, sSeq, sEx, sRt, sRtN, sIf, sAs, sFor, sPar, setAll, sFrz, sAug, lComp, wipeE, opAdd, opSub, opMul, opFdv, opMod, opPow, opEq, opNe, opLt, opLe, opGt, opGe, opIs, opIsn, isNon, opNeg, revD, ixD, slD, gLen, gAbs, gInt1, gMax2, gMin2, gSrt, LIM, gSum, gTup, gList, gIsi, tyName, instB, tyNames, iR1, iR2, iEn, iZp, iAdd, opt, ixN, kwPerm, finish, startE, opMul2, gSum2, cCnt, iZp2, cDix, cItK, keyD, dIf, dIfN, dEx, dPut, dAs, dFor, dRet, dComp, msk, bDc3, ofRd, lSDk, cStar, cPop, cIdxL, gMaxX_lst, gMaxX_tup, opLeT, c0, c1, g1, cPop]
    refine (sp_draw (many := os.length) s.pl (by omega) (by omega)).mono ?_
    rintro _ M2 ⟨i, rfl, i0, i1, fr⟩
    obtain ⟨i, rfl⟩ := Int.eq_ofNat_of_zero_le i0
    have hi : i < os.length := by omega
    have s2 := s.fr hp fr
    have d0 : M2[M.length + 1]? = some (some (os.map .int)) := s2.at_ 1 (by simp)
    have d1 : M2[M.length]? = some (some (ws.map .int)) := s2.at_ 0 (by simp)
    have s3 := (s2.put hp 1 (some ((os.eraseIdx i).map .int))).put hp 0 (some ((ws ++ [os[i]]).map .int))
    have g2 : ws.length < 16777216 := by omega
    have fin := fun x8 => kq [some (.mt p), x1, x2, x3, some (.d (.int n)), x5, some (.mt M.length), some (.mt (M.length + 1)), x8, x9, x10, x11, x12, x13, x14, x15, x16, x17, x18] _ ⟨⟨os.eraseIdx i, ws ++ [os[i]], by rw [List.length_eraseIdx, if_pos hi, hr]; simp, by rw [List.length_eraseIdx, if_pos hi, List.length_append, List.length_singleton]; omega, by
      refine List.Perm.trans ?_ hpm
      have p1 := erase_perm hi
      refine List.Perm.trans ?_ (p1.append_right ws)
      rw [← List.append_assoc]
      exact (List.perm_append_comm (l₁ := os.eraseIdx i ++ ws) (l₂ := [os[i]])), s3⟩, x8, rfl⟩
    have e1 : (M2.set (M.length + 1) (some ((os.eraseIdx i).map D.int)))[M.length]? = some (some (ws.map .int)) := by rw [List.getElem?_set_ne (by omega)]; exact d1
    have e2 : ((os.map D.int).eraseIdx i) = (os.eraseIdx i).map .int := erase_map os i
    simp [d0, hi, g1, e2, e1, g2]
    simpa using fin _
  · rintro env M' ⟨⟨os, ws, hr, hlen, hpm, s⟩, x8, rfl⟩
    have ho : os = [] := List.length_eq_zero_iff.mp (by rw [hr]; rfl)
    subst ho
    exact ⟨ws, by simpa using hpm, by simpa using s, _, rfl⟩
end PD.LW
namespace PD.LW
open PySem PySem.Spec PyProof.Rows L2 PD
theorem eqv_bls : ∀ bs : List Bool, PyData.eqvAll (bs.map .bool) (bs.map .bool) = true
  | [] => rfl
  | b :: bs => by
    have ih := eqv_bls bs
    rw [List.map_cons]
    show (PyData.eqv (.bool b) (.bool b) && PyData.eqvAll (bs.map .bool) (bs.map .bool)) = true
    rw [ih]
    cases b <;> rfl
theorem eqD_bls (bs : List Bool) : eqD (.lst (bs.map D.bl)) (.lst (bs.map D.bl)) = some true := by
  unfold eqD
  simp only [toPy, toPys_bls, Option.map_some]
  rw [if_pos ⟨shaped_bls bs, shaped_bls bs⟩]
  exact congrArg some (eqv_bls bs)
theorem add1_map {W : List Int} {i : Nat} (hi : i < W.length) : (W.map D.int).take i ++ D.int (W.getD i 0 + 1) :: (W.map D.int).drop (i + 1) = (add1 W i).map .int := by
  unfold add1
  rw [List.set_eq_take_append_cons_drop, if_pos hi, List.map_append, List.map_cons, List.map_take, List.map_drop]
theorem firstL_mem {W : List Int} {ls : List (List Int)} {z : Int} : z ∈ firstL W ls ↔ ∃ i : Nat, z = i ∧ i < W.length ∧ Can W ls i := by
  unfold firstL
  rw [keepN_mem]
  simp only [canB_iff]
theorem dec_first {W : List Int} {ls : List (List Int)} {i : Nat} (hi : i < W.length) : decide ((i : Int) ∈ firstL W ls) = canB W ls i := by
  rw [Bool.eq_iff_iff, decide_eq_true_iff, firstL_mem, canB_iff]
  constructor
  · rintro ⟨j, e, _, h⟩
    have : i = j := by omega
    rw [this]; exact h
  · intro h
    exact ⟨i, rfl, hi, h⟩
theorem due_ft {W : List Int} {ls F : List (List Int)} {WD LD FD : List D} (hWD : WD = W.map .int) (hLD : LD = ls.map rowD) (hFD : FD = F.map (resD ls)) (hF : Full ls F) (h2 : 2 ≤ W.length) (h5 : W.length ≤ 5) (hr : ∀ r ∈ ls, RowOk W.length r) (hf : ls.length ≤ 5) {p : Nat} {i : Nat} (hi : i < W.length) (M : Store) :
    (asB (cOp opIn (cK (.bl true)) (cFz (lComp (cIt (cVar 3)) [18] (gN 18) (tTrue) (cCall R__law_are_results (cCons (cVar 1) (cCons (cVar 2) (cCons (cVar 10) (cCons (cVar 18) (cNil)))))))))) [some (.mt p), some (.d (.tup WD)), some (.d (.tup LD)), some (.d (.lst FD)), some (.d (.int (W.length : Int))), none, none, none, none, none, some (.d (.int (i : Int))), none, none, none, none, none, none, none, none] M = .ok (canB W ls i) M := by
  have hFl : F.length ≤ 243 := Nat.le_trans hF.few (Nat.le_trans (Nat.pow_le_pow_right (by decide) hf) (by decide))
  have ec := comp_mapT (M := M) (env0 := [some (.mt p), some (.d (.tup WD)), some (.d (.tup LD)), some (.d (.lst FD)), some (.d (.int (W.length : Int))), none, none, none, none, none, some (.d (.int (i : Int))), none, none, none, none, none, none, none, none]) (k := 18) (fe := cCall R__law_are_results (cCons (cVar 1) (cCons (cVar 2) (cCons (cVar 10) (cCons (cVar 18) (cNil)))))) (resD ls) (fun ks => .bl (decide (∀ j, j < W.length → (finL W ls ks).getD j 0 ≤ (finL W ls ks).getD i 0))) F fun ks hks => by
    have e := R__law_are_results_eq h2 h5 hr (hF.ok ks hks) hf hi M
    rw [← hWD, ← hLD] at e
    generalize resD ls ks = RK at e ⊢
    simp [cCall, cCons, cNil, cVar, cB, e]
  have em : (F.map fun ks => D.bl (decide (∀ j, j < W.length → (finL W ls ks).getD j 0 ≤ (finL W ls ks).getD i 0))) = (F.map fun ks => decide (∀ j, j < W.length → (finL W ls ks).getD j 0 ≤ (finL W ls ks).getD i 0)).map D.bl := by rw [List.map_map]; rfl
  have ei := inD_bls (F.map fun ks => decide (∀ j, j < W.length → (finL W ls ks).getD j 0 ≤ (finL W ls ks).getD i 0))
  have ea : (F.map fun ks => decide (∀ j, j < W.length → (finL W ls ks).getD j 0 ≤ (finL W ls ks).getD i 0)).any id = canB W ls i := by
    rw [Bool.eq_iff_iff, List.any_map, List.any_eq_true, canB_iff, ← res_can hi hr]
    constructor
    · rintro ⟨ks, h1, h2⟩
      exact ⟨ks, hF.ok ks h1, of_decide_eq_true h2⟩
    · rintro ⟨ks, h1, h2⟩
      exact ⟨ks, hF.all ks h1, decide_eq_true h2⟩
  rw [em, ← hFD] at ec
  rw [ea] at ei
  have gl : (F.map fun ks => decide (∀ j, j < W.length → (finL W ls ks).getD j 0 ≤ (finL W ls ks).getD i 0)).length ≤ 16777216 := by rw [List.length_map]; omega
  have gF : FD.length ≤ 16777216 := by rw [hFD, List.length_map]; omega
  have gl2 : ((F.map fun ks => decide (∀ j, j < W.length → (finL W ls ks).getD j 0 ≤ (finL W ls ks).getD i 0)).map D.bl).length ≤ 16777216 := by rw [List.length_map]; exact gl
  generalize (F.map fun ks => decide (∀ j, j < W.length → (finL W ls ks).getD j 0 ≤ (finL W ls ks).getD i 0)).map D.bl = BD at ec ei gl2
  simp [cVar, cK, cOp, cB, cCons, cNil, conts, cTup, lLst, cFz, cMt, pures, asB, cTru, tNt, tAn, tOr2, cAnd, cOr, cNot, cIf, cUn, cChain, oNo, oSm, cSl, lB, lIt, cIt, seqOf, lLR1, lLR2, lSS, ssL, lSX, lSY, opAnd, opBor, opShl, opShr, opIn, opNin, cCall, cCallK, cCallV, cApp, truth, tTrue, gN, gTp, gNil, gCons, gSt, sNil, sSeq, sEx, sRt, sRtN, sIf, sAs, sFor, sPar, setAll, sFrz, sAug, lComp, wipeE, opAdd, opSub, opMul, opFdv, opMod, opPow, opEq, opNe, opLt, opLe, opGt, opGe, opIs, opIsn, isNon, opNeg, revD, ixD, slD, gLen, gAbs, gInt1, gMax2, gMin2, gSrt, LIM, gSum, gTup, gList, gIsi, tyName, instB, tyNames, iR1, iR2, iEn, iZp, iAdd, opt, ixN, kwPerm, finish, startE, opMul2, gSum2, cCnt, iZp2, cDix, cItK, keyD, dIf, dIfN, dEx, dPut, dAs, dFor, dRet, dComp, msk, bDc3, ofRd, lSDk, cStar, cPop, cIdxL, gMaxX_lst, gMaxX_tup, opLeT, ec, ei, gF, gl2]
theorem sea_more {W : List Int} {ls : List (List Int)} (h : SeaOk W ls) (h98 : ∀ w ∈ W, w ≤ 98) {i : Nat} (hi : i < W.length) : SeaOk (add1 W i) ls := by
  refine ⟨by rw [add1_len]; exact h.two, by rw [add1_len]; exact h.five, fun w hw => ?_, by rw [add1_len]; exact h.each, h.up, h.few⟩
  unfold add1 at hw
  rcases List.mem_or_eq_of_mem_set hw with q | q
  · exact h.wins w q
  · have h1 := h.wins _ (getD_in hi)
    have h2 := h98 _ (getD_in hi)
    omega
theorem sea_ahead {W : List Int} {a b m : Int} {rest : List (List Int)} (h : SeaOk W ([a, b, m] :: rest)) (h98 : ∀ w ∈ W, w ≤ 98) {i : Nat} (hi : i < W.length) : SeaOk (add1 W i) (if 1 < m then [a, b, m - 1] :: rest else rest) := by
  have h1 := sea_more h h98 hi
  obtain ⟨u1, u2⟩ := List.pairwise_cons.mp h1.up
  have hf := h1.few
  rw [List.length_cons] at hf
  by_cases c : 1 < m
  · rw [if_pos c]
    refine ⟨h1.two, h1.five, h1.wins, fun r hr => ?_, List.pairwise_cons.mpr ⟨fun s hs => u1 s hs, u2⟩, by rw [List.length_cons]; exact hf⟩
    rcases List.mem_cons.mp hr with rfl | q
    · obtain ⟨a', b', m', e, q1, q2, q3, q4, q5⟩ := h1.each [a, b, m] (by simp)
      simp at e
      obtain ⟨rfl, rfl, rfl⟩ := e
      exact ⟨a, b, m - 1, rfl, q1, q2, q3, by omega, by omega⟩
    · exact h1.each r (List.mem_cons_of_mem _ q)
  · rw [if_neg c]
    exact ⟨h1.two, h1.five, h1.wins, fun r hr => h1.each r (List.mem_cons_of_mem _ hr), u2, by omega⟩
theorem eqD_rows_unit (ls : List (List Int)) : eqD (.tup (ls.map rowD)) (.tup []) = some ls.isEmpty := by
  unfold eqD
  simp only [toPy, toPys_rows, Option.map_some]
  obtain ⟨h1, h2⟩ := lay_rows ls
  have s1 : SeqAt.shaped (.tuple (ls.map fun r => .tuple (r.map .int))) = true := by
    show (PyData.canLayAll0 (ls.map fun r => .tuple (r.map .int)) && decide (PyData.depthAll (ls.map fun r => .tuple (r.map .int)) + 1 ≤ 64)) = true
    rw [h1]
    exact decide_eq_true (by omega)
  have e0 : toPys [] = some [] := rfl
  rw [e0]
  simp only [Option.map_some]
  rw [if_pos ⟨s1, rfl⟩]
  cases ls with
  | nil => rfl
  | cons r ls => rfl
end PD.LW
namespace PD.LW
open PySem PySem.Spec PyProof.Rows L2 PD
/-! the last questions: a season with games left -/
theorem tail_eq {W : List Int} {ls : List (List Int)} {a b m : Int} {rest : List (List Int)} (hls : ls = [a, b, m] :: rest) (h : SeaOk W ls) (h98 : ∀ w ∈ W, w ≤ 98) : ∀ z ∈ firstL (add1 W a.toNat) (if 1 < m then [a, b, m - 1] :: rest else rest), z ∈ firstL W ls := by
  subst hls
  obtain ⟨a', b', m', e, q1, q2, q3, q4, q5⟩ := h.each [a, b, m] (by simp)
  simp at e
  obtain ⟨rfl, rfl, rfl⟩ := e
  intro z hz
  obtain ⟨i, rfl, hi, hc⟩ := firstL_mem.mp hz
  rw [add1_len] at hi
  exact firstL_mem.mpr ⟨i, rfl, hi, can_ahead q1 q2 q3 q4 hi hc⟩
theorem nil_first {W : List Int} (h2 : 2 ≤ W.length) {mx : Int} (m1 : mx ∈ W) (m2 : ∀ x ∈ W, x ≤ mx) {i : Nat} (hi : i < W.length) : canB W [] i = (W.getD i 0 == mx) := by
  rw [Bool.eq_iff_iff, canB_iff, beq_iff_eq, ← res_can hi (ls := []) (fun r hr => absurd hr List.not_mem_nil)]
  constructor
  · rintro ⟨ks, _, h⟩
    have e : finL W [] ks = W := by cases ks <;> rfl
    rw [e] at h
    obtain ⟨j, hj, ej⟩ := List.getElem_of_mem m1
    have h1 := h j hj
    rw [List.getD_eq_getElem?_getD, List.getElem?_eq_getElem hj] at h1
    have h1 : W[j] ≤ W.getD i 0 := h1
    have := m2 _ (getD_in hi)
    omega
  · intro e
    refine ⟨[], trivial, fun j hj => ?_⟩
    show W.getD j 0 ≤ W.getD i 0
    rw [e]
    exact m2 _ (getD_in hj)
theorem R__law_season_right_eq {p : Nat} {M : Store} {W : List Int} {ls : List (List Int)} (hp : Pl p M) (h : SeaOk W ls) (h98 : ∀ w ∈ W, w ≤ 98) (ht : Tri ls) (hf : ls.length ≤ 5) :
    Ok (R__law_season_right [.mt p, .d (.tup (W.map .int)), .d (.tup (ls.map rowD))] M) fun w M' => w = .d (.bl true) ∧ Fr p M M' := by
  have hpl := hp.lt
  have h2 := h.two
  have h5 := h.five
  have hr := h.row
  obtain ⟨F, hF, eAll⟩ := R__law_all_results_eq ht hf M
  have hFl : F.length ≤ 243 := Nat.le_trans hF.few (Nat.le_trans (Nat.pow_le_pow_right (by decide) hf) (by decide))
  have t1 : ∀ M, R_firsts [.d (.tup (W.map .int)), .d (.tup (ls.map rowD))] M = .ok (.d (.tup ((firstL W ls).map .int))) M := fun M => R_firsts_eq h M
  have t2 : ∀ (i : Nat), i < W.length → ∀ M, R_can_be_first [.d (.tup (W.map .int)), .d (.tup (ls.map rowD)), .d (.int i)] M = .ok (.d (.bl (canB W ls i))) M := fun i hi M => R_can_be_first_eq h hi M
  have t3 : ∀ (i : Nat), i < W.length → ∀ M, R_most_wins [.d (.tup (W.map .int)), .d (.tup (ls.map rowD)), .d (.int i)] M = .ok (.d (.int (W.getD i 0 + gL ls i))) M := fun i hi M => R_most_wins_eq h hi M
  have hdue : (firstL W ls).length ≤ W.length := (lotsR_in _ (keepN_lots _ _)).2.2
  have hdin : ∀ x ∈ firstL W ls, 0 ≤ x ∧ x < W.length := (lotsR_in _ (keepN_lots _ _)).1
  have eqdd : eqD (.tup ((firstL W ls).map .int)) (.tup ((firstL W ls).map .int)) = some true := by
    have := eqD_row (firstL W ls) (firstL W ls)
    rw [decide_eq_true rfl] at this
    exact this
  have ein : ∀ i : Int, inD (.int i) (.tup ((firstL W ls).map .int)) = some (decide (i ∈ firstL W ls)) := fun i => inD_tup i _
  obtain ⟨WD, hWD⟩ : ∃ WD, WD = W.map D.int := ⟨_, rfl⟩
  obtain ⟨LD, hLD⟩ : ∃ LD, LD = ls.map rowD := ⟨_, rfl⟩
  obtain ⟨FD, hFD⟩ : ∃ FD, FD = F.map (resD ls) := ⟨_, rfl⟩
  obtain ⟨DD, hDD⟩ : ∃ DD, DD = (firstL W ls).map D.int := ⟨_, rfl⟩
  have hWl : WD.length = W.length := by rw [hWD, List.length_map]
  have hLl : LD.length ≤ 5 := by rw [hLD, List.length_map]; exact hf
  have hDl : DD.length ≤ 5 := by rw [hDD, List.length_map]; omega
  have gD : DD.length ≤ 16777216 := by omega
  rw [← hLD, ← hFD] at eAll
  rw [← hWD, ← hLD, ← hDD] at t1
  rw [← hWD, ← hLD] at t2 t3
  rw [← hDD] at eqdd ein
  rw [← hWD, ← hLD]
  have gW : W.length ≤ 16777216 := by omega
  have gi1 : (W.length : Int) ≤ 16777216 := by omega
  have gi2 : -16777216 ≤ (W.length : Int) := by omega
  refine Ok_fn rfl ?_
  refine @OkS_seq _ _ _ _ _ _ ?_
  intro n1 k1
  simp [cVar, cK, cOp, cB, cCons, cNil, conts, cTup, lLst, cFz, cMt, pures, asB, cTru, tNt, tAn, tOr2, cAnd, cOr, cNot, cIf, cUn, cChain, oNo, oSm, cSl, lB, lIt, cIt, seqOf, lLR1, lLR2, lSS, ssL, lSX, lSY, opAnd, opBor, opShl, opShr, opIn, opNin, cCall, cCallK, cCallV, cApp, truth, tTrue, gN, gTp, gNil, gCons, gSt, sNil, sSeq, sEx, sRt, sRtN, sIf, sAs, sFor, sPar, setAll, sFrz, sAug, lComp, wipeE, opAdd, opSub, opMul, opFdv, opMod, opPow, opEq, opNe, opLt, opLe, opGt, opGe, opIs, opIsn, isNon, opNeg, revD, ixD, slD, gLen, gAbs, gInt1, gMax2, gMin2, gSrt, LIM, gSum, gTup, gList, gIsi, tyName, instB, tyNames, iR1, iR2, iEn, iZp, iAdd, opt, ixN, kwPerm, finish, startE, opMul2, gSum2, cCnt, iZp2, cDix, cItK, keyD, dIf, dIfN, dEx, dPut, dAs, dFor, dRet, dComp, msk, bDc3, ofRd, lSDk, cStar, cPop, cIdxL, gMaxX_lst, gMaxX_tup, opLeT, eAll, hWl, gW]
  apply k1
  refine @OkS_seq _ _ _ _ _ _ ?_
  intro n2 k2
  have e2 := comp_rngC (M := M) (env0 := [some (.mt p), some (.d (.tup WD)), some (.d (.tup LD)), some (.d (.lst FD)), some (.d (.int (W.length : Int))), none, none, none, none, none, none, none, none, none, none, none, none, none, none]) (k := 10) (ft := (asB (cOp opIn (cK (.bl true)) (cFz (lComp (cIt (cVar 3)) [18] (gN 18) (tTrue) (cCall R__law_are_results (cCons (cVar 1) (cCons (cVar 2) (cCons (cVar 10) (cCons (cVar 18) (cNil))))))))))) (fe := cVar 10) (canB W ls) (fun i : Nat => .int (i : Int)) W.length fun i hi => ⟨due_ft hWD hLD hFD hF h2 h5 hr hf hi M, fun _ => rfl⟩
  have ef : (((List.range W.length).filter (canB W ls)).map fun i : Nat => D.int (i : Int)) = DD := by
    rw [hDD]
    unfold firstL keepN
    rw [List.map_map]; rfl
  rw [ef] at e2
  have s2 : sAs (cB gTup (cCons (cFz (lComp (lB iR1 (cCons (cVar 4) (cNil))) [10] (gN 10) (asB (cOp opIn (cK (.bl true)) (cFz (lComp (cIt (cVar 3)) [18] (gN 18) (tTrue) (cCall R__law_are_results (cCons (cVar 1) (cCons (cVar 2) (cCons (cVar 10) (cCons (cVar 18) (cNil)))))))))) (cVar 10))) (cNil))) (gN 5) [some (.mt p), some (.d (.tup WD)), some (.d (.tup LD)), some (.d (.lst FD)), some (.d (.int (W.length : Int))), none, none, none, none, none, none, none, none, none, none, none, none, none, none] M = .nx [some (.mt p), some (.d (.tup WD)), some (.d (.tup LD)), some (.d (.lst FD)), some (.d (.int (W.length : Int))), some (.d (.tup DD)), none, none, none, none, none, none, none, none, none, none, none, none, none] M := by
    generalize (asB (cOp opIn (cK (.bl true)) (cFz (lComp (cIt (cVar 3)) [18] (gN 18) (tTrue) (cCall R__law_are_results (cCons (cVar 1) (cCons (cVar 2) (cCons (cVar 10) (cCons (cVar 18) (cNil)))))))))) = ft at e2 ⊢
    simp [cVar, cK, cOp, cB, cCons, cNil, conts, cTup, lLst, cFz, cMt, pures, asB, cTru, tNt, tAn, tOr2, cAnd, cOr, cNot, cIf, cUn, cChain, oNo, oSm, cSl, lB, lIt, cIt, seqOf, lLR1, lLR2, lSS, ssL, lSX, lSY, opAnd, opBor, opShl, opShr, opIn, opNin, cCall, cCallK, cCallV, cApp, truth, tTrue, gN, gTp, gNil, gCons, gSt, sNil, sSeq, sEx, sRt, sRtN, sIf, sAs, sFor, sPar, setAll, sFrz, sAug, lComp, wipeE, opAdd, opSub, opMul, opFdv, opMod, opPow, opEq, opNe, opLt, opLe, opGt, opGe, opIs, opIsn, isNon, opNeg, revD, ixD, slD, gLen, gAbs, gInt1, gMax2, gMin2, gSrt, LIM, gSum, gTup, gList, gIsi, tyName, instB, tyNames, iR1, iR2, iEn, iZp, iAdd, opt, ixN, kwPerm, finish, startE, opMul2, gSum2, cCnt, iZp2, cDix, cItK, keyD, dIf, dIfN, dEx, dPut, dAs, dFor, dRet, dComp, msk, bDc3, ofRd, lSDk, cStar, cPop, cIdxL, gMaxX_lst, gMaxX_tup, opLeT, gi1, gi2, gW, e2, gD]
  rw [s2, OkS_nx]
  apply k2
  refine @OkS_seq _ _ _ _ _ _ ?_
  intro n3 k3
  have e3 := comp_rng (M := M) (env0 := [some (.mt p), some (.d (.tup WD)), some (.d (.tup LD)), some (.d (.lst FD)), some (.d (.int (W.length : Int))), some (.d (.tup DD)), none, none, none, none, none, none, none, none, none, none, none, none, none]) (k := 10) (fe := cCall R_can_be_first (cCons (cVar 1) (cCons (cVar 2) (cCons (cVar 10) (cNil))))) (fun i : Nat => .bl (canB W ls i)) W.length fun i hi => by
    have e := t2 i hi M
    simp [cVar, cK, cOp, cB, cCons, cNil, conts, cTup, lLst, cFz, cMt, pures, asB, cTru, tNt, tAn, tOr2, cAnd, cOr, cNot, cIf, cUn, cChain, oNo, oSm, cSl, lB, lIt, cIt, seqOf, lLR1, lLR2, lSS, ssL, lSX, lSY, opAnd, opBor, opShl, opShr, opIn, opNin, cCall, cCallK, cCallV, cApp, truth, tTrue, gN, gTp, gNil, gCons, gSt, sNil, sSeq, sEx, sRt, sRtN, sIf, sAs, sFor, sPar, setAll, sFrz, sAug, lComp, wipeE, opAdd, opSub, opMul, opFdv, opMod, opPow, opEq, opNe, opLt, opLe, opGt, opGe, opIs, opIsn, isNon, opNeg, revD, ixD, slD, gLen, gAbs, gInt1, gMax2, gMin2, gSrt, LIM, gSum, gTup, gList, gIsi, tyName, instB, tyNames, iR1, iR2, iEn, iZp, iAdd, opt, ixN, kwPerm, finish, startE, opMul2, gSum2, cCnt, iZp2, cDix, cItK, keyD, dIf, dIfN, dEx, dPut, dAs, dFor, dRet, dComp, msk, bDc3, ofRd, lSDk, cStar, cPop, cIdxL, gMaxX_lst, gMaxX_tup, opLeT, e]
  have e4 := comp_rng (M := M) (env0 := [some (.mt p), some (.d (.tup WD)), some (.d (.tup LD)), some (.d (.lst FD)), some (.d (.int (W.length : Int))), some (.d (.tup DD)), none, none, none, none, none, none, none, none, none, none, none, none, none]) (k := 10) (fe := cOp opIn (cVar 10) (cVar 5)) (fun i : Nat => .bl (canB W ls i)) W.length fun i hi => by
    have e := ein (i : Int)
    rw [dec_first hi] at e
    simp [cVar, cK, cOp, cB, cCons, cNil, conts, cTup, lLst, cFz, cMt, pures, asB, cTru, tNt, tAn, tOr2, cAnd, cOr, cNot, cIf, cUn, cChain, oNo, oSm, cSl, lB, lIt, cIt, seqOf, lLR1, lLR2, lSS, ssL, lSX, lSY, opAnd, opBor, opShl, opShr, opIn, opNin, cCall, cCallK, cCallV, cApp, truth, tTrue, gN, gTp, gNil, gCons, gSt, sNil, sSeq, sEx, sRt, sRtN, sIf, sAs, sFor, sPar, setAll, sFrz, sAug, lComp, wipeE, opAdd, opSub, opMul, opFdv, opMod, opPow, opEq, opNe, opLt, opLe, opGt, opGe, opIs, opIsn, isNon, opNeg, revD, ixD, slD, gLen, gAbs, gInt1, gMax2, gMin2, gSrt, LIM, gSum, gTup, gList, gIsi, tyName, instB, tyNames, iR1, iR2, iEn, iZp, iAdd, opt, ixN, kwPerm, finish, startE, opMul2, gSum2, cCnt, iZp2, cDix, cItK, keyD, dIf, dIfN, dEx, dPut, dAs, dFor, dRet, dComp, msk, bDc3, ofRd, lSDk, cStar, cPop, cIdxL, gMaxX_lst, gMaxX_tup, opLeT, e]
  have eBD : ((List.range W.length).map fun i : Nat => D.bl (canB W ls i)) = ((List.range W.length).map (canB W ls)).map D.bl := by rw [List.map_map]; rfl
  have ebb := eqD_bls ((List.range W.length).map (canB W ls))
  rw [← eBD] at ebb
  have gBl : ((List.range W.length).map fun i : Nat => D.bl (canB W ls i)).length ≤ 16777216 := by rw [List.length_map, List.length_range]; exact gW
  generalize ((List.range W.length).map fun i : Nat => D.bl (canB W ls i)) = BD at e3 e4 ebb gBl
  refine OkS_if (b := false) (M1 := M) (by simp [cVar, cK, cOp, cB, cCons, cNil, conts, cTup, lLst, cFz, cMt, pures, asB, cTru, tNt, tAn, tOr2, cAnd, cOr, cNot, cIf, cUn, cChain, oNo, oSm, cSl, lB, lIt, cIt, seqOf, lLR1, lLR2, lSS, ssL, lSX, lSY, opAnd, opBor, opShl, opShr, opIn, opNin, cCall, cCallK, cCallV, cApp, truth, tTrue, gN, gTp, gNil, gCons, gSt, sNil, sSeq, sEx, sRt, sRtN, sIf, sAs, sFor, sPar, setAll, sFrz, sAug, lComp, wipeE, opAdd, opSub, opMul, opFdv, opMod, opPow, opEq, opNe, opLt, opLe, opGt, opGe, opIs, opIsn, isNon, opNeg, revD, ixD, slD, gLen, gAbs, gInt1, gMax2, gMin2, gSrt, LIM, gSum, gTup, gList, gIsi, tyName, instB, tyNames, iR1, iR2, iEn, iZp, iAdd, opt, ixN, kwPerm, finish, startE, opMul2, gSum2, cCnt, iZp2, cDix, cItK, keyD, dIf, dIfN, dEx, dPut, dAs, dFor, dRet, dComp, msk, bDc3, ofRd, lSDk, cStar, cPop, cIdxL, gMaxX_lst, gMaxX_tup, opLeT, t1, eqdd, gi1, gi2, gW, e3, e4, ebb, gBl]) (fun h => nomatch h) fun _ => ?_
  unfold sNil
  rw [OkS_nx]
  apply k3
  refine @OkS_seq _ _ _ _ _ _ ?_
  intro n4 k4
  have s4 : sPar [6, 7] (cCons (cMt (lLst (cNil))) (cCons (cMt (lLR1 (cVar 4))) (cNil))) [some (.mt p), some (.d (.tup WD)), some (.d (.tup LD)), some (.d (.lst FD)), some (.d (.int (W.length : Int))), some (.d (.tup DD)), none, none, none, none, none, none, none, none, none, none, none, none, none] M = .nx [some (.mt p), some (.d (.tup WD)), some (.d (.tup LD)), some (.d (.lst FD)), some (.d (.int (W.length : Int))), some (.d (.tup DD)), some (.mt M.length), some (.mt (M.length + 1)), none, none, none, none, none, none, none, none, none, none, none] (M ++ [some [], some ((rngI W.length).map .int)]) := by
    rw [← rng_D]
    simp [cVar, cK, cOp, cB, cCons, cNil, conts, cTup, lLst, cFz, cMt, pures, asB, cTru, tNt, tAn, tOr2, cAnd, cOr, cNot, cIf, cUn, cChain, oNo, oSm, cSl, lB, lIt, cIt, seqOf, lLR1, lLR2, lSS, ssL, lSX, lSY, opAnd, opBor, opShl, opShr, opIn, opNin, cCall, cCallK, cCallV, cApp, truth, tTrue, gN, gTp, gNil, gCons, gSt, sNil, sSeq, sEx, sRt, sRtN, sIf, sAs, sFor, sPar, setAll, sFrz, sAug, lComp, wipeE, opAdd, opSub, opMul, opFdv, opMod, opPow, opEq, opNe, opLt, opLe, opGt, opGe, opIs, opIsn, isNon, opNeg, revD, ixD, slD, gLen, gAbs, gInt1, gMax2, gMin2, gSrt, LIM, gSum, gTup, gList, gIsi, tyName, instB, tyNames, iR1, iR2, iEn, iZp, iAdd, opt, ixN, kwPerm, finish, startE, opMul2, gSum2, cCnt, iZp2, cDix, cItK, keyD, dIf, dIfN, dEx, dPut, dAs, dFor, dRet, dComp, msk, bDc3, ofRd, lSDk, cStar, cPop, cIdxL, gMaxX_lst, gMaxX_tup, opLeT, gi1, gi2]
  rw [s4, OkS_nx]
  apply k4
  refine @OkS_seq _ _ _ _ _ _ ?_
  intro n5 k5
  refine (sp_names (M0 := M) hp (by omega : W.length ≤ 9)).mono ?_ fun _ _ hh => hh
  rintro env M5 ⟨v, hv, s5, x8, rfl⟩
  have hvl : v.length = W.length := by rw [hv.length_eq]; simp [rngI]
  apply k5
  refine @OkS_seq _ _ _ _ _ _ ?_
  intro n6 k6
  have c0 : M5[M.length]? = some (some (v.map .int)) := s5.at_ 0 (by simp)
  have e6 := R__law_renamed_eq h hv c0
  rw [← hWD, ← hLD] at e6
  have t7 := R_firsts_eq (fresh_ok h hv) M5
  rw [fresh_first h hv] at t7
  obtain ⟨FW, hFW⟩ : ∃ FW, FW = (freshW W v).map D.int := ⟨_, rfl⟩
  obtain ⟨FL, hFL⟩ : ∃ FL, FL = (freshL ls v).map rowD := ⟨_, rfl⟩
  rw [← hFW, ← hFL] at e6 t7
  simp [cVar, cK, cOp, cB, cCons, cNil, conts, cTup, lLst, cFz, cMt, pures, asB, cTru, tNt, tAn, tOr2, cAnd, cOr, cNot, cIf, cUn, cChain, oNo, oSm, cSl, lB, lIt, cIt, seqOf, lLR1, lLR2, lSS, ssL, lSX, lSY, opAnd, opBor, opShl, opShr, opIn, opNin, cCall, cCallK, cCallV, cApp, truth, tTrue, gN, gTp, gNil, gCons, gSt, sNil, sSeq, sEx, sRt, sRtN, sIf, sAs, sFor, sPar, setAll, sFrz, sAug, lComp, wipeE, opAdd, opSub, opMul, opFdv, opMod, opPow, opEq, opNe, opLt, opLe, opGt, opGe, opIs, opIsn, isNon, opNeg, revD, ixD, slD, gLen, gAbs, gInt1, gMax2, gMin2, gSrt, LIM, gSum, gTup, gList, gIsi, tyName, instB, tyNames, iR1, iR2, iEn, iZp, iAdd, opt, ixN, kwPerm, finish, startE, opMul2, gSum2, cCnt, iZp2, cDix, cItK, keyD, dIf, dIfN, dEx, dPut, dAs, dFor, dRet, dComp, msk, bDc3, ofRd, lSDk, cStar, cPop, cIdxL, gMaxX_lst, gMaxX_tup, opLeT, e6]
  apply k6
  refine @OkS_seq _ _ _ _ _ _ ?_
  intro n7 k7
  have e7 := comp_intsF (M := M5) (env0 := [some (.mt p), some (.d (.tup WD)), some (.d (.tup LD)), some (.d (.lst FD)), some (.d (.int (W.length : Int))), some (.d (.tup DD)), some (.mt M.length), some (.mt (M.length + 1)), x8, some (.d (.tup [.tup FW, .tup FL])), none, none, none, none, none, none, none, none, none]) (k := 10) (fe := cOp ixD (cVar 6) (cVar 10)) (fun z => .int (v.getD z.toNat 0)) (firstL W ls) fun z hz => by
    have := hdin z hz
    obtain ⟨j, rfl⟩ := Int.eq_ofNat_of_zero_le this.1
    have ea := at_int (W := v) (i := j) (by omega)
    rw [Int.toNat_natCast]
    generalize v.getD j 0 = vj at ea ⊢
    generalize v.map D.int = VD at ea c0
    simp [cVar, cK, cOp, cB, cCons, cNil, conts, cTup, lLst, cFz, cMt, pures, asB, cTru, tNt, tAn, tOr2, cAnd, cOr, cNot, cIf, cUn, cChain, oNo, oSm, cSl, lB, lIt, cIt, seqOf, lLR1, lLR2, lSS, ssL, lSX, lSY, opAnd, opBor, opShl, opShr, opIn, opNin, cCall, cCallK, cCallV, cApp, truth, tTrue, gN, gTp, gNil, gCons, gSt, sNil, sSeq, sEx, sRt, sRtN, sIf, sAs, sFor, sPar, setAll, sFrz, sAug, lComp, wipeE, opAdd, opSub, opMul, opFdv, opMod, opPow, opEq, opNe, opLt, opLe, opGt, opGe, opIs, opIsn, isNon, opNeg, revD, ixD, slD, gLen, gAbs, gInt1, gMax2, gMin2, gSrt, LIM, gSum, gTup, gList, gIsi, tyName, instB, tyNames, iR1, iR2, iEn, iZp, iAdd, opt, ixN, kwPerm, finish, startE, opMul2, gSum2, cCnt, iZp2, cDix, cItK, keyD, dIf, dIfN, dEx, dPut, dAs, dFor, dRet, dComp, msk, bDc3, ofRd, lSDk, cStar, cPop, cIdxL, gMaxX_lst, gMaxX_tup, opLeT, c0, ea]
  have eN : ((firstL W ls).map fun z => D.int (v.getD z.toNat 0)) = ((firstL W ls).map fun z => v.getD z.toNat 0).map D.int := by rw [List.map_map]; rfl
  rw [eN, ← hDD] at e7
  have gNm : ((firstL W ls).map fun z => v.getD z.toNat 0).length ≤ 16777216 := by rw [List.length_map]; omega
  have es := gSrtD_ints _ gNm
  have eqs := eqD_row (srtI ((firstL W ls).map fun z => v.getD z.toNat 0)) (srtI ((firstL W ls).map fun z => v.getD z.toNat 0))
  rw [decide_eq_true rfl] at eqs
  have gS : ((srtI ((firstL W ls).map fun z => v.getD z.toNat 0)).map D.int).length ≤ 16777216 := by rw [List.length_map, (srtI_perm _).length_eq]; exact gNm
  have eqs : eqD (.tup ((srtI ((firstL W ls).map fun z => v.getD z.toNat 0)).map D.int)) (.tup ((srtI ((firstL W ls).map fun z => v.getD z.toNat 0)).map D.int)) = some true := eqs
  have gN2 : (((firstL W ls).map fun z => v.getD z.toNat 0).map D.int).length ≤ 16777216 := by rw [List.length_map]; exact gNm
  generalize (srtI ((firstL W ls).map fun z => v.getD z.toNat 0)).map D.int = SD at t7 es eqs gS
  generalize ((firstL W ls).map fun z => v.getD z.toNat 0).map D.int = ND at e7 es gN2
  refine OkS_if (b := false) (M1 := M5) (by simp [cVar, cK, cOp, cB, cCons, cNil, conts, cTup, lLst, cFz, cMt, pures, asB, cTru, tNt, tAn, tOr2, cAnd, cOr, cNot, cIf, cUn, cChain, oNo, oSm, cSl, lB, lIt, cIt, seqOf, lLR1, lLR2, lSS, ssL, lSX, lSY, opAnd, opBor, opShl, opShr, opIn, opNin, cCall, cCallK, cCallV, cApp, truth, tTrue, gN, gTp, gNil, gCons, gSt, sNil, sSeq, sEx, sRt, sRtN, sIf, sAs, sFor, sPar, setAll, sFrz, sAug, lComp, wipeE, opAdd, opSub, opMul, opFdv, opMod, opPow, opEq, opNe, opLt, opLe, opGt, opGe, opIs, opIsn, isNon, opNeg, revD, ixD, slD, gLen, gAbs, gInt1, gMax2, gMin2, gSrt, LIM, gSum, gTup, gList, gIsi, tyName, instB, tyNames, iR1, iR2, iEn, iZp, iAdd, opt, ixN, kwPerm, finish, startE, opMul2, gSum2, cCnt, iZp2, cDix, cItK, keyD, dIf, dIfN, dEx, dPut, dAs, dFor, dRet, dComp, msk, bDc3, ofRd, lSDk, cStar, cPop, cIdxL, gMaxX_lst, gMaxX_tup, opLeT, t7, gD, e7, gN2, es, gS, eqs]) (fun h => nomatch h) fun _ => ?_
  unfold sNil
  rw [OkS_nx]
  apply k7
  refine @OkS_seq _ _ _ _ _ _ ?_
  intro n8 k8
  obtain ⟨w, M6, et, i, rfl, i0, i1, fr6⟩ := (sp_draw (many := W.length) s5.pl (by omega) (by omega)).ex
  have s6 := s5.fr hpl fr6
  obtain ⟨i, rfl⟩ := Int.eq_ofNat_of_zero_le i0
  have hi : i < W.length := by omega
  simp [cVar, cK, cOp, cB, cCons, cNil, conts, cTup, lLst, cFz, cMt, pures, asB, cTru, tNt, tAn, tOr2, cAnd, cOr, cNot, cIf, cUn, cChain, oNo, oSm, cSl, lB, lIt, cIt, seqOf, lLR1, lLR2, lSS, ssL, lSX, lSY, opAnd, opBor, opShl, opShr, opIn, opNin, cCall, cCallK, cCallV, cApp, truth, tTrue, gN, gTp, gNil, gCons, gSt, sNil, sSeq, sEx, sRt, sRtN, sIf, sAs, sFor, sPar, setAll, sFrz, sAug, lComp, wipeE, opAdd, opSub, opMul, opFdv, opMod, opPow, opEq, opNe, opLt, opLe, opGt, opGe, opIs, opIsn, isNon, opNeg, revD, ixD, slD, gLen, gAbs, gInt1, gMax2, gMin2, gSrt, LIM, gSum, gTup, gList, gIsi, tyName, instB, tyNames, iR1, iR2, iEn, iZp, iAdd, opt, ixN, kwPerm, finish, startE, opMul2, gSum2, cCnt, iZp2, cDix, cItK, keyD, dIf, dIfN, dEx, dPut, dAs, dFor, dRet, dComp, msk, bDc3, ofRd, lSDk, cStar, cPop, cIdxL, gMaxX_lst, gMaxX_tup, opLeT, et]
  apply k8
  refine @OkS_seq _ _ _ _ _ _ ?_
  intro n9 k9
  have hm := sea_more h h98 hi
  obtain ⟨MW, hMW⟩ : ∃ MW, MW = (add1 W i).map D.int := ⟨_, rfl⟩
  have am := add1_map hi
  rw [← hWD, ← hMW] at am
  have wi := at_int hi
  rw [← hWD] at wi
  have gWD : WD.length ≤ 16777216 := by omega
  have m1 : R_firsts [.d (.tup MW), .d (.tup LD)] M6 = .ok (.d (.tup ((firstL (add1 W i) ls).map .int))) M6 := by
    rw [hMW, hLD]; exact R_firsts_eq hm M6
  have m2 : R_most_wins [.d (.tup MW), .d (.tup LD), .d (.int i)] M6 = .ok (.d (.int (W.getD i 0 + gL ls i + 1))) M6 := by
    have e := R_most_wins_eq hm (t := i) (by rw [add1_len]; exact hi) M6
    rw [← hMW, ← hLD, add1_at hi, if_pos rfl] at e
    rw [show W.getD i 0 + gL ls i + 1 = W.getD i 0 + 1 + gL ls i by omega]
    exact e
  have m3 := t3 i hi M6
  have hmore : (i : Int) ∈ firstL W ls → (i : Int) ∈ firstL (add1 W i) ls := fun c => by
    obtain ⟨j, e, _, hc⟩ := firstL_mem.mp c
    have : i = j := by omega
    subst this
    exact firstL_mem.mpr ⟨i, rfl, by rw [add1_len]; exact hi, can_more hi hc⟩
  have ein2 : inD (.int (i : Int)) (.tup ((firstL (add1 W i) ls).map .int)) = some (decide ((i : Int) ∈ firstL (add1 W i) ls)) := inD_tup _ _
  have gtk : (WD.take i).length ≤ 16777216 := by rw [List.length_take]; omega
  have gdp : (WD.drop (i + 1)).length ≤ 16777216 := by rw [List.length_drop]; omega
  have gMl : (WD.take i).length + ((WD.drop (i + 1)).length + 1) ≤ 16777216 := by rw [List.length_take, List.length_drop]; omega
  have gMl2 : (WD.take i).length + 1 ≤ 16777216 := by rw [List.length_take]; omega
  have gMl3 : (WD.take i).length + 1 + (WD.drop (i + 1)).length ≤ 16777216 := by rw [List.length_take, List.length_drop]; omega
  have s9 : sAs (cOp opAdd (cOp opAdd (cSl (cVar 1) (oNo) (oSm (cVar 10))) (cTup (cCons (cOp opAdd (cOp ixD (cVar 1) (cVar 10)) (cK (.int 1))) (cNil)))) (cSl (cVar 1) (oSm (cOp opAdd (cVar 10) (cK (.int 1)))) (oNo))) (gN 11) [some (.mt p), some (.d (.tup WD)), some (.d (.tup LD)), some (.d (.lst FD)), some (.d (.int (W.length : Int))), some (.d (.tup DD)), some (.mt M.length), some (.mt (M.length + 1)), x8, some (.d (.tup [.tup FW, .tup FL])), some (.d (.int (i : Int))), none, none, none, none, none, none, none, none] M6 = .nx [some (.mt p), some (.d (.tup WD)), some (.d (.tup LD)), some (.d (.lst FD)), some (.d (.int (W.length : Int))), some (.d (.tup DD)), some (.mt M.length), some (.mt (M.length + 1)), x8, some (.d (.tup [.tup FW, .tup FL])), some (.d (.int (i : Int))), some (.d (.tup MW)), none, none, none, none, none, none, none] M6 := by
    rw [← am]
    have ct : cutD WD none (some (i : Int)) = WD.take i := cut_to WD i
    have cd : cutD WD (some ((i : Int) + 1)) none = WD.drop (i + 1) := cut_from1 WD i
    generalize WD.take i = TK at ct gtk gMl gMl2 gMl3 ⊢
    generalize WD.drop (i + 1) = DP at cd gdp gMl gMl3 ⊢
    generalize W.getD i 0 = wv at wi ⊢
    simp [cVar, cK, cOp, cB, cCons, cNil, conts, cTup, lLst, cFz, cMt, pures, asB, cTru, tNt, tAn, tOr2, cAnd, cOr, cNot, cIf, cUn, cChain, oNo, oSm, cSl, lB, lIt, cIt, seqOf, lLR1, lLR2, lSS, ssL, lSX, lSY, opAnd, opBor, opShl, opShr, opIn, opNin, cCall, cCallK, cCallV, cApp, truth, tTrue, gN, gTp, gNil, gCons, gSt, sNil, sSeq, sEx, sRt, sRtN, sIf, sAs, sFor, sPar, setAll, sFrz, sAug, lComp, wipeE, opAdd, opSub, opMul, opFdv, opMod, opPow, opEq, opNe, opLt, opLe, opGt, opGe, opIs, opIsn, isNon, opNeg, revD, ixD, slD, gLen, gAbs, gInt1, gMax2, gMin2, gSrt, LIM, gSum, gTup, gList, gIsi, tyName, instB, tyNames, iR1, iR2, iEn, iZp, iAdd, opt, ixN, kwPerm, finish, startE, opMul2, gSum2, cCnt, iZp2, cDix, cItK, keyD, dIf, dIfN, dEx, dPut, dAs, dFor, dRet, dComp, msk, bDc3, ofRd, lSDk, cStar, cPop, cIdxL, gMaxX_lst, gMaxX_tup, opLeT, -cut_to, -cut_from1, ct, cd, wi, gWD, gtk, gdp, gMl, gMl2, gMl3]
  rw [s9, OkS_nx]
  apply k9
  refine @OkS_seq _ _ _ _ _ _ ?_
  intro n10 k10
  have ein1 := ein (i : Int)
  have emm : eqD (.int (W.getD i 0 + gL ls i + 1)) (.int (W.getD i 0 + gL ls i + 1)) = some true := by rw [eqD_int]; simp
  generalize W.getD i 0 + gL ls i = q at m2 m3 emm
  generalize (firstL (add1 W i) ls).map D.int = DM at m1 ein2
  refine OkS_if (b := false) (M1 := M6) ?_ (fun h => nomatch h) fun _ => ?_
  · by_cases c : (i : Int) ∈ firstL W ls
    · rw [decide_eq_true c] at ein1
      rw [decide_eq_true (hmore c)] at ein2
      simp [cVar, cK, cOp, cB, cCons, cNil, conts, cTup, lLst, cFz, cMt, pures, asB, cTru, tNt, tAn, tOr2, cAnd, cOr, cNot, cIf, cUn, cChain, oNo, oSm, cSl, lB, lIt, cIt, seqOf, lLR1, lLR2, lSS, ssL, lSX, lSY, opAnd, opBor, opShl, opShr, opIn, opNin, cCall, cCallK, cCallV, cApp, truth, tTrue, gN, gTp, gNil, gCons, gSt, sNil, sSeq, sEx, sRt, sRtN, sIf, sAs, sFor, sPar, setAll, sFrz, sAug, lComp, wipeE, opAdd, opSub, opMul, opFdv, opMod, opPow, opEq, opNe, opLt, opLe, opGt, opGe, opIs, opIsn, isNon, opNeg, revD, ixD, slD, gLen, gAbs, gInt1, gMax2, gMin2, gSrt, LIM, gSum, gTup, gList, gIsi, tyName, instB, tyNames, iR1, iR2, iEn, iZp, iAdd, opt, ixN, kwPerm, finish, startE, opMul2, gSum2, cCnt, iZp2, cDix, cItK, keyD, dIf, dIfN, dEx, dPut, dAs, dFor, dRet, dComp, msk, bDc3, ofRd, lSDk, cStar, cPop, cIdxL, gMaxX_lst, gMaxX_tup, opLeT, ein1, m1, ein2, m2, m3, emm]
    · rw [decide_eq_false c] at ein1
      simp [cVar, cK, cOp, cB, cCons, cNil, conts, cTup, lLst, cFz, cMt, pures, asB, cTru, tNt, tAn, tOr2, cAnd, cOr, cNot, cIf, cUn, cChain, oNo, oSm, cSl, lB, lIt, cIt, seqOf, lLR1, lLR2, lSS, ssL, lSX, lSY, opAnd, opBor, opShl, opShr, opIn, opNin, cCall, cCallK, cCallV, cApp, truth, tTrue, gN, gTp, gNil, gCons, gSt, sNil, sSeq, sEx, sRt, sRtN, sIf, sAs, sFor, sPar, setAll, sFrz, sAug, lComp, wipeE, opAdd, opSub, opMul, opFdv, opMod, opPow, opEq, opNe, opLt, opLe, opGt, opGe, opIs, opIsn, isNon, opNeg, revD, ixD, slD, gLen, gAbs, gInt1, gMax2, gMin2, gSrt, LIM, gSum, gTup, gList, gIsi, tyName, instB, tyNames, iR1, iR2, iEn, iZp, iAdd, opt, ixN, kwPerm, finish, startE, opMul2, gSum2, cCnt, iZp2, cDix, cItK, keyD, dIf, dIfN, dEx, dPut, dAs, dFor, dRet, dComp, msk, bDc3, ofRd, lSDk, cStar, cPop, cIdxL, gMaxX_lst, gMaxX_tup, opLeT, ein1, m2, m3, emm]
  unfold sNil
  rw [OkS_nx]
  apply k10
  refine @OkS_seq _ _ _ _ _ _ ?_
  intro n11 k11
  have eul := eqD_rows_unit ls
  rw [← hLD] at eul
  refine OkS_if (b := ls.isEmpty) (M1 := M6) (by simp [cVar, cK, cOp, cB, cCons, cNil, conts, cTup, lLst, cFz, cMt, pures, asB, cTru, tNt, tAn, tOr2, cAnd, cOr, cNot, cIf, cUn, cChain, oNo, oSm, cSl, lB, lIt, cIt, seqOf, lLR1, lLR2, lSS, ssL, lSX, lSY, opAnd, opBor, opShl, opShr, opIn, opNin, cCall, cCallK, cCallV, cApp, truth, tTrue, gN, gTp, gNil, gCons, gSt, sNil, sSeq, sEx, sRt, sRtN, sIf, sAs, sFor, sPar, setAll, sFrz, sAug, lComp, wipeE, opAdd, opSub, opMul, opFdv, opMod, opPow, opEq, opNe, opLt, opLe, opGt, opGe, opIs, opIsn, isNon, opNeg, revD, ixD, slD, gLen, gAbs, gInt1, gMax2, gMin2, gSrt, LIM, gSum, gTup, gList, gIsi, tyName, instB, tyNames, iR1, iR2, iEn, iZp, iAdd, opt, ixN, kwPerm, finish, startE, opMul2, gSum2, cCnt, iZp2, cDix, cItK, keyD, dIf, dIfN, dEx, dPut, dAs, dFor, dRet, dComp, msk, bDc3, ofRd, lSDk, cStar, cPop, cIdxL, gMaxX_lst, gMaxX_tup, opLeT, eul]) (fun hb => ?_) fun hb => ?_
  · -- no games left
    have hnil : ls = [] := by simpa using hb
    obtain ⟨mx, mx1, mx2, mx3⟩ := gMaxL_ints (ns := W) (fun c => by rw [c] at h2; simp at h2)
    rw [← hWD] at mx3
    have e17 := comp_rngC (M := M6) (env0 := [some (.mt p), some (.d (.tup WD)), some (.d (.tup LD)), some (.d (.lst FD)), some (.d (.int (W.length : Int))), some (.d (.tup DD)), some (.mt M.length), some (.mt (M.length + 1)), x8, some (.d (.tup [.tup FW, .tup FL])), some (.d (.int (i : Int))), some (.d (.tup MW)), none, none, none, none, none, none, none]) (k := 17) (ft := asB (cOp opEq (cOp ixD (cVar 1) (cVar 17)) (cB gMaxX (cCons (cVar 1) (cNil))))) (fe := cVar 17) (canB W ls) (fun j : Nat => .int (j : Int)) W.length fun j hj => by
      have wj := at_int hj
      rw [← hWD] at wj
      have ec : canB W ls j = (W.getD j 0 == mx) := by rw [hnil]; exact nil_first h2 mx1 mx2 hj
      rw [ec]
      generalize W.getD j 0 = wv at wj ⊢
      exact ⟨by simp [cVar, cK, cOp, cB, cCons, cNil, conts, cTup, lLst, cFz, cMt, pures, asB, cTru, tNt, tAn, tOr2, cAnd, cOr, cNot, cIf, cUn, cChain, oNo, oSm, cSl, lB, lIt, cIt, seqOf, lLR1, lLR2, lSS, ssL, lSX, lSY, opAnd, opBor, opShl, opShr, opIn, opNin, cCall, cCallK, cCallV, cApp, truth, tTrue, gN, gTp, gNil, gCons, gSt, sNil, sSeq, sEx, sRt, sRtN, sIf, sAs, sFor, sPar, setAll, sFrz, sAug, lComp, wipeE, opAdd, opSub, opMul, opFdv, opMod, opPow, opEq, opNe, opLt, opLe, opGt, opGe, opIs, opIsn, isNon, opNeg, revD, ixD, slD, gLen, gAbs, gInt1, gMax2, gMin2, gSrt, LIM, gSum, gTup, gList, gIsi, tyName, instB, tyNames, iR1, iR2, iEn, iZp, iAdd, opt, ixN, kwPerm, finish, startE, opMul2, gSum2, cCnt, iZp2, cDix, cItK, keyD, dIf, dIfN, dEx, dPut, dAs, dFor, dRet, dComp, msk, bDc3, ofRd, lSDk, cStar, cPop, cIdxL, gMaxX_lst, gMaxX_tup, opLeT, wj, mx3], fun _ => rfl⟩
    rw [ef] at e17
    generalize (asB (cOp opEq (cOp ixD (cVar 1) (cVar 17)) (cB gMaxX (cCons (cVar 1) (cNil))))) = ft at e17 ⊢
    simp [cVar, cK, cOp, cB, cCons, cNil, conts, cTup, lLst, cFz, cMt, pures, asB, cTru, tNt, tAn, tOr2, cAnd, cOr, cNot, cIf, cUn, cChain, oNo, oSm, cSl, lB, lIt, cIt, seqOf, lLR1, lLR2, lSS, ssL, lSX, lSY, opAnd, opBor, opShl, opShr, opIn, opNin, cCall, cCallK, cCallV, cApp, truth, tTrue, gN, gTp, gNil, gCons, gSt, sNil, sSeq, sEx, sRt, sRtN, sIf, sAs, sFor, sPar, setAll, sFrz, sAug, lComp, wipeE, opAdd, opSub, opMul, opFdv, opMod, opPow, opEq, opNe, opLt, opLe, opGt, opGe, opIs, opIsn, isNon, opNeg, revD, ixD, slD, gLen, gAbs, gInt1, gMax2, gMin2, gSrt, LIM, gSum, gTup, gList, gIsi, tyName, instB, tyNames, iR1, iR2, iEn, iZp, iAdd, opt, ixN, kwPerm, finish, startE, opMul2, gSum2, cCnt, iZp2, cDix, cItK, keyD, dIf, dIfN, dEx, dPut, dAs, dFor, dRet, dComp, msk, bDc3, ofRd, lSDk, cStar, cPop, cIdxL, gMaxX_lst, gMaxX_tup, opLeT, gi1, gi2, gW, e17, gD, eqdd]
    exact s6.done hpl
  unfold sNil
  rw [OkS_nx]
  apply k11
  refine @OkS_seq _ _ _ _ _ _ ?_
  intro n12 k12
  obtain ⟨r, rest, hls⟩ : ∃ r rest, ls = r :: rest := by
    cases hq : ls with
    | nil => rw [hq] at hb; cases hb
    | cons r rest => exact ⟨r, rest, rfl⟩
  obtain ⟨a, b, m, rfl, q1, q2, q3, q4, q5⟩ := h.each r (by rw [hls]; simp)
  obtain ⟨a, rfl⟩ := Int.eq_ofNat_of_zero_le q1
  have hal : a < W.length := by omega
  have l0 : LD[0]? = some (.tup [.int a, .int b, .int m]) := by rw [hLD, hls]; rfl
  simp [cVar, cK, cOp, cB, cCons, cNil, conts, cTup, lLst, cFz, cMt, pures, asB, cTru, tNt, tAn, tOr2, cAnd, cOr, cNot, cIf, cUn, cChain, oNo, oSm, cSl, lB, lIt, cIt, seqOf, lLR1, lLR2, lSS, ssL, lSX, lSY, opAnd, opBor, opShl, opShr, opIn, opNin, cCall, cCallK, cCallV, cApp, truth, tTrue, gN, gTp, gNil, gCons, gSt, sNil, sSeq, sEx, sRt, sRtN, sIf, sAs, sFor, sPar, setAll, sFrz, sAug, lComp, wipeE, opAdd, opSub, opMul, opFdv, opMod, opPow, opEq, opNe, opLt, opLe, opGt, opGe, opIs, opIsn, isNon, opNeg, revD, ixD, slD, gLen, gAbs, gInt1, gMax2, gMin2, gSrt, LIM, gSum, gTup, gList, gIsi, tyName, instB, tyNames, iR1, iR2, iEn, iZp, iAdd, opt, ixN, kwPerm, finish, startE, opMul2, gSum2, cCnt, iZp2, cDix, cItK, keyD, dIf, dIfN, dEx, dPut, dAs, dFor, dRet, dComp, msk, bDc3, ofRd, lSDk, cStar, cPop, cIdxL, gMaxX_lst, gMaxX_tup, opLeT, l0]
  apply k12
  refine @OkS_seq _ _ _ _ _ _ ?_
  intro n13 k13
  have hsa := sea_ahead (hls ▸ h) h98 hal
  have htail := tail_eq hls h h98
  rw [Int.toNat_natCast] at htail
  obtain ⟨AW, hAW⟩ : ∃ AW, AW = (add1 W a).map D.int := ⟨_, rfl⟩
  have aa := add1_map hal
  rw [← hWD, ← hAW] at aa
  have wa := at_int hal
  rw [← hWD] at wa
  have gtk : (WD.take a).length ≤ 16777216 := by rw [List.length_take]; omega
  have gdp : (WD.drop (a + 1)).length ≤ 16777216 := by rw [List.length_drop]; omega
  have gMl : (WD.take a).length + ((WD.drop (a + 1)).length + 1) ≤ 16777216 := by rw [List.length_take, List.length_drop]; omega
  have gMl2 : (WD.take a).length + 1 ≤ 16777216 := by rw [List.length_take]; omega
  have gMl3 : (WD.take a).length + 1 + (WD.drop (a + 1)).length ≤ 16777216 := by rw [List.length_take, List.length_drop]; omega
  have s13 : sAs (cOp opAdd (cOp opAdd (cSl (cVar 1) (oNo) (oSm (cVar 12))) (cTup (cCons (cOp opAdd (cOp ixD (cVar 1) (cVar 12)) (cK (.int 1))) (cNil)))) (cSl (cVar 1) (oSm (cOp opAdd (cVar 12) (cK (.int 1)))) (oNo))) (gN 15) [some (.mt p), some (.d (.tup WD)), some (.d (.tup LD)), some (.d (.lst FD)), some (.d (.int (W.length : Int))), some (.d (.tup DD)), some (.mt M.length), some (.mt (M.length + 1)), x8, some (.d (.tup [.tup FW, .tup FL])), some (.d (.int (i : Int))), some (.d (.tup MW)), some (.d (.int (a : Int))), some (.d (.int b)), some (.d (.int m)), none, none, none, none] M6 = .nx [some (.mt p), some (.d (.tup WD)), some (.d (.tup LD)), some (.d (.lst FD)), some (.d (.int (W.length : Int))), some (.d (.tup DD)), some (.mt M.length), some (.mt (M.length + 1)), x8, some (.d (.tup [.tup FW, .tup FL])), some (.d (.int (i : Int))), some (.d (.tup MW)), some (.d (.int (a : Int))), some (.d (.int b)), some (.d (.int m)), some (.d (.tup AW)), none, none, none] M6 := by
    rw [← aa]
    have ct : cutD WD none (some (a : Int)) = WD.take a := cut_to WD a
    have cd : cutD WD (some ((a : Int) + 1)) none = WD.drop (a + 1) := cut_from1 WD a
    generalize WD.take a = TK at ct gtk gMl gMl2 gMl3 ⊢
    generalize WD.drop (a + 1) = DP at cd gdp gMl gMl3 ⊢
    generalize W.getD a 0 = wv at wa ⊢
    simp [cVar, cK, cOp, cB, cCons, cNil, conts, cTup, lLst, cFz, cMt, pures, asB, cTru, tNt, tAn, tOr2, cAnd, cOr, cNot, cIf, cUn, cChain, oNo, oSm, cSl, lB, lIt, cIt, seqOf, lLR1, lLR2, lSS, ssL, lSX, lSY, opAnd, opBor, opShl, opShr, opIn, opNin, cCall, cCallK, cCallV, cApp, truth, tTrue, gN, gTp, gNil, gCons, gSt, sNil, sSeq, sEx, sRt, sRtN, sIf, sAs, sFor, sPar, setAll, sFrz, sAug, lComp, wipeE, opAdd, opSub, opMul, opFdv, opMod, opPow, opEq, opNe, opLt, opLe, opGt, opGe, opIs, opIsn, isNon, opNeg, revD, ixD, slD, gLen, gAbs, gInt1, gMax2, gMin2, gSrt, LIM, gSum, gTup, gList, gIsi, tyName, instB, tyNames, iR1, iR2, iEn, iZp, iAdd, opt, ixN, kwPerm, finish, startE, opMul2, gSum2, cCnt, iZp2, cDix, cItK, keyD, dIf, dIfN, dEx, dPut, dAs, dFor, dRet, dComp, msk, bDc3, ofRd, lSDk, cStar, cPop, cIdxL, gMaxX_lst, gMaxX_tup, opLeT, -cut_to, -cut_from1, ct, cd, wa, gWD, gtk, gdp, gMl, gMl2, gMl3]
  rw [s13, OkS_nx]
  apply k13
  refine @OkS_seq _ _ _ _ _ _ ?_
  intro n14 k14
  obtain ⟨RL, hRL⟩ : ∃ RL, RL = (if 1 < m then [(a : Int), b, m - 1] :: rest else rest) := ⟨_, rfl⟩
  rw [← hRL] at hsa htail
  have ld1 : LD.drop 1 = rest.map rowD := by rw [hLD, hls]; rfl
  have c1L : cutD LD (some 1) none = rest.map rowD := by rw [cut_from_1, ld1]
  have hrl : rest.length ≤ 5 := by
    have := congrArg List.length hls
    rw [List.length_cons] at this
    omega
  have gLD : LD.length ≤ 16777216 := by omega
  have s14 : sAs (cOp opAdd (cIf (asB (cOp opGt (cVar 14) (cK (.int 1)))) (cTup (cCons (cTup (cCons (cVar 12) (cCons (cVar 13) (cCons (cOp opSub (cVar 14) (cK (.int 1))) (cNil))))) (cNil))) (cTup (cNil))) (cSl (cVar 2) (oSm (cK (.int 1))) (oNo))) (gN 16) [some (.mt p), some (.d (.tup WD)), some (.d (.tup LD)), some (.d (.lst FD)), some (.d (.int (W.length : Int))), some (.d (.tup DD)), some (.mt M.length), some (.mt (M.length + 1)), x8, some (.d (.tup [.tup FW, .tup FL])), some (.d (.int (i : Int))), some (.d (.tup MW)), some (.d (.int (a : Int))), some (.d (.int b)), some (.d (.int m)), some (.d (.tup AW)), none, none, none] M6 = .nx [some (.mt p), some (.d (.tup WD)), some (.d (.tup LD)), some (.d (.lst FD)), some (.d (.int (W.length : Int))), some (.d (.tup DD)), some (.mt M.length), some (.mt (M.length + 1)), x8, some (.d (.tup [.tup FW, .tup FL])), some (.d (.int (i : Int))), some (.d (.tup MW)), some (.d (.int (a : Int))), some (.d (.int b)), some (.d (.int m)), some (.d (.tup AW)), some (.d (.tup (RL.map rowD))), none, none] M6 := by
    rw [hRL]
    by_cases c : 1 < m
    · have g1 : 1 + (rest.map rowD).length ≤ 16777216 := by rw [List.length_map]; omega
      have g0 : (rest.map rowD).length ≤ 16777216 := by omega
      have eR : ([(a : Int), b, m - 1] :: rest).map rowD = .tup [.int a, .int b, .int (m - 1)] :: rest.map rowD := rfl
      rw [if_pos c, eR]
      generalize rest.map rowD = RD at c1L g1 g0 ⊢
      simp [cVar, cK, cOp, cB, cCons, cNil, conts, cTup, lLst, cFz, cMt, pures, asB, cTru, tNt, tAn, tOr2, cAnd, cOr, cNot, cIf, cUn, cChain, oNo, oSm, cSl, lB, lIt, cIt, seqOf, lLR1, lLR2, lSS, ssL, lSX, lSY, opAnd, opBor, opShl, opShr, opIn, opNin, cCall, cCallK, cCallV, cApp, truth, tTrue, gN, gTp, gNil, gCons, gSt, sNil, sSeq, sEx, sRt, sRtN, sIf, sAs, sFor, sPar, setAll, sFrz, sAug, lComp, wipeE, opAdd, opSub, opMul, opFdv, opMod, opPow, opEq, opNe, opLt, opLe, opGt, opGe, opIs, opIsn, isNon, opNeg, revD, ixD, slD, gLen, gAbs, gInt1, gMax2, gMin2, gSrt, LIM, gSum, gTup, gList, gIsi, tyName, instB, tyNames, iR1, iR2, iEn, iZp, iAdd, opt, ixN, kwPerm, finish, startE, opMul2, gSum2, cCnt, iZp2, cDix, cItK, keyD, dIf, dIfN, dEx, dPut, dAs, dFor, dRet, dComp, msk, bDc3, ofRd, lSDk, cStar, cPop, cIdxL, gMaxX_lst, gMaxX_tup, opLeT, -cut_from_1, c, c1L, gLD, g1, g0]
    · have g0 : (rest.map rowD).length ≤ 16777216 := by rw [List.length_map]; omega
      rw [if_neg c]
      generalize rest.map rowD = RD at c1L g0 ⊢
      simp [cVar, cK, cOp, cB, cCons, cNil, conts, cTup, lLst, cFz, cMt, pures, asB, cTru, tNt, tAn, tOr2, cAnd, cOr, cNot, cIf, cUn, cChain, oNo, oSm, cSl, lB, lIt, cIt, seqOf, lLR1, lLR2, lSS, ssL, lSX, lSY, opAnd, opBor, opShl, opShr, opIn, opNin, cCall, cCallK, cCallV, cApp, truth, tTrue, gN, gTp, gNil, gCons, gSt, sNil, sSeq, sEx, sRt, sRtN, sIf, sAs, sFor, sPar, setAll, sFrz, sAug, lComp, wipeE, opAdd, opSub, opMul, opFdv, opMod, opPow, opEq, opNe, opLt, opLe, opGt, opGe, opIs, opIsn, isNon, opNeg, revD, ixD, slD, gLen, gAbs, gInt1, gMax2, gMin2, gSrt, LIM, gSum, gTup, gList, gIsi, tyName, instB, tyNames, iR1, iR2, iEn, iZp, iAdd, opt, ixN, kwPerm, finish, startE, opMul2, gSum2, cCnt, iZp2, cDix, cItK, keyD, dIf, dIfN, dEx, dPut, dAs, dFor, dRet, dComp, msk, bDc3, ofRd, lSDk, cStar, cPop, cIdxL, gMaxX_lst, gMaxX_tup, opLeT, -cut_from_1, c, c1L, gLD, g0]
  rw [s14, OkS_nx]
  apply k14
  have e15 : R_firsts [.d (.tup AW), .d (.tup (RL.map rowD))] M6 = .ok (.d (.tup ((firstL (add1 W a) RL).map .int))) M6 := by
    rw [hAW]; exact R_firsts_eq hsa M6
  have hfl2 : (firstL (add1 W a) RL).length ≤ 16777216 := by
    have : (firstL (add1 W a) RL).length ≤ (add1 W a).length := (lotsR_in _ (keepN_lots (add1 W a).length (canB (add1 W a) RL))).2.2
    rw [add1_len] at this
    omega
  generalize RL.map rowD = RD at e15 ⊢
  have e16 := comp_intsC (M := M6) (env0 := [some (.mt p), some (.d (.tup WD)), some (.d (.tup LD)), some (.d (.lst FD)), some (.d (.int (W.length : Int))), some (.d (.tup DD)), some (.mt M.length), some (.mt (M.length + 1)), x8, some (.d (.tup [.tup FW, .tup FL])), some (.d (.int (i : Int))), some (.d (.tup MW)), some (.d (.int (a : Int))), some (.d (.int b)), some (.d (.int m)), some (.d (.tup AW)), some (.d (.tup RD)), none, none]) (k := 17) (ft := asB (cOp opNin (cVar 17) (cVar 5))) (fe := cVar 17) (fun _ => false) (fun z => .int z) (firstL (add1 W a) RL) fun z hz => by
    have e := ein z
    rw [decide_eq_true (htail z hz)] at e
    exact ⟨by simp [cVar, cK, cOp, cB, cCons, cNil, conts, cTup, lLst, cFz, cMt, pures, asB, cTru, tNt, tAn, tOr2, cAnd, cOr, cNot, cIf, cUn, cChain, oNo, oSm, cSl, lB, lIt, cIt, seqOf, lLR1, lLR2, lSS, ssL, lSX, lSY, opAnd, opBor, opShl, opShr, opIn, opNin, cCall, cCallK, cCallV, cApp, truth, tTrue, gN, gTp, gNil, gCons, gSt, sNil, sSeq, sEx, sRt, sRtN, sIf, sAs, sFor, sPar, setAll, sFrz, sAug, lComp, wipeE, opAdd, opSub, opMul, opFdv, opMod, opPow, opEq, opNe, opLt, opLe, opGt, opGe, opIs, opIsn, isNon, opNeg, revD, ixD, slD, gLen, gAbs, gInt1, gMax2, gMin2, gSrt, LIM, gSum, gTup, gList, gIsi, tyName, instB, tyNames, iR1, iR2, iEn, iZp, iAdd, opt, ixN, kwPerm, finish, startE, opMul2, gSum2, cCnt, iZp2, cDix, cItK, keyD, dIf, dIfN, dEx, dPut, dAs, dFor, dRet, dComp, msk, bDc3, ofRd, lSDk, cStar, cPop, cIdxL, gMaxX_lst, gMaxX_tup, opLeT, e], fun _ => rfl⟩
  rw [List.filter_eq_nil_iff.mpr (by simp)] at e16
  simp [cVar, cK, cOp, cB, cCons, cNil, conts, cTup, lLst, cFz, cMt, pures, asB, cTru, tNt, tAn, tOr2, cAnd, cOr, cNot, cIf, cUn, cChain, oNo, oSm, cSl, lB, lIt, cIt, seqOf, lLR1, lLR2, lSS, ssL, lSX, lSY, opAnd, opBor, opShl, opShr, opIn, opNin, cCall, cCallK, cCallV, cApp, truth, tTrue, gN, gTp, gNil, gCons, gSt, sNil, sSeq, sEx, sRt, sRtN, sIf, sAs, sFor, sPar, setAll, sFrz, sAug, lComp, wipeE, opAdd, opSub, opMul, opFdv, opMod, opPow, opEq, opNe, opLt, opLe, opGt, opGe, opIs, opIsn, isNon, opNeg, revD, ixD, slD, gLen, gAbs, gInt1, gMax2, gMin2, gSrt, LIM, gSum, gTup, gList, gIsi, tyName, instB, tyNames, iR1, iR2, iEn, iZp, iAdd, opt, ixN, kwPerm, finish, startE, opMul2, gSum2, cCnt, iZp2, cDix, cItK, keyD, dIf, dIfN, dEx, dPut, dAs, dFor, dRet, dComp, msk, bDc3, ofRd, lSDk, cStar, cPop, cIdxL, gMaxX_lst, gMaxX_tup, opLeT, e15, hfl2, e16]
  exact s6.done hpl
end PD.LW
namespace PD.LW
open PySem PySem.Spec PyProof.Rows L2 PD
/-! a drawn season -/
theorem ints_of' {P : Int → Prop} : ∀ {zs : List D}, (∀ z ∈ zs, ∃ i : Int, z = .int i ∧ P i) → ∃ ns : List Int, zs = ns.map .int ∧ ∀ i ∈ ns, P i
  | [], _ => ⟨[], rfl, fun _ h => nomatch h⟩
  | z :: zs, h => by
    obtain ⟨i, rfl, hi⟩ := h z (by simp)
    obtain ⟨ns, rfl, hn⟩ := ints_of' (P := P) fun y hy => h y (List.mem_cons_of_mem _ hy)
    refine ⟨i :: ns, rfl, fun j hj => ?_⟩
    rcases List.mem_cons.mp hj with rfl | q
    · exact hi
    · exact hn j q
structure Drawn (n : Nat) (one two : Nat) (L : List (List Int)) : Prop where
  each : ∀ r ∈ L, ∃ a b m : Int, r = [a, b, m] ∧ 0 ≤ a ∧ a < b ∧ b < n ∧ 1 ≤ m ∧ m ≤ 2 ∧ (a < one ∨ (a = one ∧ b < two))
  up : L.Pairwise fun r s => r.getD 0 0 < s.getD 0 0 ∨ (r.getD 0 0 = s.getD 0 0 ∧ r.getD 1 0 < s.getD 1 0)
  few : L.length ≤ one * 9 + two
theorem Drawn.skip {n one two : Nat} {L : List (List Int)} (h : Drawn n one two L) : Drawn n one (two + 1) L :=
  ⟨fun r hr => by
    obtain ⟨a, b, m, e, q1, q2, q3, q4, q5, q6⟩ := h.each r hr
    exact ⟨a, b, m, e, q1, q2, q3, q4, q5, by omega⟩, h.up, by have := h.few; omega⟩
theorem Drawn.next {n one two : Nat} {L : List (List Int)} (h : Drawn n one two L) (h1 : one < two) (h2 : two < n) {m : Int} (m1 : 1 ≤ m) (m2 : m ≤ 2) : Drawn n one (two + 1) (L ++ [[(one : Int), (two : Int), m]]) := by
  refine ⟨fun r hr => ?_, ?_, ?_⟩
  · rcases List.mem_append.mp hr with q | q
    · exact h.skip.each r q
    · rw [List.mem_singleton.mp q]
      exact ⟨one, two, m, rfl, by omega, by omega, by omega, m1, m2, by omega⟩
  · rw [List.pairwise_append]
    refine ⟨h.up, List.pairwise_singleton _ _, fun r hr s hs => ?_⟩
    rw [List.mem_singleton.mp hs]
    obtain ⟨a, b, m', rfl, q1, q2, q3, q4, q5, q6⟩ := h.each r hr
    show a < (one : Int) ∨ (a = (one : Int) ∧ b < (two : Int))
    omega
  · rw [List.length_append, List.length_singleton]
    have := h.few
    omega
theorem Drawn.turn {n one : Nat} {L : List (List Int)} (hn : n ≤ 4) (h : Drawn n one n L) : Drawn n (one + 1) (one + 2) L :=
  ⟨fun r hr => by
    obtain ⟨a, b, m, e, q1, q2, q3, q4, q5, q6⟩ := h.each r hr
    exact ⟨a, b, m, e, q1, q2, q3, q4, q5, by omega⟩, h.up, by have := h.few; omega⟩
theorem draw_step {p : Nat} {M0 M : Store} {n one two : Nat} {L : List (List Int)} {x1 x3 x4 x5 x9 : Option PD.W} {t : PD.W → Store → Prop} (f0 : Fr p M0 M) (hn : n ≤ 4) (h : Drawn n one two L) (h1 : one < two) (h2 : two < n) :
    OkS (F_law_season_1 [some (.mt p), x1, some (.d (.int 2)), x3, x4, x5, some (.d (.tup (L.map rowD))), some (.d (.int (one : Int))), some (.d (.int (two : Int))), x9] M)
      (fun env M' => ∃ L', Drawn n one (two + 1) L' ∧ env = [some (.mt p), x1, some (.d (.int 2)), x3, x4, x5, some (.d (.tup (L'.map rowD))), some (.d (.int (one : Int))), some (.d (.int (two : Int))), x9] ∧ Fr p M0 M') t := by
  obtain ⟨w, M1, e1, i, rfl, i0, i1, fr1⟩ := (sp_draw (many := 3) f0.pl (by decide) (by decide)).ex
  have f1 := f0.trans fr1
  have hLl : L.length ≤ 40 := by have := h.few; omega
  have g1 : (L.map rowD).length + 1 ≤ 16777216 := by rw [List.length_map]; omega
  have g0 : (L.map rowD).length ≤ 16777216 := by rw [List.length_map]; omega
  by_cases c : 0 < i
  · obtain ⟨w, M2, e2, j, rfl, j0, j1, fr2⟩ := (sp_draw (many := 2) f1.pl (by decide) (by decide)).ex
    have f2 := f1.trans fr2
    have es : F_law_season_1 [some (.mt p), x1, some (.d (.int 2)), x3, x4, x5, some (.d (.tup (L.map rowD))), some (.d (.int (one : Int))), some (.d (.int (two : Int))), x9] M = .nx [some (.mt p), x1, some (.d (.int 2)), x3, x4, x5, some (.d (.tup (L.map rowD ++ [.tup [.int one, .int two, .int (1 + j)]]))), some (.d (.int (one : Int))), some (.d (.int (two : Int))), x9] M2 := by
      generalize L.map rowD = RD at g1 ⊢
      generalize (one : Int) = o
      generalize (two : Int) = w
      unfold F_law_season_1
      simp [cVar, cK, cOp, cB, cCons, cNil, conts, cTup, lLst, cFz, cMt, pures, asB, cTru, tNt, tAn, tOr2, cAnd, cOr, cNot, cIf, cUn, cChain, oNo, oSm, cSl, lB, lIt, cIt, seqOf, lLR1, lLR2, lSS, ssL, lSX, lSY, opAnd, opBor, opShl, opShr, opIn, opNin, cCall, cCallK, cCallV, cApp, truth, tTrue, gN, gTp, gNil, gCons, gSt, sNil, sSeq, sEx, sRt, sRtN, sIf, sAs, sFor, sPar, setAll, sFrz, sAug, lComp, wipeE, opAdd, opSub, opMul, opFdv, opMod, opPow, opEq, opNe, opLt, opLe, opGt, opGe, opIs, opIsn, isNon, opNeg, revD, ixD, slD, gLen, gAbs, gInt1, gMax2, gMin2, gSrt, LIM, gSum, gTup, gList, gIsi, tyName, instB, tyNames, iR1, iR2, iEn, iZp, iAdd, opt, ixN, kwPerm, finish, startE, opMul2, gSum2, cCnt, iZp2, cDix, cItK, keyD, dIf, dIfN, dEx, dPut, dAs, dFor, dRet, dComp, msk, bDc3, ofRd, lSDk, cStar, cPop, cIdxL, gMaxX_lst, gMaxX_tup, opLeT, e1, c, e2, g1]
    rw [es, OkS_nx]
    exact ⟨L ++ [[(one : Int), (two : Int), 1 + j]], h.next h1 h2 (by omega) (by omega), by rw [List.map_append]; rfl, f2⟩
  · have es : F_law_season_1 [some (.mt p), x1, some (.d (.int 2)), x3, x4, x5, some (.d (.tup (L.map rowD))), some (.d (.int (one : Int))), some (.d (.int (two : Int))), x9] M = .nx [some (.mt p), x1, some (.d (.int 2)), x3, x4, x5, some (.d (.tup (L.map rowD))), some (.d (.int (one : Int))), some (.d (.int (two : Int))), x9] M1 := by
      generalize L.map rowD = RD at g0 ⊢
      generalize (one : Int) = o
      generalize (two : Int) = w
      unfold F_law_season_1
      simp [cVar, cK, cOp, cB, cCons, cNil, conts, cTup, lLst, cFz, cMt, pures, asB, cTru, tNt, tAn, tOr2, cAnd, cOr, cNot, cIf, cUn, cChain, oNo, oSm, cSl, lB, lIt, cIt, seqOf, lLR1, lLR2, lSS, ssL, lSX, lSY, opAnd, opBor, opShl, opShr, opIn, opNin, cCall, cCallK, cCallV, cApp, truth, tTrue, gN, gTp, gNil, gCons, gSt, sNil, sSeq, sEx, sRt, sRtN, sIf, sAs, sFor, sPar, setAll, sFrz, sAug, lComp, wipeE, opAdd, opSub, opMul, opFdv, opMod, opPow, opEq, opNe, opLt, opLe, opGt, opGe, opIs, opIsn, isNon, opNeg, revD, ixD, slD, gLen, gAbs, gInt1, gMax2, gMin2, gSrt, LIM, gSum, gTup, gList, gIsi, tyName, instB, tyNames, iR1, iR2, iEn, iZp, iAdd, opt, ixN, kwPerm, finish, startE, opMul2, gSum2, cCnt, iZp2, cDix, cItK, keyD, dIf, dIfN, dEx, dPut, dAs, dFor, dRet, dComp, msk, bDc3, ofRd, lSDk, cStar, cPop, cIdxL, gMaxX_lst, gMaxX_tup, opLeT, e1, c, g0]
    rw [es, OkS_nx]
    exact ⟨L, h.skip, rfl, f1⟩
theorem range2_of {fe ge : DE} {env : Ev} {a b : Int} {M : Store} (e1 : fe env M = .ok (.d (.int a)) M) (e2 : ge env M = .ok (.d (.int b)) M) (q1 : a ≤ 16777216) (q2 : -16777216 ≤ a) (q3 : b ≤ 16777216) (q4 : -16777216 ≤ b) (q5 : (b - a).toNat ≤ 16777216) : (lB iR2 (cCons fe (cCons ge (cNil))) : DL) env M = .ok (rngD a (b - a).toNat) M := by
  simp [lB, cCons, cNil, e1, e2, conts, iR2, q1, q2, q3, q4, q5]
theorem draw_row {p : Nat} {M0 M : Store} {n one : Nat} {z : Int} {L : List (List Int)} {x1 x4 x5 x8 x9 : Option PD.W} {t : PD.W → Store → Prop} (f0 : Fr p M0 M) (hn : n ≤ 4) (ho : one < n) (hz : z = (one : Int)) (h : Drawn n one (one + 1) L) :
    OkS (F_law_season_2 [some (.mt p), x1, some (.d (.int 2)), some (.d (.int (n : Int))), x4, x5, some (.d (.tup (L.map rowD))), some (.d (.int z)), x8, x9] M)
      (fun env M' => ∃ L' x8, Drawn n (one + 1) (one + 2) L' ∧ env = [some (.mt p), x1, some (.d (.int 2)), some (.d (.int (n : Int))), x4, x5, some (.d (.tup (L'.map rowD))), some (.d (.int z)), x8, x9] ∧ Fr p M0 M') t := by
  have e1 : (cOp opAdd (cVar 7) (cK (.int 1)) : DE) [some (.mt p), x1, some (.d (.int 2)), some (.d (.int (n : Int))), x4, x5, some (.d (.tup (L.map rowD))), some (.d (.int z)), x8, x9] M = .ok (.d (.int (z + 1))) M := by
    simp [cOp, cVar, cK, opAdd, conts]
  have e2 : (cVar 3 : DE) [some (.mt p), x1, some (.d (.int 2)), some (.d (.int (n : Int))), x4, x5, some (.d (.tup (L.map rowD))), some (.d (.int z)), x8, x9] M = .ok (.d (.int (n : Int))) M := rfl
  have em : z + 1 = ((one + 1 : Nat) : Int) := by omega
  have gz : ((n : Int) - ((one + 1 : Nat) : Int)).toNat = n - (one + 1) := by omega
  rw [em] at e1
  have er := range2_of e1 e2 (by omega) (by omega) (by omega) (by omega) (by omega)
  rw [gz] at er
  unfold F_law_season_2 sFor
  rw [er, OkS_ofR, Ok_ok]
  subst hz
  refine OkS_loop (fun r env M' => ∃ (k : Nat) (L' : List (List Int)) (x8 : Option PD.W), one + 1 ≤ k ∧ k + r.length = n ∧ r = rngD k r.length ∧ Drawn n one k L' ∧ env = [some (.mt p), x1, some (.d (.int 2)), some (.d (.int (n : Int))), x4, x5, some (.d (.tup (L'.map rowD))), some (.d (.int (one : Int))), x8, x9] ∧ Fr p M0 M') _ _ _ ⟨one + 1, L, x8, Nat.le_refl _, by simp; omega, by simp, h, rfl, f0⟩ ?_ ?_
  · rintro d r env M' ⟨k, L', x8, hk, hkl, hrr, hD, rfl, f⟩
    rw [List.length_cons, rng_cons', List.cons.injEq] at hrr
    obtain ⟨rfl, hrr⟩ := hrr
    rw [List.length_cons] at hkl
    refine ⟨_, rfl, ?_⟩
    refine (draw_step f hn hD (by omega) (by omega)).mono ?_ fun _ _ hh => hh
    rintro env M2 ⟨L2, hD2, rfl, f2⟩
    exact ⟨k + 1, L2, _, by omega, by omega, hrr, hD2, rfl, f2⟩
  · rintro env M' ⟨k, L', x8, hk, hkl, hrr, hD, rfl, f⟩
    have : k = n := by simpa using hkl
    subst this
    exact ⟨L', x8, hD.turn hn, rfl, f⟩
theorem sp_season {p : Nat} {M : Store} (hp : Pl p M) : Ok (R__law_season [.mt p, .d (.int 4), .d (.int 2)] M) fun w M' => ∃ (W : List Int) (ls : List (List Int)), w = .d (.tup [.tup (W.map .int), .tup (ls.map rowD)]) ∧ 2 ≤ W.length ∧ W.length ≤ 4 ∧ (∀ x ∈ W, 0 ≤ x ∧ x ≤ 9) ∧ Drawn W.length W.length (W.length + 1) ls ∧ Fr p M M' := by
  refine Ok_fn rfl ?_
  refine @OkS_seq _ _ _ _ _ _ ?_
  intro n1 k1
  obtain ⟨w, M1, e1, i, rfl, i0, i1, fr1⟩ := (sp_draw (many := 3) hp (by decide) (by decide)).ex
  obtain ⟨w, M2, e2, hd, hhd, rfl, fr2⟩ := (sp_pick (ds := [.int 2, .int 5, .int 9]) fr1.pl (by simp) (by simp)).ex
  have f2 := fr1.trans fr2
  obtain ⟨high, rfl, g0, g1⟩ : ∃ g : Int, hd = .int g ∧ 0 < g ∧ g ≤ 9 := by
    simp only [List.mem_cons, List.not_mem_nil, or_false] at hhd
    rcases hhd with rfl | rfl | rfl
    · exact ⟨2, rfl, by decide, by decide⟩
    · exact ⟨5, rfl, by decide, by decide⟩
    · exact ⟨9, rfl, by decide, by decide⟩
  obtain ⟨i, rfl⟩ := Int.eq_ofNat_of_zero_le i0
  obtain ⟨n, hn⟩ : ∃ n : Nat, n = 2 + i := ⟨_, rfl⟩
  have hn2 : (2 : Int) + (i : Int) = (n : Int) := by omega
  have hn4 : n ≤ 4 := by omega
  simp [cVar, cK, cOp, cB, cCons, cNil, conts, cTup, lLst, cFz, cMt, pures, asB, cTru, tNt, tAn, tOr2, cAnd, cOr, cNot, cIf, cUn, cChain, oNo, oSm, cSl, lB, lIt, cIt, seqOf, lLR1, lLR2, lSS, ssL, lSX, lSY, opAnd, opBor, opShl, opShr, opIn, opNin, cCall, cCallK, cCallV, cApp, truth, tTrue, gN, gTp, gNil, gCons, gSt, sNil, sSeq, sEx, sRt, sRtN, sIf, sAs, sFor, sPar, setAll, sFrz, sAug, lComp, wipeE, opAdd, opSub, opMul, opFdv, opMod, opPow, opEq, opNe, opLt, opLe, opGt, opGe, opIs, opIsn, isNon, opNeg, revD, ixD, slD, gLen, gAbs, gInt1, gMax2, gMin2, gSrt, LIM, gSum, gTup, gList, gIsi, tyName, instB, tyNames, iR1, iR2, iEn, iZp, iAdd, opt, ixN, kwPerm, finish, startE, opMul2, gSum2, cCnt, iZp2, cDix, cItK, keyD, dIf, dIfN, dEx, dPut, dAs, dFor, dRet, dComp, msk, bDc3, ofRd, lSDk, cStar, cPop, cIdxL, gMaxX_lst, gMaxX_tup, opLeT, e1, e2, hn2]
  apply k1
  refine @OkS_seq _ _ _ _ _ _ ?_
  intro n2 k2
  have q1 : (n : Int) ≤ 16777216 := by omega
  have q2 : -16777216 ≤ (n : Int) := by omega
  have q3 : n ≤ 16777216 := by omega
  obtain ⟨zs, M3, ec, hzl, hzs, f3⟩ := (Ok_compT (env0 := [some (.mt p), some (.d (.int 4)), some (.d (.int 2)), some (.d (.int (n : Int))), some (.d (.int high)), none, none, none, none, none]) (g := gN 9) (fe := cCall R__law_pick (cCons (cVar 0) (cCons (cFz (lLst (cCons (cVar 4) (cCons (cCall R__law_draw (cCons (cVar 0) (cCons (cOp opAdd (cVar 4) (cK (.int 1))) (cNil)))) (cNil))))) (cNil)))) (fun z => ∃ x : Int, z = .int x ∧ (0 ≤ x ∧ x ≤ 9)) (fun M' => Fr p M M') (rngD 0 n) M2 f2 fun d hd M4 f4 => ⟨_, rfl, by
    obtain ⟨w, M5, e5, j, rfl, j0, j1, fr5⟩ := (sp_draw (many := high + 1) f4.pl (by omega) (by omega)).ex
    obtain ⟨w, M6, e6, z, hz, rfl, fr6⟩ := (sp_pick (ds := [.int high, .int j]) fr5.pl (by simp) (by simp)).ex
    refine Ok_k fun q2 kq2 => ?_
    have fin := kq2 (.d z) M6 ⟨z, rfl, by
      simp only [List.mem_cons, List.not_mem_nil, or_false] at hz
      rcases hz with rfl | rfl
      · exact ⟨high, rfl, by omega, by omega⟩
      · exact ⟨j, rfl, by omega, by omega⟩, (f4.trans fr5).trans fr6⟩
    simp [cVar, cK, cOp, cB, cCons, cNil, conts, cTup, lLst, cFz, cMt, pures, asB, cTru, tNt, tAn, tOr2, cAnd, cOr, cNot, cIf, cUn, cChain, oNo, oSm, cSl, lB, lIt, cIt, seqOf, lLR1, lLR2, lSS, ssL, lSX, lSY, opAnd, opBor, opShl, opShr, opIn, opNin, cCall, cCallK, cCallV, cApp, truth, tTrue, gN, gTp, gNil, gCons, gSt, sNil, sSeq, sEx, sRt, sRtN, sIf, sAs, sFor, sPar, setAll, sFrz, sAug, lComp, wipeE, opAdd, opSub, opMul, opFdv, opMod, opPow, opEq, opNe, opLt, opLe, opGt, opGe, opIs, opIsn, isNon, opNeg, revD, ixD, slD, gLen, gAbs, gInt1, gMax2, gMin2, gSrt, LIM, gSum, gTup, gList, gIsi, tyName, instB, tyNames, iR1, iR2, iEn, iZp, iAdd, opt, ixN, kwPerm, finish, startE, opMul2, gSum2, cCnt, iZp2, cDix, cItK, keyD, dIf, dIfN, dEx, dPut, dAs, dFor, dRet, dComp, msk, bDc3, ofRd, lSDk, cStar, cPop, cIdxL, gMaxX_lst, gMaxX_tup, opLeT, e5, e6]
    exact fin⟩).ex
  obtain ⟨W, rfl, hW⟩ := ints_of' hzs
  have hWl : W.length = n := by simpa using hzl
  have gW : W.length ≤ 16777216 := by omega
  simp [cVar, cK, cOp, cB, cCons, cNil, conts, cTup, lLst, cFz, cMt, pures, asB, cTru, tNt, tAn, tOr2, cAnd, cOr, cNot, cIf, cUn, cChain, oNo, oSm, cSl, lB, lIt, cIt, seqOf, lLR1, lLR2, lSS, ssL, lSX, lSY, opAnd, opBor, opShl, opShr, opIn, opNin, cCall, cCallK, cCallV, cApp, truth, tTrue, gN, gTp, gNil, gCons, gSt, sNil, sSeq, sEx, sRt, sRtN, sIf, sAs, sFor, sPar, setAll, sFrz, sAug, lComp, wipeE, opAdd, opSub, opMul, opFdv, opMod, opPow, opEq, opNe, opLt, opLe, opGt, opGe, opIs, opIsn, isNon, opNeg, revD, ixD, slD, gLen, gAbs, gInt1, gMax2, gMin2, gSrt, LIM, gSum, gTup, gList, gIsi, tyName, instB, tyNames, iR1, iR2, iEn, iZp, iAdd, opt, ixN, kwPerm, finish, startE, opMul2, gSum2, cCnt, iZp2, cDix, cItK, keyD, dIf, dIfN, dEx, dPut, dAs, dFor, dRet, dComp, msk, bDc3, ofRd, lSDk, cStar, cPop, cIdxL, gMaxX_lst, gMaxX_tup, opLeT, q1, q2, q3, ec, gW]
  apply k2
  refine @OkS_seq _ _ _ _ _ _ ?_
  intro n3 k3
  simp [cVar, cK, cOp, cB, cCons, cNil, conts, cTup, lLst, cFz, cMt, pures, asB, cTru, tNt, tAn, tOr2, cAnd, cOr, cNot, cIf, cUn, cChain, oNo, oSm, cSl, lB, lIt, cIt, seqOf, lLR1, lLR2, lSS, ssL, lSX, lSY, opAnd, opBor, opShl, opShr, opIn, opNin, cCall, cCallK, cCallV, cApp, truth, tTrue, gN, gTp, gNil, gCons, gSt, sNil, sSeq, sEx, sRt, sRtN, sIf, sAs, sFor, sPar, setAll, sFrz, sAug, lComp, wipeE, opAdd, opSub, opMul, opFdv, opMod, opPow, opEq, opNe, opLt, opLe, opGt, opGe, opIs, opIsn, isNon, opNeg, revD, ixD, slD, gLen, gAbs, gInt1, gMax2, gMin2, gSrt, LIM, gSum, gTup, gList, gIsi, tyName, instB, tyNames, iR1, iR2, iEn, iZp, iAdd, opt, ixN, kwPerm, finish, startE, opMul2, gSum2, cCnt, iZp2, cDix, cItK, keyD, dIf, dIfN, dEx, dPut, dAs, dFor, dRet, dComp, msk, bDc3, ofRd, lSDk, cStar, cPop, cIdxL, gMaxX_lst, gMaxX_tup, opLeT]
  apply k3
  refine @OkS_seq _ _ _ _ _ _ ?_
  intro n4 k4
  unfold sFor
  obtain ⟨WD, hWD⟩ : ∃ WD, WD = W.map D.int := ⟨_, rfl⟩
  rw [← hWD]
  have e0 : lB iR1 (cCons (cVar 3) (cNil)) [some (.mt p), some (.d (.int 4)), some (.d (.int 2)), some (.d (.int (n : Int))), some (.d (.int high)), some (.d (.tup WD)), some (.d (.tup [])), none, none, none] M3 = .ok (rngD 0 n) M3 := by
    simp [cVar, cK, cOp, cB, cCons, cNil, conts, cTup, lLst, cFz, cMt, pures, asB, cTru, tNt, tAn, tOr2, cAnd, cOr, cNot, cIf, cUn, cChain, oNo, oSm, cSl, lB, lIt, cIt, seqOf, lLR1, lLR2, lSS, ssL, lSX, lSY, opAnd, opBor, opShl, opShr, opIn, opNin, cCall, cCallK, cCallV, cApp, truth, tTrue, gN, gTp, gNil, gCons, gSt, sNil, sSeq, sEx, sRt, sRtN, sIf, sAs, sFor, sPar, setAll, sFrz, sAug, lComp, wipeE, opAdd, opSub, opMul, opFdv, opMod, opPow, opEq, opNe, opLt, opLe, opGt, opGe, opIs, opIsn, isNon, opNeg, revD, ixD, slD, gLen, gAbs, gInt1, gMax2, gMin2, gSrt, LIM, gSum, gTup, gList, gIsi, tyName, instB, tyNames, iR1, iR2, iEn, iZp, iAdd, opt, ixN, kwPerm, finish, startE, opMul2, gSum2, cCnt, iZp2, cDix, cItK, keyD, dIf, dIfN, dEx, dPut, dAs, dFor, dRet, dComp, msk, bDc3, ofRd, lSDk, cStar, cPop, cIdxL, gMaxX_lst, gMaxX_tup, opLeT, q1, q2, q3]
  rw [e0, OkS_ofR, Ok_ok]
  refine OkS_loop (fun r env M' => ∃ (k : Nat) (L : List (List Int)) (x7 x8 : Option PD.W), k + r.length = n ∧ r = rngD k r.length ∧ Drawn n k (k + 1) L ∧ env = [some (.mt p), some (.d (.int 4)), some (.d (.int 2)), some (.d (.int (n : Int))), some (.d (.int high)), some (.d (.tup WD)), some (.d (.tup (L.map rowD))), x7, x8, none] ∧ Fr p M M') _ _ _ ⟨0, [], none, none, by simp, by simp, ⟨fun r hr => (nomatch hr), List.Pairwise.nil, by simp⟩, rfl, f3⟩ ?_ ?_
  · rintro d r env M' ⟨k, L, x7, x8, hkl, hrr, hD, rfl, f⟩
    rw [List.length_cons, rng_cons', List.cons.injEq] at hrr
    obtain ⟨hdz, hrr⟩ := hrr
    rw [List.length_cons] at hkl
    have hkn : k < n := by omega
    obtain ⟨z, hz⟩ : ∃ z : Int, z = (k : Int) := ⟨_, rfl⟩
    rw [← hz] at hdz
    subst hdz
    refine ⟨_, rfl, ?_⟩
    refine (draw_row f hn4 hkn hz hD).mono ?_ fun _ _ hh => hh
    rintro env M2 ⟨L2, x8, hD2, rfl, f2⟩
    exact ⟨k + 1, L2, _, _, by omega, hrr, hD2, rfl, f2⟩
  · rintro env M' ⟨k, L, x7, x8, hkl, hrr, hD, rfl, f⟩
    have : k = n := by simpa using hkl
    subst this
    apply k4
    have hfin : ∃ (W' : List Int) (ls : List (List Int)), PD.W.d (.tup [.tup WD, .tup (L.map rowD)]) = .d (.tup [.tup (W'.map .int), .tup (ls.map rowD)]) ∧ 2 ≤ W'.length ∧ W'.length ≤ 4 ∧ (∀ x ∈ W', 0 ≤ x ∧ x ≤ 9) ∧ Drawn W'.length W'.length (W'.length + 1) ls ∧ Fr p M (M'.take M.length) := ⟨W, L, by rw [hWD], by omega, by omega, hW, by rw [hWl]; exact hD, take_fr f⟩
    generalize L.map rowD = LD at hfin ⊢
    simp [cVar, cK, cOp, cB, cCons, cNil, conts, cTup, lLst, cFz, cMt, pures, asB, cTru, tNt, tAn, tOr2, cAnd, cOr, cNot, cIf, cUn, cChain, oNo, oSm, cSl, lB, lIt, cIt, seqOf, lLR1, lLR2, lSS, ssL, lSX, lSY, opAnd, opBor, opShl, opShr, opIn, opNin, cCall, cCallK, cCallV, cApp, truth, tTrue, gN, gTp, gNil, gCons, gSt, sNil, sSeq, sEx, sRt, sRtN, sIf, sAs, sFor, sPar, setAll, sFrz, sAug, lComp, wipeE, opAdd, opSub, opMul, opFdv, opMod, opPow, opEq, opNe, opLt, opLe, opGt, opGe, opIs, opIsn, isNon, opNeg, revD, ixD, slD, gLen, gAbs, gInt1, gMax2, gMin2, gSrt, LIM, gSum, gTup, gList, gIsi, tyName, instB, tyNames, iR1, iR2, iEn, iZp, iAdd, opt, ixN, kwPerm, finish, startE, opMul2, gSum2, cCnt, iZp2, cDix, cItK, keyD, dIf, dIfN, dEx, dPut, dAs, dFor, dRet, dComp, msk, bDc3, ofRd, lSDk, cStar, cPop, cIdxL, gMaxX_lst, gMaxX_tup, opLeT]
    simpa using hfin
end PD.LW
namespace PD.LW
open PySem PySem.Spec PyProof.Rows L2 PD
theorem sea_drawn {W : List Int} {ls : List (List Int)} (h2 : 2 ≤ W.length) (h4 : W.length ≤ 4) (hW : ∀ x ∈ W, 0 ≤ x ∧ x ≤ 9) {one two : Nat} (h : Drawn W.length one two ls) : SeaOk W (ls.take 5) ∧ (∀ w ∈ W, w ≤ 98) ∧ Tri (ls.take 5) ∧ (ls.take 5).length ≤ 5 := by
  have hl : (ls.take 5).length ≤ 5 := by rw [List.length_take]; omega
  have hm : ∀ r ∈ ls.take 5, r ∈ ls := fun r hr => List.mem_of_mem_take hr
  refine ⟨⟨h2, by omega, fun w hw => by have := hW w hw; omega, fun r hr => ?_, h.up.sublist (List.take_sublist 5 ls), by omega⟩, fun w hw => by have := hW w hw; omega, fun r hr => ?_, hl⟩
  · obtain ⟨a, b, m, e, q1, q2, q3, q4, q5, _⟩ := h.each r (hm r hr)
    exact ⟨a, b, m, e, q1, q2, q3, q4, by omega⟩
  · obtain ⟨a, b, m, e, q1, q2, q3, q4, q5, _⟩ := h.each r (hm r hr)
    exact ⟨a, b, m, e, by omega, q5⟩
theorem fix_sea : SeaOk [3, 3, 0] [[0, 1, 1], [0, 2, 1]] ∧ Tri [[0, 1, 1], [0, 2, 1]] := by
  refine ⟨⟨by decide, by decide, fun w hw => ?_, fun r hr => ?_, by decide, by decide⟩, fun r hr => ?_⟩
  · simp only [List.mem_cons, List.not_mem_nil, or_false] at hw
    rcases hw with rfl | rfl | rfl <;> decide
  · simp only [List.mem_cons, List.not_mem_nil, or_false] at hr
    rcases hr with rfl | rfl
    · exact ⟨0, 1, 1, rfl, by decide, by decide, by decide, by decide, by decide⟩
    · exact ⟨0, 2, 1, rfl, by decide, by decide, by decide, by decide, by decide⟩
  · simp only [List.mem_cons, List.not_mem_nil, or_false] at hr
    rcases hr with rfl | rfl
    · exact ⟨0, 1, 1, rfl, by decide, by decide⟩
    · exact ⟨0, 2, 1, rfl, by decide, by decide⟩
theorem two_sea : SeaOk [0, 0] [] := ⟨by decide, by decide, fun w hw => by
  simp only [List.mem_cons, List.not_mem_nil, or_false] at hw
  rcases hw with rfl | rfl <;> decide, fun r hr => (nomatch hr), List.Pairwise.nil, by decide⟩
theorem two_first : firstL [0, 0] [] = [0, 1] := by
  have c : ∀ i : Nat, i < 2 → canB [0, 0] [] i = true := fun i hi => by
    have e := nil_first (W := [0, 0]) (by decide) (mx := 0) (by simp) (fun x hx => by
      simp only [List.mem_cons, List.not_mem_nil, or_false] at hx
      rcases hx with rfl | rfl <;> decide) (i := i) hi
    rw [e]
    match i, hi with
    | 0, _ => rfl
    | 1, _ => rfl
  unfold firstL keepN
  have e : (List.range ([0, 0] : List Int).length).filter (canB [0, 0] []) = [0, 1] := by
    show (List.range 2).filter (canB [0, 0] []) = [0, 1]
    rw [List.filter_eq_self.mpr fun i hi => c i (List.mem_range.mp hi)]
    rfl
  rw [e]
  rfl
theorem right_ex {p : Nat} {M : Store} {W : List Int} {ls : List (List Int)} (hp : Pl p M) (h : SeaOk W ls) (h98 : ∀ w ∈ W, w ≤ 98) (ht : Tri ls) (hf : ls.length ≤ 5) {WD LD : List D} (hW : WD = W.map .int) (hL : LD = ls.map rowD) : ∃ M', R__law_season_right [.mt p, .d (.tup WD), .d (.tup LD)] M = .ok (.d (.bl true)) M' ∧ Fr p M M' := by
  obtain ⟨w, M', e, rfl, fr⟩ := (R__law_season_right_eq hp h h98 ht hf).ex
  rw [hW, hL]
  exact ⟨M', e, fr⟩
theorem fix_98 : ∀ w ∈ ([3, 3, 0] : List Int), w ≤ 98 := fun w hw => by
  simp only [List.mem_cons, List.not_mem_nil, or_false] at hw
  rcases hw with rfl | rfl | rfl <;> decide
theorem fix_right {p : Nat} {M : Store} (hp : Pl p M) : ∃ M', R__law_season_right [.mt p, .d (.tup [.int 3, .int 3, .int 0]), .d (.tup [.tup [.int 0, .int 1, .int 1], .tup [.int 0, .int 2, .int 1]])] M = .ok (.d (.bl true)) M' ∧ Fr p M M' :=
  right_ex (W := [3, 3, 0]) (ls := [[0, 1, 1], [0, 2, 1]]) hp fix_sea.1 fix_98 fix_sea.2 (by decide) rfl rfl
theorem fix_first (M : Store) : R_firsts [.d (.tup [.int 0, .int 0]), .d (.tup [])] M = .ok (.d (.tup [.int 0, .int 1])) M := by
  have e3 := R_firsts_eq two_sea M
  rw [two_first] at e3
  exact e3
theorem sp_turn {p : Nat} {M0 M : Store} {x1 x2 x3 : Option PD.W} {t : PD.W → Store → Prop} (f0 : Fr p M0 M) :
    OkS (F_law_right_1 [some (.mt p), x1, x2, x3] M) (fun env M' => ∃ x1 x2 x3, env = [some (.mt p), x1, x2, x3] ∧ Fr p M0 M') t := by
  refine @OkS_seq _ _ _ _ _ _ ?_
  intro n1 k1
  obtain ⟨w, M1, e1, W, ls, rfl, h2, h4, hW, hD, fr1⟩ := (sp_season f0.pl).ex
  have f1 := f0.trans fr1
  obtain ⟨hs, h98, ht, hl5⟩ := sea_drawn h2 h4 hW hD
  have cc : cutD (ls.map rowD) none (some 5) = (ls.take 5).map rowD := by
    have := cut_to (ls.map rowD) 5
    rw [← List.map_take] at this
    exact this
  have hfew : ls.length ≤ 64 := by have := hD.few; omega
  have gl : (ls.map rowD).length ≤ 16777216 := by rw [List.length_map]; omega
  have gl5 : ((ls.take 5).map rowD).length ≤ 16777216 := by rw [List.length_map]; omega
  obtain ⟨w, M2, e2, rfl, fr2⟩ := (R__law_season_right_eq f1.pl hs h98 ht hl5).ex
  generalize (ls.take 5).map rowD = L5 at cc e2 gl5
  generalize ls.map rowD = LD at cc e1 gl
  generalize W.map D.int = WD at e1 e2
  simp [cVar, cK, cOp, cB, cCons, cNil, conts, cTup, lLst, cFz, cMt, pures, asB, cTru, tNt, tAn, tOr2, cAnd, cOr, cNot, cIf, cUn, cChain, oNo, oSm, cSl, lB, lIt, cIt, seqOf, lLR1, lLR2, lSS, ssL, lSX, lSY, opAnd, opBor, opShl, opShr, opIn, opNin, cCall, cCallK, cCallV, cApp, truth, tTrue, gN, gTp, gNil, gCons, gSt, sNil, sSeq, sEx, sRt, sRtN, sIf, sAs, sFor, sPar, setAll, sFrz, sAug, lComp, wipeE, opAdd, opSub, opMul, opFdv, opMod, opPow, opEq, opNe, opLt, opLe, opGt, opGe, opIs, opIsn, isNon, opNeg, revD, ixD, slD, gLen, gAbs, gInt1, gMax2, gMin2, gSrt, LIM, gSum, gTup, gList, gIsi, tyName, instB, tyNames, iR1, iR2, iEn, iZp, iAdd, opt, ixN, kwPerm, finish, startE, opMul2, gSum2, cCnt, iZp2, cDix, cItK, keyD, dIf, dIfN, dEx, dPut, dAs, dFor, dRet, dComp, msk, bDc3, ofRd, lSDk, cStar, cPop, cIdxL, gMaxX_lst, gMaxX_tup, opLeT, e1]
  apply k1
  refine OkS_if (b := false) (M1 := M2) (by simp [cVar, cK, cOp, cB, cCons, cNil, conts, cTup, lLst, cFz, cMt, pures, asB, cTru, tNt, tAn, tOr2, cAnd, cOr, cNot, cIf, cUn, cChain, oNo, oSm, cSl, lB, lIt, cIt, seqOf, lLR1, lLR2, lSS, ssL, lSX, lSY, opAnd, opBor, opShl, opShr, opIn, opNin, cCall, cCallK, cCallV, cApp, truth, tTrue, gN, gTp, gNil, gCons, gSt, sNil, sSeq, sEx, sRt, sRtN, sIf, sAs, sFor, sPar, setAll, sFrz, sAug, lComp, wipeE, opAdd, opSub, opMul, opFdv, opMod, opPow, opEq, opNe, opLt, opLe, opGt, opGe, opIs, opIsn, isNon, opNeg, revD, ixD, slD, gLen, gAbs, gInt1, gMax2, gMin2, gSrt, LIM, gSum, gTup, gList, gIsi, tyName, instB, tyNames, iR1, iR2, iEn, iZp, iAdd, opt, ixN, kwPerm, finish, startE, opMul2, gSum2, cCnt, iZp2, cDix, cItK, keyD, dIf, dIfN, dEx, dPut, dAs, dFor, dRet, dComp, msk, bDc3, ofRd, lSDk, cStar, cPop, cIdxL, gMaxX_lst, gMaxX_tup, opLeT, cc, gl, gl5, e2]) (fun h => nomatch h) fun _ => ?_
  unfold sNil
  rw [OkS_nx]
  exact ⟨_, _, _, rfl, f1.trans fr2⟩
theorem sp_right {p : Nat} {M : Store} (h : Pl p M) : Ok (R__law_right [.mt p] M) fun w M' => w = .d (.bl true) ∧ Fr p M M' := by
  refine Ok_fn rfl ?_
  refine @OkS_seq _ _ _ _ _ _ ?_
  intro n1 k1
  unfold sFor
  have e0 : lB iR1 (cCons (cK (.int 6)) (cNil)) (startE 4 [.mt p]) M = .ok (rngD 0 6) M := by simp [cVar, cK, cOp, cB, cCons, cNil, conts, cTup, lLst, cFz, cMt, pures, asB, cTru, tNt, tAn, tOr2, cAnd, cOr, cNot, cIf, cUn, cChain, oNo, oSm, cSl, lB, lIt, cIt, seqOf, lLR1, lLR2, lSS, ssL, lSX, lSY, opAnd, opBor, opShl, opShr, opIn, opNin, cCall, cCallK, cCallV, cApp, truth, tTrue, gN, gTp, gNil, gCons, gSt, sNil, sSeq, sEx, sRt, sRtN, sIf, sAs, sFor, sPar, setAll, sFrz, sAug, lComp, wipeE, opAdd, opSub, opMul, opFdv, opMod, opPow, opEq, opNe, opLt, opLe, opGt, opGe, opIs, opIsn, isNon, opNeg, revD, ixD, slD, gLen, gAbs, gInt1, gMax2, gMin2, gSrt, LIM, gSum, gTup, gList, gIsi, tyName, instB, tyNames, iR1, iR2, iEn, iZp, iAdd, opt, ixN, kwPerm, finish, startE, opMul2, gSum2, cCnt, iZp2, cDix, cItK, keyD, dIf, dIfN, dEx, dPut, dAs, dFor, dRet, dComp, msk, bDc3, ofRd, lSDk, cStar, cPop, cIdxL, gMaxX_lst, gMaxX_tup, opLeT]
  rw [e0, OkS_ofR, Ok_ok]
  refine OkS_loop (fun r env M' => (∃ x1 x2 x3, env = [some (.mt p), x1, x2, x3] ∧ Fr p M M') ∧ ∀ d ∈ r, ∃ i : Nat, d = .int i) _ _ _ ⟨⟨none, none, none, by simp [startE], Fr.refl h⟩, fun d hd => ?_⟩ ?_ ?_
  · obtain ⟨i, _, _, e⟩ := mem_rng (lo := 0) hd
    exact ⟨i, e⟩
  · rintro d r env M1 ⟨⟨x1, x2, x3, rfl, f1⟩, hd⟩
    obtain ⟨i, rfl⟩ := hd d (by simp)
    refine ⟨_, rfl, ?_⟩
    exact (sp_turn f1).mono (fun env M2 hh => ⟨hh, fun d hd' => hd d (List.mem_cons_of_mem _ hd')⟩) fun _ _ hh => hh
  · rintro env M1 ⟨⟨x1, x2, x3, rfl, f1⟩, _⟩
    obtain ⟨M2, e2, fr2⟩ := fix_right f1.pl
    have e3 := fix_first M2
    apply k1
    have e4 : eqD (.tup [.int 0, .int 1]) (.tup [.int 0, .int 1]) = some true := by
      have := eqD_row [0, 1] [0, 1]
      exact this
    simp [cVar, cK, cOp, cB, cCons, cNil, conts, cTup, lLst, cFz, cMt, pures, asB, cTru, tNt, tAn, tOr2, cAnd, cOr, cNot, cIf, cUn, cChain, oNo, oSm, cSl, lB, lIt, cIt, seqOf, lLR1, lLR2, lSS, ssL, lSX, lSY, opAnd, opBor, opShl, opShr, opIn, opNin, cCall, cCallK, cCallV, cApp, truth, tTrue, gN, gTp, gNil, gCons, gSt, sNil, sSeq, sEx, sRt, sRtN, sIf, sAs, sFor, sPar, setAll, sFrz, sAug, lComp, wipeE, opAdd, opSub, opMul, opFdv, opMod, opPow, opEq, opNe, opLt, opLe, opGt, opGe, opIs, opIsn, isNon, opNeg, revD, ixD, slD, gLen, gAbs, gInt1, gMax2, gMin2, gSrt, LIM, gSum, gTup, gList, gIsi, tyName, instB, tyNames, iR1, iR2, iEn, iZp, iAdd, opt, ixN, kwPerm, finish, startE, opMul2, gSum2, cCnt, iZp2, cDix, cItK, keyD, dIf, dIfN, dEx, dPut, dAs, dFor, dRet, dComp, msk, bDc3, ofRd, lSDk, cStar, cPop, cIdxL, gMaxX_lst, gMaxX_tup, opLeT, e2, e3, e4]
    exact take_fr (f1.trans fr2)
theorem sp_pool {ns : List Int} {lap : Nat} {M : Store} (h : ns.length ≤ 63) : Ok (R__law_pool [.d (.lst (ns.map .int)), .d (.int lap)] M) fun w M' => w = .mt M.length ∧ ∃ a b c : Int, M' = M ++ [some [.int a, .int b, .int c]] := by
  refine Ok_fn rfl ?_
  refine @OkS_seq _ _ _ _ _ _ ?_
  intro n1 k1
  have g0 : ns.length ≤ 16777216 := by omega
  have e1 : ∀ own s : Int, n1 [some (.d (.lst (ns.map .int))), some (.d (.int lap)), some (.d (.int own)), some (.d (.int s)), none] M := by
    intro own s
    apply k1
    refine @OkS_seq _ _ _ _ _ _ ?_
    intro n2 k2
    have c8 : cutD (ns.map D.int) none (some 63) = (ns.take 63).map .int := by
      have := cut_to (ns.map D.int) 63
      rw [← List.map_take] at this
      exact this
    have e3 : cIt (cSl (cVar 0) (oNo) (oSm (cK (.int 63)))) [some (.d (.lst (ns.map .int))), some (.d (.int lap)), some (.d (.int own)), some (.d (.int s)), none] M = .ok ((ns.take 63).map .int) M := by
      have g1 : (ns.take 63).length ≤ 16777216 := by rw [List.length_take]; omega
      generalize ns.take 63 = t at c8 g1 ⊢
      simp [cVar, cK, cOp, cB, cCons, cNil, conts, cTup, lLst, cFz, cMt, pures, asB, cTru, tNt, tAn, tOr2, cAnd, cOr, cNot, cIf, cUn, cChain, oNo, oSm, cSl, lB, lIt, cIt, seqOf, lLR1, lLR2, lSS, ssL, lSX, lSY, opAnd, opBor, opShl, opShr, opIn, opNin, cCall, cCallK, cCallV, cApp, truth, tTrue, gN, gTp, gNil, gCons, gSt, sNil, sSeq, sEx, sRt, sRtN, sIf, sAs, sFor, sPar, setAll, sFrz, sAug, lComp, wipeE, opAdd, opSub, opMul, opFdv, opMod, opPow, opEq, opNe, opLt, opLe, opGt, opGe, opIs, opIsn, isNon, opNeg, revD, ixD, slD, gLen, gAbs, gInt1, gMax2, gMin2, gSrt, LIM, gSum, gTup, gList, gIsi, tyName, instB, tyNames, iR1, iR2, iEn, iZp, iAdd, opt, ixN, kwPerm, finish, startE, opMul2, gSum2, cCnt, iZp2, cDix, cItK, keyD, dIf, dIfN, dEx, dPut, dAs, dFor, dRet, dComp, msk, bDc3, ofRd, lSDk, cStar, cPop, cIdxL, gMaxX_lst, gMaxX_tup, opLeT, c8, g0, g1]
    unfold sFor
    rw [e3, OkS_ofR, Ok_ok]
    refine OkS_loop (fun r env M' => M' = M ∧ (∀ d ∈ r, ∃ i : Int, d = .int i) ∧ ∃ (s : Int) (x4 : Option PD.W), env = [some (.d (.lst (ns.map .int))), some (.d (.int lap)), some (.d (.int own)), some (.d (.int s)), x4]) _ _ _ ⟨rfl, fun d hd => ?_, _, _, rfl⟩ ?_ ?_
    · obtain ⟨i, _, rfl⟩ := List.mem_map.mp hd
      exact ⟨i, rfl⟩
    · rintro d r env M' ⟨rfl, hd, s, x4, rfl⟩
      obtain ⟨i, rfl⟩ := hd d (by simp)
      refine ⟨_, rfl, ?_⟩
      refine OkS_k fun q kq => ?_
      simp [F_law_pool_1, cVar, cK, cOp, cB, cCons, cNil, conts, cTup, lLst, cFz, cMt, pures, asB, cTru, tNt, tAn, tOr2, cAnd, cOr, cNot, cIf, cUn, cChain, oNo, oSm, cSl, lB, lIt, cIt, seqOf, lLR1, lLR2, lSS, ssL, lSX, lSY, opAnd, opBor, opShl, opShr, opIn, opNin, cCall, cCallK, cCallV, cApp, truth, tTrue, gN, gTp, gNil, gCons, gSt, sNil, sSeq, sEx, sRt, sRtN, sIf, sAs, sFor, sPar, setAll, sFrz, sAug, lComp, wipeE, opAdd, opSub, opMul, opFdv, opMod, opPow, opEq, opNe, opLt, opLe, opGt, opGe, opIs, opIsn, isNon, opNeg, revD, ixD, slD, gLen, gAbs, gInt1, gMax2, gMin2, gSrt, LIM, gSum, gTup, gList, gIsi, tyName, instB, tyNames, iR1, iR2, iEn, iZp, iAdd, opt, ixN, kwPerm, finish, startE, opMul2, gSum2, cCnt, iZp2, cDix, cItK, keyD, dIf, dIfN, dEx, dPut, dAs, dFor, dRet, dComp, msk, bDc3, ofRd, lSDk, cStar, cPop, cIdxL, gMaxX_lst, gMaxX_tup, opLeT]
      exact kq _ _ ⟨rfl, fun d hd' => hd d (List.mem_cons_of_mem _ hd'), _, _, rfl⟩
    · rintro env M' ⟨rfl, _, s, x4, rfl⟩
      apply k2
      have hm : ∀ v, (M' ++ [v])[M'.length]? = some v := fun v => by simp
      by_cases c1 : own < 0
      · simp [cVar, cK, cOp, cB, cCons, cNil, conts, cTup, lLst, cFz, cMt, pures, asB, cTru, tNt, tAn, tOr2, cAnd, cOr, cNot, cIf, cUn, cChain, oNo, oSm, cSl, lB, lIt, cIt, seqOf, lLR1, lLR2, lSS, ssL, lSX, lSY, opAnd, opBor, opShl, opShr, opIn, opNin, cCall, cCallK, cCallV, cApp, truth, tTrue, gN, gTp, gNil, gCons, gSt, sNil, sSeq, sEx, sRt, sRtN, sIf, sAs, sFor, sPar, setAll, sFrz, sAug, lComp, wipeE, opAdd, opSub, opMul, opFdv, opMod, opPow, opEq, opNe, opLt, opLe, opGt, opGe, opIs, opIsn, isNon, opNeg, revD, ixD, slD, gLen, gAbs, gInt1, gMax2, gMin2, gSrt, LIM, gSum, gTup, gList, gIsi, tyName, instB, tyNames, iR1, iR2, iEn, iZp, iAdd, opt, ixN, kwPerm, finish, startE, opMul2, gSum2, cCnt, iZp2, cDix, cItK, keyD, dIf, dIfN, dEx, dPut, dAs, dFor, dRet, dComp, msk, bDc3, ofRd, lSDk, cStar, cPop, cIdxL, gMaxX_lst, gMaxX_tup, opLeT, c1]
      · by_cases c2 : (1000000000000000000 : Int) ≤ own
        · simp [cVar, cK, cOp, cB, cCons, cNil, conts, cTup, lLst, cFz, cMt, pures, asB, cTru, tNt, tAn, tOr2, cAnd, cOr, cNot, cIf, cUn, cChain, oNo, oSm, cSl, lB, lIt, cIt, seqOf, lLR1, lLR2, lSS, ssL, lSX, lSY, opAnd, opBor, opShl, opShr, opIn, opNin, cCall, cCallK, cCallV, cApp, truth, tTrue, gN, gTp, gNil, gCons, gSt, sNil, sSeq, sEx, sRt, sRtN, sIf, sAs, sFor, sPar, setAll, sFrz, sAug, lComp, wipeE, opAdd, opSub, opMul, opFdv, opMod, opPow, opEq, opNe, opLt, opLe, opGt, opGe, opIs, opIsn, isNon, opNeg, revD, ixD, slD, gLen, gAbs, gInt1, gMax2, gMin2, gSrt, LIM, gSum, gTup, gList, gIsi, tyName, instB, tyNames, iR1, iR2, iEn, iZp, iAdd, opt, ixN, kwPerm, finish, startE, opMul2, gSum2, cCnt, iZp2, cDix, cItK, keyD, dIf, dIfN, dEx, dPut, dAs, dFor, dRet, dComp, msk, bDc3, ofRd, lSDk, cStar, cPop, cIdxL, gMaxX_lst, gMaxX_tup, opLeT, c1, c2]
        · simp [cVar, cK, cOp, cB, cCons, cNil, conts, cTup, lLst, cFz, cMt, pures, asB, cTru, tNt, tAn, tOr2, cAnd, cOr, cNot, cIf, cUn, cChain, oNo, oSm, cSl, lB, lIt, cIt, seqOf, lLR1, lLR2, lSS, ssL, lSX, lSY, opAnd, opBor, opShl, opShr, opIn, opNin, cCall, cCallK, cCallV, cApp, truth, tTrue, gN, gTp, gNil, gCons, gSt, sNil, sSeq, sEx, sRt, sRtN, sIf, sAs, sFor, sPar, setAll, sFrz, sAug, lComp, wipeE, opAdd, opSub, opMul, opFdv, opMod, opPow, opEq, opNe, opLt, opLe, opGt, opGe, opIs, opIsn, isNon, opNeg, revD, ixD, slD, gLen, gAbs, gInt1, gMax2, gMin2, gSrt, LIM, gSum, gTup, gList, gIsi, tyName, instB, tyNames, iR1, iR2, iEn, iZp, iAdd, opt, ixN, kwPerm, finish, startE, opMul2, gSum2, cCnt, iZp2, cDix, cItK, keyD, dIf, dIfN, dEx, dPut, dAs, dFor, dRet, dComp, msk, bDc3, ofRd, lSDk, cStar, cPop, cIdxL, gMaxX_lst, gMaxX_tup, opLeT, c1, c2]
  by_cases c : lap < ns.length
  · have hx : (ns.map D.int)[lap]? = some (.int ns[lap]) := by simp [c]
    simp [cVar, cK, cOp, cB, cCons, cNil, conts, cTup, lLst, cFz, cMt, pures, asB, cTru, tNt, tAn, tOr2, cAnd, cOr, cNot, cIf, cUn, cChain, oNo, oSm, cSl, lB, lIt, cIt, seqOf, lLR1, lLR2, lSS, ssL, lSX, lSY, opAnd, opBor, opShl, opShr, opIn, opNin, cCall, cCallK, cCallV, cApp, truth, tTrue, gN, gTp, gNil, gCons, gSt, sNil, sSeq, sEx, sRt, sRtN, sIf, sAs, sFor, sPar, setAll, sFrz, sAug, lComp, wipeE, opAdd, opSub, opMul, opFdv, opMod, opPow, opEq, opNe, opLt, opLe, opGt, opGe, opIs, opIsn, isNon, opNeg, revD, ixD, slD, gLen, gAbs, gInt1, gMax2, gMin2, gSrt, LIM, gSum, gTup, gList, gIsi, tyName, instB, tyNames, iR1, iR2, iEn, iZp, iAdd, opt, ixN, kwPerm, finish, startE, opMul2, gSum2, cCnt, iZp2, cDix, cItK, keyD, dIf, dIfN, dEx, dPut, dAs, dFor, dRet, dComp, msk, bDc3, ofRd, lSDk, cStar, cPop, cIdxL, gMaxX_lst, gMaxX_tup, opLeT, c, g0]
    exact e1 _ _
  · simp [cVar, cK, cOp, cB, cCons, cNil, conts, cTup, lLst, cFz, cMt, pures, asB, cTru, tNt, tAn, tOr2, cAnd, cOr, cNot, cIf, cUn, cChain, oNo, oSm, cSl, lB, lIt, cIt, seqOf, lLR1, lLR2, lSS, ssL, lSX, lSY, opAnd, opBor, opShl, opShr, opIn, opNin, cCall, cCallK, cCallV, cApp, truth, tTrue, gN, gTp, gNil, gCons, gSt, sNil, sSeq, sEx, sRt, sRtN, sIf, sAs, sFor, sPar, setAll, sFrz, sAug, lComp, wipeE, opAdd, opSub, opMul, opFdv, opMod, opPow, opEq, opNe, opLt, opLe, opGt, opGe, opIs, opIsn, isNon, opNeg, revD, ixD, slD, gLen, gAbs, gInt1, gMax2, gMin2, gSrt, LIM, gSum, gTup, gList, gIsi, tyName, instB, tyNames, iR1, iR2, iEn, iZp, iAdd, opt, ixN, kwPerm, finish, startE, opMul2, gSum2, cCnt, iZp2, cDix, cItK, keyD, dIf, dIfN, dEx, dPut, dAs, dFor, dRet, dComp, msk, bDc3, ofRd, lSDk, cStar, cPop, cIdxL, gMaxX_lst, gMaxX_tup, opLeT, c, g0]
    exact e1 _ _
theorem law_true : ∀ ns : List Int, ns.length ≤ 63 → ∃ M', R_law [.d (.lst (ns.map .int))] [] = .ok (.d (.bl true)) M' := by
  intro ns h
  have key : Ok (R_law [.d (.lst (ns.map .int))] []) fun w _ => w = .d (.bl true) := by
    refine Ok_fn rfl ?_
    refine @OkS_seq _ _ _ _ _ _ ?_
    intro n1 k1
    have g0 : ns.length ≤ 16777216 := by omega
    obtain ⟨n, n3, hn⟩ : ∃ n : Nat, n ≤ 16777216 ∧ (lB iR1 (cCons (cB gMax2 (cCons (cK (.int 2)) (cCons (cB gMin2 (cCons (cB gLen (cCons (cVar 0) (cNil))) (cCons (cK (.int 3)) (cNil)))) (cNil)))) (cNil)) : DL) (startE 2 [.d (.lst (ns.map .int))]) [] = .ok (rngD 0 n) [] := by
      refine ⟨(if (2 : Int) < (if (3 : Int) < ns.length then (3 : Int) else ns.length) then (if (3 : Int) < ns.length then (3 : Int) else ns.length) else 2).toNat, ?_, ?_⟩
      · generalize hn : (if (2 : Int) < (if (3 : Int) < ns.length then (3 : Int) else ns.length) then (if (3 : Int) < ns.length then (3 : Int) else ns.length) else 2) = n
        have n1 : n ≤ 16777216 := by
          rw [← hn]; repeat (first | omega | split)
        omega
      · simp [cVar, cK, cOp, cB, cCons, cNil, conts, cTup, lLst, cFz, cMt, pures, asB, cTru, tNt, tAn, tOr2, cAnd, cOr, cNot, cIf, cUn, cChain, oNo, oSm, cSl, lB, lIt, cIt, seqOf, lLR1, lLR2, lSS, ssL, lSX, lSY, opAnd, opBor, opShl, opShr, opIn, opNin, cCall, cCallK, cCallV, cApp, truth, tTrue, gN, gTp, gNil, gCons, gSt, sNil, sSeq, sEx, sRt, sRtN, sIf, sAs, sFor, sPar, setAll, sFrz, sAug, lComp, wipeE, opAdd, opSub, opMul, opFdv, opMod, opPow, opEq, opNe, opLt, opLe, opGt, opGe, opIs, opIsn, isNon, opNeg, revD, ixD, slD, gLen, gAbs, gInt1, gMax2, gMin2, gSrt, LIM, gSum, gTup, gList, gIsi, tyName, instB, tyNames, iR1, iR2, iEn, iZp, iAdd, opt, ixN, kwPerm, finish, startE, opMul2, gSum2, cCnt, iZp2, cDix, cItK, keyD, dIf, dIfN, dEx, dPut, dAs, dFor, dRet, dComp, msk, bDc3, ofRd, lSDk, cStar, cPop, cIdxL, gMaxX_lst, gMaxX_tup, opLeT, g0]
        generalize hn : (if (2 : Int) < (if (3 : Int) < ns.length then (3 : Int) else ns.length) then (if (3 : Int) < ns.length then (3 : Int) else ns.length) else 2) = n
        have n1 : n ≤ 16777216 := by
          rw [← hn]; repeat (first | omega | split)
        have n2 : -16777216 ≤ n := by
          rw [← hn]; repeat (first | omega | split)
        have n3 : n.toNat ≤ 16777216 := by omega
        simp [n1, n2, n3]
    unfold sFor
    rw [hn, OkS_ofR, Ok_ok]
    refine OkS_loop (fun r env M' => (∀ d ∈ r, ∃ i : Nat, d = .int i) ∧ ∃ x1, env = [some (.d (.lst (ns.map .int))), x1]) _ _ _ ⟨fun d hd => ?_, none, rfl⟩ ?_ ?_
    · obtain ⟨i, _, _, e⟩ := mem_rng (lo := 0) hd
      exact ⟨i, e⟩
    · rintro d r env M1 ⟨hd, x1, rfl⟩
      obtain ⟨i, rfl⟩ := hd d (by simp)
      refine ⟨_, rfl, ?_⟩
      obtain ⟨w, M2, e2, rfl, a, b, c, rfl⟩ := (sp_pool (lap := i) (M := M1) h).ex
      obtain ⟨w, M3, e3, rfl, _⟩ := (sp_right (p := M1.length) (M := M1 ++ [some [.int a, .int b, .int c]]) ⟨a, b, c, by simp⟩).ex
      refine OkS_if (b := false) (M1 := M3) (by simp [cVar, cK, cOp, cB, cCons, cNil, conts, cTup, lLst, cFz, cMt, pures, asB, cTru, tNt, tAn, tOr2, cAnd, cOr, cNot, cIf, cUn, cChain, oNo, oSm, cSl, lB, lIt, cIt, seqOf, lLR1, lLR2, lSS, ssL, lSX, lSY, opAnd, opBor, opShl, opShr, opIn, opNin, cCall, cCallK, cCallV, cApp, truth, tTrue, gN, gTp, gNil, gCons, gSt, sNil, sSeq, sEx, sRt, sRtN, sIf, sAs, sFor, sPar, setAll, sFrz, sAug, lComp, wipeE, opAdd, opSub, opMul, opFdv, opMod, opPow, opEq, opNe, opLt, opLe, opGt, opGe, opIs, opIsn, isNon, opNeg, revD, ixD, slD, gLen, gAbs, gInt1, gMax2, gMin2, gSrt, LIM, gSum, gTup, gList, gIsi, tyName, instB, tyNames, iR1, iR2, iEn, iZp, iAdd, opt, ixN, kwPerm, finish, startE, opMul2, gSum2, cCnt, iZp2, cDix, cItK, keyD, dIf, dIfN, dEx, dPut, dAs, dFor, dRet, dComp, msk, bDc3, ofRd, lSDk, cStar, cPop, cIdxL, gMaxX_lst, gMaxX_tup, opLeT, e2, e3]) (fun h => nomatch h) fun _ => ?_
      unfold sNil
      rw [OkS_nx]
      exact ⟨fun d hd' => hd d (List.mem_cons_of_mem _ hd'), _, rfl⟩
    · rintro env M1 ⟨_, x1, rfl⟩
      apply k1
      simp [cVar, cK, cOp, cB, cCons, cNil, conts, cTup, lLst, cFz, cMt, pures, asB, cTru, tNt, tAn, tOr2, cAnd, cOr, cNot, cIf, cUn, cChain, oNo, oSm, cSl, lB, lIt, cIt, seqOf, lLR1, lLR2, lSS, ssL, lSX, lSY, opAnd, opBor, opShl, opShr, opIn, opNin, cCall, cCallK, cCallV, cApp, truth, tTrue, gN, gTp, gNil, gCons, gSt, sNil, sSeq, sEx, sRt, sRtN, sIf, sAs, sFor, sPar, setAll, sFrz, sAug, lComp, wipeE, opAdd, opSub, opMul, opFdv, opMod, opPow, opEq, opNe, opLt, opLe, opGt, opGe, opIs, opIsn, isNon, opNeg, revD, ixD, slD, gLen, gAbs, gInt1, gMax2, gMin2, gSrt, LIM, gSum, gTup, gList, gIsi, tyName, instB, tyNames, iR1, iR2, iEn, iZp, iAdd, opt, ixN, kwPerm, finish, startE, opMul2, gSum2, cCnt, iZp2, cDix, cItK, keyD, dIf, dIfN, dEx, dPut, dAs, dFor, dRet, dComp, msk, bDc3, ofRd, lSDk, cStar, cPop, cIdxL, gMaxX_lst, gMaxX_tup, opLeT]
  obtain ⟨w, M', e, rfl⟩ := key.ex
  exact ⟨M', e⟩
end PD.LW
open PySem PySem.W PyProof.Rows
set_option maxHeartbeats 0 in
theorem PySem.Challenge.cw_pitstairs_k62_whole_firsts_by_all_result_holds : PySem.Challenge.rw_pitstairs_k62_whole_firsts_by_all_result.Holds := by
  w_on; o_law; k_head; (case hw => w_witness2)
  k_fill
  refine L2.walk_of (l := PySem.Challenge.rw_pitstairs_k62_whole_firsts_by_all_result) (n := 63) (k := 24) (x := "script") (CX := fun w => L2.CX (PySem.Challenge.rw_pitstairs_k62_whole_firsts_by_all_result).prog w) (sp := fun w => PD.spLaw _) rfl (by decide) rfl ⟨rfl, by decide, by decide⟩ (fun w h Y => PySem.W.kIn_of Y) ?F (fun _ _ a ns hl _ hS => ⟨a, ns, rfl, hl, hS, fun _ => rfl⟩) (fun _ _ _ _ _ h => by obtain ⟨_, _, _, _, _, _, _, _, _, _, _, _, h⟩ := h; exact h)
  case F =>
    intro w mg fa h KX G hmg
    refine' PD.LW.all_mk KX G hmg PD.LW.law_true ?a0 ?l0 ?c0 ?k0 ?a1 ?l1 ?c1 ?k1 ?a2 ?l2 ?c2 ?k2 ?a3 ?l3 ?c3 ?k3 ?a4 ?l4 ?c4 ?k4 ?a5 ?l5 ?c5 ?k5 ?a6 ?l6 ?c6 ?k6 ?a7 ?l7 ?c7 ?k7 ?a8 ?l8 ?c8 ?k8 ?a9 ?l9 ?c9 ?k9 ?a10 ?l10 ?c10 ?k10 ?a11 ?l11 ?c11 ?k11 ?a12 ?l12 ?c12 ?k12 ?a13 ?l13 ?c13 ?k13 ?a14 ?l14 ?c14 ?k14 ?a15 ?l15 ?c15 ?k15 ?a16 ?l16 ?c16 ?k16 ?a17 ?l17 ?c17 ?k17 ?a18 ?l18 ?c18 ?k18 ?a19 ?l19 ?c19 ?k19 ?a20 ?l20 ?c20 ?k20 ?a21 ?l21 ?c21 ?k21 ?a22 ?l22 ?c22 ?k22 ?a23 ?l23 ?c23 ?k23 ?a24 ?l24 ?c24 ?k24 ?a25 ?l25 ?c25 ?k25 ?a26 ?l26 ?c26 ?k26 ?a27 ?l27 ?c27 ?k27 ?a28 ?l28 ?c28 ?k28 ?a29 ?l29 ?c29 ?k29 ?a30 ?l30 ?c30 ?k30 ?a31 ?l31 ?c31 ?k31 ?a32 ?l32 ?c32 ?k32 ?a33 ?l33 ?c33 ?k33 ?a34 ?l34 ?c34 ?k34 ?z_divmod ?z_int ?z_len ?z_tuple ?z_range ?z_max ?z_min ?z_sorted ?z_isinstance ?z_bool ?z_enumerate ?z_all ?z_sum ?z_list ?z_abs ?n_MOST_WINS ?n_MOST_TEAMS ?n_FEWEST_TEAMS ?n_MOST_GAMES
    (case a0 => k_is)
    (case l0 => k_is)
    (case c0 => k_is)
    (case k0 => k_is)
    (case a1 => k_is)
    (case l1 => k_is)
    (case c1 => k_is)
    (case k1 => k_is)
    (case a2 => k_is)
    (case l2 => k_is)
    (case c2 => k_is)
    (case k2 => k_is)
    (case a3 => k_is)
    (case l3 => k_is)
    (case c3 => k_is)
    (case k3 => k_is)
    (case a4 => k_is)
    (case l4 => k_is)
    (case c4 => k_is)
    (case k4 => k_is)
    (case a5 => k_is)
    (case l5 => k_is)
    (case c5 => k_is)
    (case k5 => k_is)
    (case a6 => k_is)
    (case l6 => k_is)
    (case c6 => k_is)
    (case k6 => k_is)
    (case a7 => k_is)
    (case l7 => k_is)
    (case c7 => k_is)
    (case k7 => k_is)
    (case a8 => k_is)
    (case l8 => k_is)
    (case c8 => k_is)
    (case k8 => k_is)
    (case a9 => k_is)
    (case l9 => k_is)
    (case c9 => k_is)
    (case k9 => k_is)
    (case a10 => k_is)
    (case l10 => k_is)
    (case c10 => k_is)
    (case k10 => k_is)
    (case a11 => k_is)
    (case l11 => k_is)
    (case c11 => k_is)
    (case k11 => k_is)
    (case a12 => k_is)
    (case l12 => k_is)
    (case c12 => k_is)
    (case k12 => k_is)
    (case a13 => k_is)
    (case l13 => k_is)
    (case c13 => k_is)
    (case k13 => k_is)
    (case a14 => k_is)
    (case l14 => k_is)
    (case c14 => k_is)
    (case k14 => k_is)
    (case a15 => k_is)
    (case l15 => k_is)
    (case c15 => k_is)
    (case k15 => k_is)
    (case a16 => k_is)
    (case l16 => k_is)
    (case c16 => k_is)
    (case k16 => k_is)
    (case a17 => k_is)
    (case l17 => k_is)
    (case c17 => k_is)
    (case k17 => k_is)
    (case a18 => k_is)
    (case l18 => k_is)
    (case c18 => k_is)
    (case k18 => k_is)
    (case a19 => k_is)
    (case l19 => k_is)
    (case c19 => k_is)
    (case k19 => k_is)
    (case a20 => k_is)
    (case l20 => k_is)
    (case c20 => k_is)
    (case k20 => k_is)
    (case a21 => k_is)
    (case l21 => k_is)
    (case c21 => k_is)
    (case k21 => k_is)
    (case a22 => k_is)
    (case l22 => k_is)
    (case c22 => k_is)
    (case k22 => k_is)
    (case a23 => k_is)
    (case l23 => k_is)
    (case c23 => k_is)
    (case k23 => k_is)
    (case a24 => k_is)
    (case l24 => k_is)
    (case c24 => k_is)
    (case k24 => k_is)
    (case a25 => k_is)
    (case l25 => k_is)
    (case c25 => k_is)
    (case k25 => k_is)
    (case a26 => k_is)
    (case l26 => k_is)
    (case c26 => k_is)
    (case k26 => k_is)
    (case a27 => k_is)
    (case l27 => k_is)
    (case c27 => k_is)
    (case k27 => k_is)
    (case a28 => k_is)
    (case l28 => k_is)
    (case c28 => k_is)
    (case k28 => k_is)
    (case a29 => k_is)
    (case l29 => k_is)
    (case c29 => k_is)
    (case k29 => k_is)
    (case a30 => k_is)
    (case l30 => k_is)
    (case c30 => k_is)
    (case k30 => k_is)
    (case a31 => k_is)
    (case l31 => k_is)
    (case c31 => k_is)
    (case k31 => k_is)
    (case a32 => k_is)
    (case l32 => k_is)
    (case c32 => k_is)
    (case k32 => k_is)
    (case a33 => k_is)
    (case l33 => k_is)
    (case c33 => k_is)
    (case k33 => k_is)
    (case a34 => k_is)
    (case l34 => k_is)
    (case c34 => k_is)
    (case k34 => k_is)
    (case z_divmod => k_is)
    (case z_int => k_is)
    (case z_len => k_is)
    (case z_tuple => k_is)
    (case z_range => k_is)
    (case z_max => k_is)
    (case z_min => k_is)
    (case z_sorted => k_is)
    (case z_isinstance => k_is)
    (case z_bool => k_is)
    (case z_enumerate => k_is)
    (case z_all => k_is)
    (case z_sum => k_is)
    (case z_list => k_is)
    (case z_abs => k_is)
    (case n_MOST_WINS => k_is)
    (case n_MOST_TEAMS => k_is)
    (case n_FEWEST_TEAMS => k_is)
    (case n_MOST_GAMES => k_is)
