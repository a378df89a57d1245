import PyProof.Rows.All
import Wide.All
import OpenK.AllK
import Wide.FinOn
import HandS.ForMost
import HandS.Lambda
import HandS.Flow
import HandS.WordsExc
import HandS.Walk
import HandS.Deep
import HandS.TupAny
import HandS.TupLe
import HandS.Style
import HandS.SortInts
import HandS.IsInst
import HandS.Star
import KE.SortData
import PyProof.ReprRoads
import HandS.Small
import HandS.Zip
import KE.GoesMore
import KE.GoesEnum
import HandS.Conv
import HandS.ExcInit
import HandS.ExcField
import HandS.ExcIs
import KE.KExcIs
import HandS.EndTab
import HandS.Words
import PySem.Challenge.RW_givesway_k65_groupings_of_places
set_option Elab.async false
set_option linter.all false
set_option maxRecDepth 100000
/-! GA: data with no addresses, how they lie in the abstract heap, and what a reading by a function of such data is. -/
namespace G
open PySem PySem.Spec
      PyProof.Rows L2

/-- a datum: containers by value, or a place (loc) in the store of what may change -/
inductive D where
  | non | bl (b : Bool) | int (i : Int) | str (x : Str)
  | tup (xs : List D) | lst (xs : List D) | scr (xs : List D) | dic (kvs : List (Key × D))
  | loc (l : Nat) | cls (c : Nat) | ty (n : String) | exn (c : Nat) (fs : List (Str × D))

/-- what changes -/
inductive SO where
  | dead | lst (xs : List D) | dic (kvs : List (Key × D)) | ins (c : Nat) (fs : List (Str × D))

/-- the text: the classes' addresses, the tables of code objects -/
structure U where
  ct : Nat → Addr
  T : List (Addr × Str)

abbrev As := List (Option Addr)
def Bad (Z : Addr → Prop) (as : As) (p : Addr) : Prop := Z p ∨ ∃ l : Nat, as[l]? = some (some p)

/-- an exception object at a, no more in flight -/
def ExF (a : Addr) (cls : Value) (d : Option Addr) : HO := .ext fun h => ∃ (oe : Obj) (vs : Array Value), h.get? a = some oe ∧ Zc cls d oe ∧ oe.data = .fields vs

/-- a tuple of the written part -/
def KTup (K : PySem.W.Frag) (a : Addr) (xs : List V) : Prop := ∃ (o : Obj) (its : Array Value) (n : Nat), K.lookup a = some o ∧ o.cls = .type "tuple" ∧ o.data = .seq its n ∧ its.size ≤ sizeLine ∧ Vals xs its.toList
/-- a list of the written part -/
def KLst (K : PySem.W.Frag) (a : Addr) (xs : List V) : Prop := ∃ (o : Obj) (its : Array Value) (n : Nat), K.lookup a = some o ∧ o.cls = .type "list" ∧ o.dict = none ∧ o.data = .seq its n ∧ its.size ≤ sizeLine ∧ Vals xs its.toList
mutual
inductive RepV (K : PySem.W.Frag) (u : U) (Z : Addr → Prop) (as : As) (H : Hp) : D → V → Prop
  | non : RepV K u Z as H .non .non
  | bl (b : Bool) : RepV K u Z as H (.bl b) (.bl b)
  | int (i : Int) : RepV K u Z as H (.int i) (.int i)
  | str (x : Str) : RepV K u Z as H (.str x) (.str x)
  | tup {ds : List D} {xs : List V} {p : Addr} (h : (Rd H p (.tup xs) ∧ ¬ Bad Z as p) ∨ KTup K p xs) (r : RepVs K u Z as H ds xs) : RepV K u Z as H (.tup ds) (.ref p)
  | lst {ds : List D} {xs : List V} {p : Addr} (h : Rd H p (.lst xs)) (n : ¬ Bad Z as p) (r : RepVs K u Z as H ds xs) : RepV K u Z as H (.lst ds) (.ref p)
  | scr {ds : List D} {xs : List V} {p : Addr} (h : (Rd H p (.lst xs) ∧ ¬ Bad Z as p) ∨ KLst K p xs) (r : RepVs K u Z as H ds xs) : RepV K u Z as H (.scr ds) (.ref p)
  | dic {kd : List (Key × D)} {kv : List (Key × V)} {p : Addr} (h : H p = some (.dK kv)) (n : ¬ Bad Z as p) (r : RepKs K u Z as H kd kv) : RepV K u Z as H (.dic kd) (.ref p)
  | loc {l : Nat} {v : V} (hl : l < as.length) (h : ∀ p, as[l]? = some (some p) → v = .ref p) : RepV K u Z as H (.loc l) v
  | cls (c : Nat) : RepV K u Z as H (.cls c) (.ref (u.ct c))
  | ty (n : String) : RepV K u Z as H (.ty n) (.ty n)
  | exn {c : Nat} {fs : List (Str × D)} {p : Addr} {d : Option Addr} (h : H p = some (ExF p (.ref (u.ct c)) d)) (n : ¬ Bad Z as p) (r : RepX K u Z as H fs d) : RepV K u Z as H (.exn c fs) (.ref p)
inductive RepVs (K : PySem.W.Frag) (u : U) (Z : Addr → Prop) (as : As) (H : Hp) : List D → List V → Prop
  | nil : RepVs K u Z as H [] []
  | cons {d : D} {v : V} {ds : List D} {vs : List V} (h : RepV K u Z as H d v) (t : RepVs K u Z as H ds vs) : RepVs K u Z as H (d :: ds) (v :: vs)
inductive RepKs (K : PySem.W.Frag) (u : U) (Z : Addr → Prop) (as : As) (H : Hp) : List (Key × D) → List (Key × V) → Prop
  | nil : RepKs K u Z as H [] []
  | cons {k : Key} {d : D} {v : V} {ds : List (Key × D)} {vs : List (Key × V)} (h : RepV K u Z as H d v) (t : RepKs K u Z as H ds vs) : RepKs K u Z as H ((k, d) :: ds) ((k, v) :: vs)
inductive RepFs (K : PySem.W.Frag) (u : U) (Z : Addr → Prop) (as : As) (H : Hp) : List (Str × D) → List (Str × V) → Prop
  | nil : RepFs K u Z as H [] []
  | cons {k : Str} {d : D} {v : V} {ds : List (Str × D)} {vs : List (Str × V)} (h : RepV K u Z as H d v) (t : RepFs K u Z as H ds vs) : RepFs K u Z as H ((k, d) :: ds) ((k, v) :: vs)
/-- the fields of an exception, d its dict's address -/
inductive RepX (K : PySem.W.Frag) (u : U) (Z : Addr → Prop) (as : As) (H : Hp) : List (Str × D) → Option Addr → Prop
  | nil : RepX K u Z as H [] none
  | dict {fs : List (Str × D)} {fv : List (Str × V)} {d : Addr} (h : H d = some (.xd fv)) (n : ¬ Bad Z as d) (r : RepFs K u Z as H fs fv) : RepX K u Z as H fs (some d)
end

/-- what is later: all that is tracked and cannot change stands -/
structure Later (as : As) (H : Hp) (as' : As) (H' : Hp) : Prop where
  len : as.length ≤ as'.length
  old : ∀ (l : Nat) (p : Addr), l < as.length → as'[l]? = some (some p) → as[l]? = some (some p)
  keep : ∀ (p : Addr) (o : HO), H p = some o → (∀ ps, o ≠ .tbl ps) → (∀ l : Nat, as[l]? ≠ some (some p)) → H' p = some o ∧ ∀ l : Nat, as'[l]? ≠ some (some p)
theorem Later.refl (as : As) (H : Hp) : Later as H as H := ⟨Nat.le_refl _, fun _ _ _ e => e, fun _ _ e _ n => ⟨e, n⟩⟩
theorem Later.trans {as as1 as2 : As} {H H1 H2 : Hp} (a : Later as H as1 H1) (b : Later as1 H1 as2 H2) : Later as H as2 H2 where
  len := Nat.le_trans a.len b.len
  old := fun l p hl e => a.old l p hl (b.old l p (Nat.lt_of_lt_of_le hl a.len) e)
  keep := fun p o e n m => let ⟨e1, m1⟩ := a.keep p o e n m; b.keep p o e1 n m1
theorem Later.free {as as' : As} {H H' : Hp} (a : Later as H as' H') {p : Addr} (h : H' p = none) (n : ∀ l : Nat, as[l]? ≠ some (some p)) (ht : ∀ ps, H p ≠ some (.tbl ps)) : H p = none := by
  cases e : H p with
  | none => rfl
  | some o =>
    have := (a.keep p o e (fun ps z => ht ps (by rw [e, z])) n).1
    rw [h] at this
    cases this
/-- all stands -/
theorem Later.of {as : As} {H H' : Hp} (h : ∀ p o, H p = some o → (∀ ps, o ≠ .tbl ps) → H' p = some o) : Later as H as H' := ⟨Nat.le_refl _, fun _ _ _ e => e, fun p o e n m => ⟨h p o e n, m⟩⟩
theorem Later.new {as : As} {H : Hp} {p : Addr} {o : HO} (h : H p = none) : Later as H as (upd H p o) := .of fun q u e _ => by rw [upd_ne (ne_of_none e h)]; exact e

theorem Later.bad {as as' : As} {H H' : Hp} {Z : Addr → Prop} (a : Later as H as' H') {p : Addr} {o : HO} (e : H p = some o) (ht : ∀ ps, o ≠ .tbl ps) (n : ¬ Bad Z as p) : H' p = some o ∧ ¬ Bad Z as' p := by
  obtain ⟨h1, h2⟩ := a.keep p o e ht fun l z => n (.inr ⟨l, z⟩)
  refine ⟨h1, ?_⟩
  rintro (z | ⟨l, z⟩)
  · exact n (.inl z)
  · exact h2 l z
theorem Later.rd {as as' : As} {H H' : Hp} {Z : Addr → Prop} (a : Later as H as' H') {p : Addr} {o : HO} (e : Rd H p o) (ht : ∀ ps, o ≠ .tbl ps) (n : ¬ Bad Z as p) : Rd H' p o ∧ ¬ Bad Z as' p := by
  rcases e with e | ⟨ob, e⟩
  · obtain ⟨h1, h2⟩ := a.bad e ht n
    exact ⟨.inl h1, h2⟩
  · obtain ⟨h1, h2⟩ := a.bad e (fun _ z => by cases z) n
    exact ⟨.inr ⟨ob, h1⟩, h2⟩

section
variable {K : PySem.W.Frag} {u : U} {Z : Addr → Prop} {as as' : As} {H H' : Hp}

mutual
theorem RepV.later (lt : Later as H as' H') : ∀ {d : D} {v : V}, RepV K u Z as H d v → RepV K u Z as' H' d v
  | _, _, .non => .non
  | _, _, .bl b => .bl b
  | _, _, .int i => .int i
  | _, _, .str x => .str x
  | _, _, .tup h r => by
    rcases h with ⟨h, n⟩ | h
    · exact .tup (.inl (lt.rd h (fun _ z => by cases z) n)) (RepVs.later lt r)
    · exact .tup (.inr h) (RepVs.later lt r)
  | _, _, .scr h r => by
    rcases h with ⟨h, n⟩ | h
    · exact .scr (.inl (lt.rd h (fun _ z => by cases z) n)) (RepVs.later lt r)
    · exact .scr (.inr h) (RepVs.later lt r)
  | _, _, .lst h n r => by
    obtain ⟨h1, h2⟩ := lt.rd h (fun _ z => by cases z) n
    exact .lst h1 h2 (RepVs.later lt r)
  | _, _, .dic h n r => by
    obtain ⟨h1, h2⟩ := lt.bad h (fun _ z => by cases z) n
    exact .dic h1 h2 (RepKs.later lt r)
  | _, _, .loc hl h => .loc (Nat.lt_of_lt_of_le hl lt.len) fun p e => h p (lt.old _ p hl e)
  | _, _, .cls c => .cls c
  | _, _, .ty n => .ty n
  | _, _, .exn h n r => by
    obtain ⟨h1, h2⟩ := lt.bad h (fun _ z => by unfold ExF at z; cases z) n
    exact .exn h1 h2 (RepX.later lt r)
theorem RepVs.later (lt : Later as H as' H') : ∀ {ds : List D} {vs : List V}, RepVs K u Z as H ds vs → RepVs K u Z as' H' ds vs
  | _, _, .nil => .nil
  | _, _, .cons h t => .cons (RepV.later lt h) (RepVs.later lt t)
theorem RepKs.later (lt : Later as H as' H') : ∀ {ds : List (Key × D)} {vs : List (Key × V)}, RepKs K u Z as H ds vs → RepKs K u Z as' H' ds vs
  | _, _, .nil => .nil
  | _, _, .cons h t => .cons (RepV.later lt h) (RepKs.later lt t)
theorem RepFs.later (lt : Later as H as' H') : ∀ {ds : List (Str × D)} {vs : List (Str × V)}, RepFs K u Z as H ds vs → RepFs K u Z as' H' ds vs
  | _, _, .nil => .nil
  | _, _, .cons h t => .cons (RepV.later lt h) (RepFs.later lt t)
theorem RepX.later (lt : Later as H as' H') : ∀ {fs : List (Str × D)} {d : Option Addr}, RepX K u Z as H fs d → RepX K u Z as' H' fs d
  | _, _, .nil => .nil
  | _, _, .dict h n r => by
    obtain ⟨h1, h2⟩ := lt.bad h (fun _ z => by cases z) n
    exact .dict h1 h2 (RepFs.later lt r)
end
theorem RepVs.length : ∀ {ds : List D} {vs : List V}, RepVs K u Z as H ds vs → ds.length = vs.length
  | _, _, .nil => rfl
  | _, _, .cons _ t => by rw [List.length_cons, List.length_cons, RepVs.length t]
theorem RepVs.get : ∀ {ds : List D} {vs : List V} {i : Nat} {d : D}, RepVs K u Z as H ds vs → ds[i]? = some d → ∃ v, vs[i]? = some v ∧ RepV K u Z as H d v
  | _, _, 0, _, .cons h _, e => by simp at e; subst e; exact ⟨_, rfl, h⟩
  | _, _, i + 1, d, .cons _ t, e => by
    obtain ⟨v, h1, h2⟩ := RepVs.get (i := i) (d := d) t (by simpa using e)
    exact ⟨v, by simpa using h1, h2⟩
theorem RepVs.getV : ∀ {ds : List D} {vs : List V} {i : Nat} {v : V}, RepVs K u Z as H ds vs → vs[i]? = some v → ∃ d, ds[i]? = some d ∧ RepV K u Z as H d v
  | _, _, 0, _, .cons h _, e => by simp at e; subst e; exact ⟨_, rfl, h⟩
  | _, _, i + 1, v, .cons _ t, e => by
    obtain ⟨d, h1, h2⟩ := RepVs.getV (i := i) (v := v) t (by simpa using e)
    exact ⟨d, by simpa using h1, h2⟩
theorem RepVs.append : ∀ {ds es : List D} {vs ws : List V}, RepVs K u Z as H ds vs → RepVs K u Z as H es ws → RepVs K u Z as H (ds ++ es) (vs ++ ws)
  | _, _, _, _, .nil, s => s
  | _, _, _, _, .cons h t, s => .cons h (RepVs.append t s)
theorem RepVs.set {d : D} {v : V} (h : RepV K u Z as H d v) : ∀ {ds : List D} {vs : List V} (i : Nat), RepVs K u Z as H ds vs → RepVs K u Z as H (ds.set i d) (vs.set i v)
  | _, _, _, .nil => .nil
  | _, _, 0, .cons _ t => .cons h t
  | _, _, i + 1, .cons q t => .cons q (RepVs.set h i t)
theorem RepVs.take : ∀ {ds : List D} {vs : List V} (n : Nat), RepVs K u Z as H ds vs → RepVs K u Z as H (ds.take n) (vs.take n)
  | _, _, 0, _ => .nil
  | _, _, _ + 1, .nil => .nil
  | _, _, n + 1, .cons h t => .cons h (RepVs.take n t)
theorem RepVs.drop : ∀ {ds : List D} {vs : List V} (n : Nat), RepVs K u Z as H ds vs → RepVs K u Z as H (ds.drop n) (vs.drop n)
  | _, _, 0, r => r
  | _, _, _ + 1, .nil => .nil
  | _, _, n + 1, .cons _ t => RepVs.drop n t
end

/-! ### the store -/
def RepO (K : PySem.W.Frag) (u : U) (Z : Addr → Prop) (as : As) (H : Hp) (a : Option Addr) : SO → Prop
  | .dead => a = none
  | .lst ds => ∃ p xs, a = some p ∧ H p = some (.lst xs) ∧ RepVs K u Z as H ds xs
  | .dic kd => ∃ p kv, a = some p ∧ H p = some (.dK kv) ∧ RepKs K u Z as H kd kv
  | .ins c fs => ∃ p dx fv, a = some p ∧ H p = some (.ins (u.ct c) dx fv) ∧ RepFs K u Z as H fs fv
structure RelS (K : PySem.W.Frag) (u : U) (Z : Addr → Prop) (as : As) (μ : List SO) (H : Hp) : Prop where
  len : as.length = μ.length
  inj : ∀ (l m : Nat) (p : Addr), as[l]? = some (some p) → as[m]? = some (some p) → l = m
  obj : ∀ (l : Nat) (a : Option Addr) (o : SO), as[l]? = some a → μ[l]? = some o → RepO K u Z as H a o
  zok : ∀ p, Z p → (∃ o, H p = some o ∧ ∀ ps, o ≠ .tbl ps) ∧ ∀ l : Nat, as[l]? ≠ some (some p)
  tabs : LamX.Tabs u.T H
abbrev Env := List (Option D)
structure Rel (K : PySem.W.Frag) (u : U) (Z : Addr → Prop) (as : As) (ρ : Env) (μ : List SO) (σ : L2.St) (H : Hp) : Prop where
  s : RelS K u Z as μ H
  len : ρ.length = σ.length
  env : ∀ (i : Nat) (d : D), ρ[i]? = some (some d) → ∃ v, σ[i]? = some (some v) ∧ RepV K u Z as H d v

section
variable {K : PySem.W.Frag} {u : U} {Z : Addr → Prop} {as as' : As} {μ : List SO} {ρ : Env} {σ : L2.St} {H H' : Hp}
theorem RelS.mut (r : RelS K u Z as μ H) {l : Nat} {p : Addr} (e : as[l]? = some (some p)) : ∃ o, H p = some o ∧ Mut (some o) ∧ (∀ ps, o ≠ .tbl ps) ∧ ∀ φ, o ≠ .ext φ := by
  have hl : l < μ.length := by rw [← r.len]; exact (List.getElem?_eq_some_iff.mp e).1
  have q := r.obj l _ μ[l] e (by simp [hl])
  cases h : μ[l] with
  | dead => rw [h] at q; cases q
  | lst ds => rw [h] at q; obtain ⟨p', xs, e1, e2, _⟩ := q; cases e1; exact ⟨_, e2, trivial, (fun _ z => by cases z), fun _ z => by cases z⟩
  | dic ds => rw [h] at q; obtain ⟨p', xs, e1, e2, _⟩ := q; cases e1; exact ⟨_, e2, trivial, (fun _ z => by cases z), fun _ z => by cases z⟩
  | ins c ds => rw [h] at q; obtain ⟨p', dx, xs, e1, e2, _⟩ := q; cases e1; exact ⟨_, e2, trivial, (fun _ z => by cases z), fun _ z => by cases z⟩
/-- what is bad is tracked -/
theorem RelS.tracked (r : RelS K u Z as μ H) {p : Addr} (h : Bad Z as p) : ∃ o, H p = some o ∧ ∀ ps, o ≠ .tbl ps := by
  rcases h with h | ⟨l, e⟩
  · exact (r.zok p h).1
  · obtain ⟨o, h1, _, h3, _⟩ := r.mut e
    exact ⟨o, h1, h3⟩
theorem RelS.fresh (r : RelS K u Z as μ H) {p : Addr} (h : H p = none) : ¬ Bad Z as p := fun z => by
  obtain ⟨o, e, _⟩ := r.tracked z
  rw [h] at e
  cases e
/-- nothing of ours has changed -/
theorem RelS.still (r : RelS K u Z as μ H) (h : ∀ p o, H p = some o → (∀ ps, o ≠ .tbl ps) → H' p = some o) (ht : LamX.Tabs u.T H') : RelS K u Z as μ H' := by
  have lt : Later as H as H' := .of h
  refine ⟨r.len, r.inj, fun l a o e1 e2 => ?_, fun p hp => ?_, ht⟩
  · have q := r.obj l a o e1 e2
    cases o with
    | dead => exact q
    | lst ds => obtain ⟨p, xs, e, e', q⟩ := q; exact ⟨p, xs, e, h _ _ e' (fun _ z => by cases z), q.later lt⟩
    | dic ds => obtain ⟨p, xs, e, e', q⟩ := q; exact ⟨p, xs, e, h _ _ e' (fun _ z => by cases z), q.later lt⟩
    | ins c ds => obtain ⟨p, dx, xs, e, e', q⟩ := q; exact ⟨p, dx, xs, e, h _ _ e' (fun _ z => by cases z), q.later lt⟩
  · obtain ⟨⟨o, e, n⟩, m⟩ := r.zok p hp
    exact ⟨⟨o, h _ _ e n, n⟩, m⟩
theorem Rel.still (r : Rel K u Z as ρ μ σ H) (h : ∀ p o, H p = some o → (∀ ps, o ≠ .tbl ps) → H' p = some o) (ht : LamX.Tabs u.T H') : Rel K u Z as ρ μ σ H' :=
  ⟨r.s.still h ht, r.len, fun i d e => let ⟨v, e1, q⟩ := r.env i d e; ⟨v, e1, q.later (.of h)⟩⟩
/-- a new thing -/
theorem Rel.new (r : Rel K u Z as ρ μ σ H) {p : Addr} {o : HO} (h : H p = none) : Rel K u Z as ρ μ σ (upd H p o) :=
  r.still (fun q x e _ => by rw [upd_ne (ne_of_none e h)]; exact e) (r.s.tabs.ext fun b x e => by rw [upd_ne (ne_of_none e h)]; exact e)
theorem RelS.new (r : RelS K u Z as μ H) {p : Addr} {o : HO} (h : H p = none) : RelS K u Z as μ (upd H p o) :=
  r.still (fun q x e _ => by rw [upd_ne (ne_of_none e h)]; exact e) (r.tabs.ext fun b x e => by rw [upd_ne (ne_of_none e h)]; exact e)
theorem Rel.mono (r : Rel K u Z as ρ μ σ H) {μ' : List SO} (lt : Later as H as' H') (s : RelS K u Z as' μ' H') : Rel K u Z as' ρ μ' σ H' :=
  ⟨s, r.len, fun i d e => let ⟨v, e1, q⟩ := r.env i d e; ⟨v, e1, q.later lt⟩⟩
theorem Rel.set (r : Rel K u Z as ρ μ σ H) {d : D} {v : V} (q : RepV K u Z as H d v) (i : Nat) : Rel K u Z as (ρ.set i (some d)) μ (σ.set i (some v)) H := by
  refine ⟨r.s, by rw [List.length_set, List.length_set, r.len], fun j e hj => ?_⟩
  by_cases hij : i = j
  · subst hij
    by_cases hl : i < ρ.length
    · rw [List.getElem?_set_self hl] at hj
      cases hj
      exact ⟨v, by rw [List.getElem?_set_self (by rw [← r.len]; exact hl)], q⟩
    · rw [List.getElem?_eq_none (by rw [List.length_set]; omega)] at hj
      cases hj
  · rw [List.getElem?_set_ne hij] at hj
    obtain ⟨w, e1, q1⟩ := r.env j e hj
    exact ⟨w, by rw [List.getElem?_set_ne hij]; exact e1, q1⟩
theorem Rel.unset (r : Rel K u Z as ρ μ σ H) (i : Nat) : Rel K u Z as (ρ.set i none) μ (σ.set i none) H := by
  refine ⟨r.s, by rw [List.length_set, List.length_set, r.len], fun j e hj => ?_⟩
  by_cases hij : i = j
  · subst hij
    by_cases hl : i < ρ.length
    · rw [List.getElem?_set_self hl] at hj
      cases hj
    · rw [List.getElem?_eq_none (by rw [List.length_set]; omega)] at hj
      cases hj
  · rw [List.getElem?_set_ne hij] at hj
    obtain ⟨w, e1, q1⟩ := r.env j e hj
    exact ⟨w, by rw [List.getElem?_set_ne hij]; exact e1, q1⟩
/-- the store's thing at l is another one now -/
theorem RelS.put (r : RelS K u Z as μ H) {l : Nat} {p : Addr} {o : SO} {ho : HO} (e : as[l]? = some (some p)) (hn : ∀ ps, ho ≠ .tbl ps) (hT : ∀ xs, H p ≠ some (.tup xs)) (q : RepO K u Z as (upd H p ho) (some p) o) :
    RelS K u Z as (μ.set l o) (upd H p ho) ∧ Later as H as (upd H p ho) := by
  have lt : Later as H as (upd H p ho) := ⟨Nat.le_refl _, fun _ _ _ e => e, fun q o' e1 n1 m1 => ⟨by rw [upd_ne (fun z => m1 l (by rw [z]; exact e))]; exact e1, m1⟩⟩
  obtain ⟨o0, h0, _, t0, x0⟩ := r.mut e
  refine ⟨⟨by rw [List.length_set]; exact r.len, r.inj, fun m a o' e1 e2 => ?_, fun b hb => ?_, fun x hx => ?_⟩, lt⟩
  · by_cases hm : l = m
    · subst hm
      have hl : l < μ.length := by rw [← r.len]; exact (List.getElem?_eq_some_iff.mp e).1
      rw [List.getElem?_set_self hl] at e2
      cases e2
      rw [e] at e1
      cases e1
      exact q
    · rw [List.getElem?_set_ne hm] at e2
      have q1 := r.obj m a o' e1 e2
      have ne : ∀ p', a = some p' → p' ≠ p := fun p' ea z => hm (r.inj l m p e (by rw [e1, ea, z]))
      cases o' with
      | dead => exact q1
      | lst ds => obtain ⟨p', xs, ea, e', q1⟩ := q1; exact ⟨p', xs, ea, by rw [upd_ne (ne p' ea)]; exact e', q1.later lt⟩
      | dic ds => obtain ⟨p', xs, ea, e', q1⟩ := q1; exact ⟨p', xs, ea, by rw [upd_ne (ne p' ea)]; exact e', q1.later lt⟩
      | ins c ds => obtain ⟨p', dx, xs, ea, e', q1⟩ := q1; exact ⟨p', dx, xs, ea, by rw [upd_ne (ne p' ea)]; exact e', q1.later lt⟩
  · obtain ⟨⟨o1, e1, n1⟩, m1⟩ := r.zok b hb
    exact ⟨⟨o1, by rw [upd_ne (fun z => m1 l (by rw [z]; exact e))]; exact e1, n1⟩, m1⟩
  · obtain ⟨ps, h1, h2, h3⟩ := r.tabs x hx
    have np : x.1 ≠ p := fun z => by rw [z, h0] at h1; cases h1; exact t0 ps rfl
    refine ⟨ps, by rw [upd_ne np]; exact h1, h2, fun pos cv hc => ?_⟩
    obtain ⟨c, e1, e2⟩
          := h3 pos cv hc
    refine ⟨c, e1, ?_⟩
    rw [upd_ne]
    · exact e2
    · intro z
      rw [z] at e2
      rw [h0] at e2
      cases e2
      exact x0 _ rfl
/-- a new thing that may change -/
theorem RelS.grow (r : RelS K u Z as μ H) {p : Addr} {o : SO} {ho : HO} (h : H p = none) (q : RepO K u Z (as ++ [some p]) (upd H p ho) (some p) o) (ho1 : o ≠ .dead) :
    RelS K u Z (as ++ [some p]) (μ ++ [o]) (upd H p ho) ∧ Later as H (as ++ [some p]) (upd H p ho) := by
  have tr : ∀ l, as[l]? ≠ some (some p) := fun l e => by
    obtain ⟨o1, h1, _⟩ := r.mut e
    rw [h] at h1
    cases h1
  have inv : ∀ (l : Nat) (q : Addr), (as ++ [some p])[l]? = some (some q) → as[l]? = some (some q) ∨ (l = as.length ∧ q = p) := fun l q e => by
    rw [List.getElem?_append] at e
    split at e
    · exact .inl e
    · rename_i hl
      by_cases h2 : l - as.length = 0
      · rw [h2] at e
        simp at e
        exact .inr ⟨by omega, e.symm⟩
      · rw [List.getElem?_eq_none (by simp; omega)] at e
        cases e
  have lt : Later as H (as ++ [some p]) (upd H p ho) := by
    refine ⟨by simp, fun l q hl e => ?_, fun q o' e1 n1 m1 => ⟨by rw [upd_ne (ne_of_none e1 h)]; exact e1, fun l e => ?_⟩⟩
    · rcases inv l q e with e | ⟨e, _⟩
      · exact e
      · omega
    · rcases inv l q e with e | ⟨_, e⟩
      · exact m1 l e
      · rw [e, h] at e1
        cases e1
  refine ⟨⟨by simp [r.len], fun l m q e1 e2 => ?_, fun l a o' e1 e2 => ?_, fun b hb => ?_, r.tabs.ext fun b x e => by rw [upd_ne (ne_of_none e h)]; exact e⟩, lt⟩
  · rcases inv l q e1 with f1 | ⟨f1, g1⟩
    · rcases inv m q e2 with f2 | ⟨f2, g2⟩
      · exact r.inj l m q f1 f2
      · rw [g2] at f1
        exact absurd f1 (tr l)
    · rcases inv m q e2 with f2 | ⟨f2, g2⟩
      · rw [g1] at f2
        exact absurd f2 (tr m)
      · rw [f1, f2]
  · by_cases hl : l < as.length
    · rw [List.getElem?_append_left hl] at e1
      rw [List.getElem?_append_left (by rw [← r.len]; exact hl)] at e2
      have q1 := r.obj l a o' e1 e2
      have ne : ∀ p', a = some p' → p' ≠ p := fun p' ea z => tr l (by rw [e1, ea, z])
      cases o' with
      | dead => exact q1
      | lst ds => obtain ⟨p', xs, ea, e', q1⟩ := q1; exact ⟨p', xs, ea, by rw [upd_ne (ne p' ea)]; exact e', q1.later lt⟩
      | dic ds => obtain ⟨p', xs, ea, e', q1⟩ := q1; exact ⟨p', xs, ea, by rw [upd_ne (ne p' ea)]; exact e', q1.later lt⟩
      | ins c ds => obtain ⟨p', dx, xs, ea, e', q1⟩ := q1; exact ⟨p', dx, xs, ea, by rw [upd_ne (ne p' ea)]; exact e', q1.later lt⟩
    · by_cases h2 : l = as.length
      · subst h2
        rw [List.getElem?_append_right (Nat.le_refl _)] at e1
        rw [List.getElem?_append_right (by rw [r.len]; exact Nat.le_refl _)] at e2
        simp [r.len] at e1 e2
        subst e1 e2
        exact q
      · rw [List.getElem?_eq_none (by simp; omega)] at e1
        cases e1
  · obtain ⟨⟨o1, e1, n1⟩, m1⟩ := r.zok b hb
    refine ⟨⟨o1, by rw [upd_ne (ne_of_none e1 h)]; exact e1, n1⟩, fun l e => ?_⟩
    rcases inv l b e with e | ⟨_, e⟩
    · exact m1 l e
    · rw [e, h] at e1
      cases e1
end
end G

set_option Elab.async false
set_option linter.all false
set_option maxRecDepth 100000
/-! GB: what code makes of data: expressions, tests, statements, calls; their readings. -/
namespace G
open PySem PySem.Spec
      PyProof.Rows L2

inductive Res (α : Type) where
  | ok (a : α) (μ : List SO)
  | exc (c : Nat) (fs : List (Str × D)) (μ : List SO)
  | no
def Res.bind {α β : Type} (r : Res α) (k : α → List SO → Res β) : Res β := match r with
  | .ok a μ => k a μ
  | .exc c fs μ => .exc c fs μ
  | .no => .no
def Res.map {α β : Type} (f : α → β) (r : Res α) : Res β := match r with
  | .ok a μ => .ok (f a) μ
  | .exc c fs μ => .exc c fs μ
  | .no => .no
abbrev SM (α : Type) := Env → List SO → Res α

/-- the wish W about exceptions, what is wanted (P) otherwise -/
def Post {α : Type} (K : PySem.W.Frag) (u : U) (W : WX) (Z : Addr → Prop) (ρ : Env) (σ : L2.St) (as : As) (H : Hp) (r : Res α) (P : As → Hp → List SO → α → Prop) : Prop := match r with
  | .ok a μ' => ∀ as' H', Later as H as' H' → Rel K u Z as' ρ μ' σ H' → P as' H' μ' a
  | .exc c fs μ' => ∀ as' H' d, Later as H as' H' → Rel K u Z as' ρ μ' σ H' → RepX K u Z as' H' fs d → W (.ref (u.ct c)) d σ H'
  | .no => False
section
variable {α β : Type} {K : PySem.W.Frag} {u : U} {W : WX} {Z : Addr → Prop} {ρ : Env} {σ : L2.St} {as as1 : As} {μ : List SO} {H H1 : Hp} {r : Res α} {P P' : As → Hp → List SO → α → Prop}
theorem Post.mono (h : Post K u W Z ρ σ as H r P) (m : ∀ as' H' μ' a, Later as H as' H' → Rel K u Z as' ρ μ' σ H' → P as' H' μ' a → P' as' H' μ' a) : Post K u W Z ρ σ as H r P' := by
  cases r with
  | ok a μ' => exact fun as' H' lt rl => m as' H' μ' a lt rl (h as' H' lt rl)
  | exc c fs μ' => exact h
  | no => exact h
theorem Post.later (h : Post K u W Z ρ σ as H r P) (lt : Later as H as1 H1) : Post K u W Z ρ σ as1 H1 r P := by
  cases r with
  | ok a μ' => exact fun as' H' l rl => h as' H' (lt.trans l) rl
  | exc c fs μ' => exact fun as' H' d l rl q => h as' H' d (lt.trans l) rl q
  | no => exact h
theorem Post.bind {k : α → List SO → Res β} {P : As → Hp → List SO → β → Prop} (h : Post K u W Z ρ σ as H (r.bind k) P) : Post K u W Z ρ σ as H r (fun as1 H1 μ1 a => Post K u W Z ρ σ as1 H1 (k a μ1) P) := by
  cases r with
  | ok a μ' => exact fun as' H' lt rl => Post.later (show Post K u W Z ρ σ as H (k a μ') P from h) lt
  | exc c fs μ' => exact h
  | no => exact h
theorem Post.now {a : α} (h : Post K u W Z ρ σ as H (.ok a μ) P) (r : Rel K u Z as ρ μ σ H) : P as H μ a := h as H (Later.refl _ _) r
end

/-! ### the readings -/
abbrev SE := SM D
def PV (K : PySem.W.Frag) (u : U) (Z : Addr → Prop) (Q : VK) : As → Hp → List SO → D → Prop := fun as' H' _ d => ∀ v, RepV K u Z as' H' d v → Q v H'
def tm (K : PySem.W.Frag) (u : U) (W : WX) (m : SE) : TE := fun σ H Q => ∃ Z as ρ μ, Rel K u Z as ρ μ σ H ∧ Post K u W Z ρ σ as H (m ρ μ) (PV K u Z Q)
def tmT (K : PySem.W.Frag) (u : U) (W : WX) (m : SM Bool) : TT := fun σ H Q => ∃ Z as ρ μ, Rel K u Z as ρ μ σ H ∧ Post K u W Z ρ σ as H (m ρ μ) fun _ H' _ b => Q b H'
def tmA (K : PySem.W.Frag) (u : U) (W : WX) (m : SM (List D)) : TA := fun σ H Q => ∃ Z as ρ μ, Rel K u Z as ρ μ σ H ∧ Post K u W Z ρ σ as H (m ρ μ) fun as' H' _ ds => ∀ vs, RepVs K u Z as' H' ds vs → Q vs H'

/-- where code runs -/
structure Go (X : Cx) (u : U) (W : WX) (k : Nat) : Prop where
  room : Room k X.A
  guards : X.A.guards = some []
  calm : X.calm = true
  nd : X.N.Nodup
  takes : Takes X W
  passes : PassesOwn (model X.prog X.w) X.A X.env X.xe

theorem _root_.L2.PE.gwk {X : Cx} {e : Expr} {t t' : TE} (h : PE X e t) (w : ∀ σ H Q, t' σ H Q → t σ H Q) : PE X e t' := ⟨fun pins s σ H Q I hq => h.run pins s σ H Q I (w σ H Q hq)⟩
theorem _root_.L2.PT.gwk {X : Cx} {e : Expr} {t t' : TT} (h : PT X e t) (w : ∀ σ H Q, t' σ H Q → t σ H Q) : PT X e t' := ⟨fun pins s σ H Q I hq => h.run pins s σ H Q I (w σ H Q hq)⟩
theorem _root_.L2.PA.gwk {X : Cx} {e : List Expr} {t t' : TA} (h : PA X e t) (w : ∀ σ H Q, t' σ H Q → t σ H Q) : PA X e t' := ⟨fun pos pins s σ H Q I hq => h.run pos pins s σ H Q I (w σ H Q hq)⟩

/-! ### small expressions -/
def varM (i : Nat) : SE := fun ρ μ => match ρ[i]? with
  | some (some d) => .ok d μ
  | _ => .no
def cM (d : D) : SE := fun _ μ => .ok d μ
section
variable {X : Cx} {u : U} {W : WX} {k : Nat}
theorem ge_var {i : Nat} {x : Str} {pos : Pos} (hN : X.N[i]? = some x := by rfl) (hv : Vis X.env.scope x := by first | exact Or.inl rfl | exact Or.inr (Or.inl rfl) | exact Or.inr (Or.inr rfl)) (hd : (x == ("__debug__" : Str)) = false := by decide)
    (hcd : (x == ("__classdict__" : Str)) = false := by decide) : PE X (.Name x pos) (tm X.K u W (varM i)) := by
  refine (pe_var hN hv hd hcd).gwk fun σ H Q ⟨Z, as, ρ, μ, R, h⟩ => ?_
  unfold varM at h
  split at h
  · rename_i d e
    obtain ⟨v, e1, q⟩ := R.env i d e
    exact ⟨v, e1, h.now R v q⟩
  · exact h.elim
theorem tm_c {d : D} {v : V} (q : ∀ Z as H, RepV X.K u Z as H d v) {σ : L2.St} {H : Hp} {Q : VK} (h : tm X.K u W (cM d) σ H Q) : Q v H := by
  obtain ⟨Z, as, ρ, μ, R, h⟩ := h
  exact h.now R v (q _ _ _)
theorem ge_int {i : Int} {j pos} : PE X (.Constant (.int i) j pos) (tm X.K u W (cM (.int i))) := pe_int.gwk fun _ _ _ h => tm_c (fun _ _ _ => .int i) h
theorem ge_bl {b : Bool} {j pos} : PE X (.Constant (.bool b) j pos) (tm X.K u W (cM (.bl b))) := pe_bl.gwk fun _ _ _ h => tm_c (fun _ _ _ => .bl b) h
theorem ge_non {j pos} : PE X (.Constant .none j pos) (tm X.K u W (cM .non)) := pe_non.gwk fun _ _ _ h => tm_c (fun _ _ _ => .non) h
theorem ge_str {x : Str} {j pos} : PE X (.Constant (.str x) j pos) (tm X.K u W (cM (.str x))) := pe_str.gwk fun _ _ _ h => tm_c (fun _ _ _ => .str x) h
theorem ge_gint {x : Str} {i : Int} {t : Tok} {pos} (hm : X.mg x = some (.int i t)) (hg : Gl X x := by rfl) (hd : (x == ("__debug__" : Str)) = false := by decide) : PE X (.Name x pos) (tm X.K u W (cM (.int i))) := (pe_glob (v := .int i) hg hm ⟨t, rfl⟩ hd).gwk fun _ _ _ h => tm_c (fun _ _ _ => .int i) h
theorem ge_gstr {x y : Str} {t : Tok} {pos} (hm : X.mg x = some (.str y t)) (hg : Gl X x := by rfl) (hd : (x == ("__debug__" : Str)) = false := by decide) : PE X (.Name x pos) (tm X.K u W (cM (.str y))) := (pe_glob (v := .str y) hg hm ⟨t, rfl⟩ hd).gwk fun _ _ _ h => tm_c (fun _ _ _ => .str y) h
theorem ge_gcls {x : Str} {c : Nat} {pos} (hm : X.mg x = some (.ref (u.ct c))) (hg : Gl X x := by rfl) (hd : (x == ("__debug__" : Str)) = false := by decide) : PE X (.Name x pos) (tm X.K u W (cM (.cls c))) := (pe_glob (v := .ref (u.ct c)) hg hm rfl hd).gwk fun _ _ _ h => tm_c (fun _ _ _ => .cls c) h
theorem ge_bty {x : Str} {n : String} {pos} (hm : X.mg x = none) (hv : bootBuiltins x = some (.type n)) (hg : Gl X x := by rfl) (hn : x ≠ "__name__" := by decide) (hd : (x == ("__debug__" : Str)) = false := by decide) : PE X (.Name x pos) (tm X.K u W (cM (.ty n))) :=
  (pe_bltn (v := .ty n) hg hm hv rfl hn hd).gwk fun _ _ _ h => tm_c (fun _ _ _ => .ty n) h

/-! ### argument lists -/
def nilM : SM (List D) := fun _ μ => .ok [] μ
def consM (m : SE) (n : SM (List D)) : SM (List D) := fun ρ μ => (m ρ μ).bind fun d μ1 => (n ρ μ1).map (d :: ·)
theorem Post.map {α β : Type} {K : PySem.W.Frag} {Z : Addr → Prop} {ρ : Env} {σ : L2.St} {as : As} {H : Hp} {r : Res α} {f : α → β} {P : As → Hp → List SO → β → Prop} (h : Post K u W Z ρ σ as H (r.map f) P) : Post K u W Z ρ σ as H r (fun as' H' μ' a => P as' H' μ' (f a)) := by
  cases r with
  | ok a μ' => exact h
  | exc c fs μ' => exact h
  | no => exact h
theorem ga_nil : PA X [] (tmA X.K u W nilM) := pa_nil.gwk fun σ H Q ⟨Z, as, ρ, μ, R, h⟩ => h.now R [] .nil
theorem ga_cons {e : Expr} {es : List Expr} {m : SE} {n : SM (List D)} (ha : PE X e (tm X.K u W m)) (hr : PA X es (tmA X.K u W n)) (hs : starEach (e :: es) X.env = (false, eval e X.env) :: starEach es X.env := by rfl) : PA X (e :: es) (tmA X.K u W (consM m n)) := by
  refine (pa_cons ha hr hs).gwk fun σ H Q ⟨Z, as, ρ, μ, R, h⟩ => ⟨Z, as, ρ, μ, R, h.bind.mono fun as1 H1 μ1 d lt R1 h1 v q => ⟨Z, as1, ρ, μ1, R1, h1.map.mono fun as2 H2 μ2 ds lt2 R2 h2 vs qs => h2 (v :: vs) (.cons (q.later lt2) qs)⟩⟩

/-! ### operations by values -/
abbrev F1 := List SO → D → Option D
abbrev F2 := List SO → D → D → Option D
abbrev FA := List SO → List D → Option D
/-- the values lie as the data; what comes is the datum f tells, all else stands -/
def r1D (K : PySem.W.Frag) (u : U) (f : F1) : V → Hp → VK → Prop := fun x H Q => ∃ Z as μ dx d, RelS K u Z as μ H ∧ RepV K u Z as H dx x ∧ f μ dx = some d ∧ ∀ H' z, Same H H' → RepV K u Z as H' d z → Q z H'
def r2D (K : PySem.W.Frag) (u : U) (f : F2) : R2 := fun x y H Q => ∃ Z as μ dx dy d, RelS K u Z as μ H ∧ RepV K u Z as H dx x ∧ RepV K u Z as H dy y ∧ f μ dx dy = some d ∧ ∀ H' z, Same H H' → RepV K u Z as H' d z → Q z H'
def rAD (K : PySem.W.Frag) (u : U) (f : FA) : List V → Hp → VK → Prop := fun xs H Q => ∃ Z as μ ds d, RelS K u Z as μ H ∧ RepVs K u Z as H ds xs ∧ f μ ds = some d ∧ ∀ H' z, Same H H' → RepV K u Z as H' d z → Q z H'
theorem _root_.L2.OpR.gwk {g : Value → Value → Sem Value} {r r' : R2} (h : OpR X g r) (w : ∀ x y H Q, r' x y H Q → r x y H Q) : OpR X g r' := fun pins s σ H x y v u Q I rx ry q => h pins s σ H x y v u Q I rx ry (w x y H Q q)
theorem _root_.L2.CallR.gwk {g : Value} {r r' : List V → Hp → VK → Prop} (h : CallR X g r) (w : ∀ x H Q, r' x H Q → r x H Q) : CallR X g r' := fun pins s σ H x v Q I rx q => h pins s σ H x v Q I rx (w x H Q q)
theorem _root_.L2.UnR.gwk {g : Value → Sem Value} {r r' : V → Hp → VK → Prop} (h : UnR X g r) (w : ∀ x H Q, r' x H Q → r x H Q) : UnR X g r' := fun pins s σ H x v Q I rx q => h pins s σ H x v Q I rx (w x H Q q)
/-- what stands: the state behind -/
theorem Rel.same {K : PySem.W.Frag} {Z : Addr → Prop} {as : As} {ρ : Env} {μ : List SO} {σ : L2.St} {H H' : Hp} (R : Rel K u Z as ρ μ σ H) (s : Same H H') : Rel K u Z as ρ μ σ H' ∧ Later as H as H' :=
  ⟨R.still (fun p o e _ => s p o e) (R.s.tabs.ext s), .of fun p o e _ => s p o e⟩
def optM {α : Type} (o : Option α) (μ : List SO) : Res α := match o with
  | some a => .ok a μ
  | none => .no
def op1M (f : F1) (a : SE) : SE := fun ρ μ => (a ρ μ).bind fun x μ1 => optM (f μ1 x) μ1
def op2M (f : F2) (a b : SE) : SE := fun ρ μ => (a ρ μ).bind fun x μ1 => (b ρ μ1).bind fun y μ2 => optM (f μ2 x y) μ2
def callM (f : FA) (a : SM (List D)) : SE := fun ρ μ => (a ρ μ).bind fun xs μ1 => optM (f μ1 xs) μ1
theorem Post.opt {K : PySem.W.Frag} {Z : Addr → Prop} {ρ : Env} {σ : L2.St} {as : As} {H : Hp} {o : Option D} {μ : List SO} {Q : VK} (h : Post K u W Z ρ σ as H (optM o μ) (PV K u Z Q)) (R : Rel K u Z as ρ μ σ H) :
    ∃ d, o = some d ∧ ∀ H' z, Same H H' → RepV K u Z as H' d z → Q z H' := by
  cases o with
  | none => exact h.elim
  | some d => exact ⟨d, rfl, fun H' z s q => let ⟨R', lt⟩ := R.same s; h as H' lt R' z q⟩
section
variable {a b : Expr} {ma mb : SE} {pos : Pos} {f : F2} {f1 : F1} {fa : FA}
/-- two operands, then f -/
theorem tm_op2 {σ : L2.St} {H : Hp} {Q : VK} (h : tm X.K u W (op2M f ma mb) σ H Q) : tOp (r2D X.K u f) (tm X.K u W ma) (tm X.K u W mb) σ H Q := by
  obtain ⟨Z, as, ρ, μ, R, h⟩ := h
  refine ⟨Z, as, ρ, μ, R, h.bind.mono fun as1 H1 μ1 x lt1 R1 h1 v qv => ⟨Z, as1, ρ, μ1, R1, h1.bind.mono fun as2 H2 μ2 y lt2 R2 h2 w qw => ?_⟩⟩
  obtain ⟨d, e, k⟩ := h2.opt R2
  exact ⟨Z, as2, μ2, x, y, d, R2.s, qv.later lt2, qw, e, k⟩
theorem tm_op1 {σ : L2.St} {H : Hp} {Q : VK} (h : tm X.K u W (op1M f1 ma) σ H Q) : tUn (r1D X.K u f1) (tm X.K u W ma) σ H Q := by
  obtain ⟨Z, as, ρ, μ, R, h⟩ := h
  refine ⟨Z, as, ρ, μ, R, h.bind.mono fun as1 H1 μ1 x lt1 R1 h1 v qv => ?_⟩
  obtain ⟨d, e, k⟩ := h1.opt R1
  exact ⟨Z, as1, μ1, x, d, R1.s, qv, e, k⟩
theorem ge_bin {op : Operator} (ho : OpR X (binaryOp op) (r2D X.K u f)) (ha : PE X a (tm X.K u W ma)) (hb : PE X b (tm X.K u W mb)) : PE X (.BinOp a op b pos) (tm X.K u W (op2M f ma mb)) := (pe_op ho ha hb).gwk fun _ _ _ h => tm_op2 h
theorem ge_un {op : UnaryOp} (ho : UnR X (unaryOp op) (r1D X.K u f1)) (ha : PE X a (tm X.K u W ma)) : PE X (.UnaryOp op a pos) (tm X.K u W (op1M f1 ma)) := (pe_un ho ha).gwk fun _ _ _ h => tm_op1 h
theorem ge_cmp {op : CmpOp} (ho : OpR X (compareOp op) (r2D X.K u f)) (ha : PE X a (tm X.K u W ma)) (hb : PE X b (tm X.K u W mb)) (hm : behindInMarks op b = false) : PE X (.Compare a [op] [b] pos) (tm X.K u W (op2M f ma mb)) := (pe_cmpR ho ha hb hm).gwk fun _ _ _ h => tm_op2 h
theorem ge_ix (ho : IxR X (r2D X.K u f)) (ha : PE X a (tm X.K u W ma)) (hb : PE X b (tm X.K u W mb)) (hs : PlainIx b) : PE X (.Subscript a b pos) (tm X.K u W (op2M f ma mb)) := (pe_ix ho ha hb hs).gwk fun _ _ _ h => tm_op2 h
theorem tm_call {m : SM (List D)} {σ : L2.St} {H : Hp} {Q : VK} (h : tm X.K u W (callM fa m) σ H Q) : tCB (rAD X.K u fa) (tmA X.K u W m) σ H Q := by
  obtain ⟨Z, as, ρ, μ, R, h⟩ := h
  refine ⟨Z, as, ρ, μ, R, h.bind.mono fun as1 H1 μ1 xs lt1 R1 h1 vs qv => ?_⟩
  obtain ⟨d, e, k⟩ := h1.opt R1
  exact ⟨Z, as1, μ1, xs, d, R1.s, qv, e, k⟩
theorem ge_callB {id : String} {x : Str} {p : Pos} {e : Expr} {es : List Expr} {m : SM (List D)} (hc : CallR X (.builtin id) (rAD X.K u fa)) (hm : X.mg x = none) (hv : bootBuiltins x = some (.builtin id)) (ha : PA X (e :: es) (tmA X.K u W m)) (hg : Gl X x := by rfl) (hn : x ≠ "__name__" := by decide) (hdb : (x == ("__debug__" : Str)) = false := by decide)
    (he : starEach (e :: es) X.env = (false, eval e X.env) :: starEach es X.env := by rfl) (hpl : (backTo pos (starEach es X.env)).any (·.1) = false := by rfl) : PE X (.Call (.Name x p) (e :: es) [] pos) (tm X.K u W (callM fa m)) :=
  (pe_callB hc hg hm hv ha hn hdb he hpl).gwk fun _ _ _ h => tm_call h
theorem ge_callTy {T : String} {x : Str} {p : Pos} {e : Expr} {es : List Expr} {m : SM (List D)} (hc : CallR X (.type T) (rAD X.K u fa)) (hm : X.mg x = none) (hv : bootBuiltins x = some (.type T)) (ha : PA X (e :: es) (tmA X.K u W m)) (hg : Gl X x := by rfl) (hn : x ≠ "__name__" := by decide) (hdb : (x == ("__debug__" : Str)) = false := by decide)
    (he : starEach (e :: es) X.env = (false, eval e X.env) :: starEach es X.env := by rfl) (hpl : (backTo pos (starEach es X.env)).any (·.1) = false := by rfl) : PE X (.Call (.Name x p) (e :: es) [] pos) (tm X.K u W (callM fa m)) :=
  (pe_callTy hc hg hm hv ha hn hdb he hpl).gwk fun _ _ _ h => tm_call h
end
end
end G

set_option Elab.async false
set_option linter.all false
set_option maxRecDepth 100000
/-! GC: tests, statements, the calls of defs. -/
namespace G
open PySem PySem.Spec
      PyProof.Rows L2

/-- a text's length within the line, cheaply -/
def few (n : Nat) : Bool := Nat.ble n 16000000
theorem few_line {n : Nat} (h : few n = true) : n ≤ sizeLine := Nat.le_trans (Nat.le_of_ble_eq_true h) (by rw [sizeLine_eq]; decide)
theorem few_lt {n : Nat} (h : few n = true) : n < sizeLine := Nat.lt_of_le_of_lt (Nat.le_of_ble_eq_true h) (by rw [sizeLine_eq]; decide)
/-- truth -/
def truD (μ : List SO) : D → Option Bool
  | .non => some false
  | .bl b => some b
  | .int i => some (i != 0)
  | .str x => if few x.length then some ((x.length : Int) != 0) else none
  | .tup xs => some (!xs.isEmpty)
  | .lst xs => some (!xs.isEmpty)
  | .dic xs => some (!xs.isEmpty)
  | .loc l => match μ[l]? with
    | some (.lst xs) => some (!xs.isEmpty)
    | some (.dic xs) => some (!xs.isEmpty)
    | _ => none
  | _ => none
section
variable {K : PySem.W.Frag} {u : U} {Z : Addr → Prop} {as : As} {μ : List SO} {H : Hp}
theorem RepVs.isEmpty {ds : List D} {xs : List V} (r : RepVs K u Z as H ds xs) : (!ds.isEmpty) = !xs.isEmpty := by cases r <;> rfl
theorem RepKs.isEmpty {ds : List (Key × D)} {xs : List (Key × V)} (r : RepKs K u Z as H ds xs) : (!ds.isEmpty) = !xs.isEmpty := by cases r <;> rfl
theorem sqT_of {p : Addr} {xs : List V} (h : (Rd H p (.tup xs) ∧ ¬ Bad Z as p) ∨ KTup K p xs) : SqT K H p xs := h.elim (fun q => .inl q.1) .inr
theorem RelS.lst (s : RelS K u Z as μ H) {l : Nat} {v : V} {ds : List D} (r : RepV K u Z as H (.loc l) v) (e : μ[l]? = some (.lst ds)) : ∃ p xs, v = .ref p ∧ as[l]? = some (some p) ∧ H p = some (.lst xs) ∧ RepVs K u Z as H ds xs := by
  cases r with
  | loc hl h =>
    obtain ⟨p, xs, e1, e2, q⟩ := s.obj l as[l] _ (by simp [hl]) e
    have e1' : as[l]? = some (some p) := by rw [← e1]; simp [hl]
    exact ⟨p, xs, h p e1', e1', e2, q⟩
theorem RelS.dic (s : RelS K u Z as μ H) {l : Nat} {v : V} {ds : List (Key × D)} (r : RepV K u Z as H (.loc l) v) (e : μ[l]? = some (.dic ds)) : ∃ p xs, v = .ref p ∧ as[l]? = some (some p) ∧ H p = some (.dK xs) ∧ RepKs K u Z as H ds xs := by
  cases r with
  | loc hl h =>
    obtain ⟨p, xs, e1, e2, q⟩ := s.obj l as[l] _ (by simp [hl]) e
    have e1' : as[l]? = some (some p) := by rw [← e1]; simp [hl]
    exact ⟨p, xs, h p e1', e1', e2, q⟩
theorem RelS.ins (s : RelS K u Z as μ H) {l : Nat} {v : V} {c : Nat} {ds : List (Str × D)} (r : RepV K u Z as H (.loc l) v) (e : μ[l]? = some (.ins c ds)) : ∃ p dx xs, v = .ref p ∧ as[l]? = some (some p) ∧ H p = some (.ins (u.ct c) dx xs) ∧ RepFs K u Z as H ds xs := by
  cases r with
  | loc hl h =>
    obtain ⟨p, dx, xs, e1, e2, q⟩ := s.obj l as[l] _ (by simp [hl]) e
    have e1' : as[l]? = some (some p) := by rw [← e1]; simp [hl]
    exact ⟨p, dx, xs, h p e1', e1', e2, q⟩
theorem truV_of (s : RelS K u Z as μ H) {d : D} {v : V} {k : Bool} (r : RepV K u Z as H d v) (e : truD μ d = some k) : TruV K v H k := by
  cases r with
  | non => simp [truD] at e; exact e
  | bl b => simp [truD] at e; exact e.symm
  | int i => simp only [truD, Option.some.injEq] at e; exact e.symm
  | str x =>
    simp only [truD] at e
    split at e
    · rename_i hf
      exact ⟨few_line hf, (Option.some.inj e).symm⟩
    · cases e
  | tup h r =>
    simp only [truD, Option.some.injEq] at e
    exact .inr (.inl ⟨_, sqT_of h, by rw [← e, r.isEmpty]⟩)
  | lst h n r =>
    simp only [truD, Option.some.injEq] at e
    exact .inl ⟨_, .inl h, by rw [← e, r.isEmpty]⟩
  | dic h n r =>
    simp only [truD, Option.some.injEq] at e
    exact .inr (.inr ⟨_, h, by rw [← e, r.isEmpty]⟩)
  | loc hl h =>
    simp only [truD] at e
    split at e
    · rename_i xs em
      obtain ⟨p, ys, rfl, _, e2, q⟩ := s.lst (.loc hl h) em
      exact .inl ⟨_, .inl (.inl e2), by rw [← Option.some.inj e, q.isEmpty]⟩
    · rename_i xs em
      obtain ⟨p, ys, rfl, _, e2, q⟩ := s.dic (.loc hl h) em
      exact .inr (.inr ⟨_, e2, by rw [← Option.some.inj e, q.isEmpty]⟩)
    · cases e
  | scr h r => cases e
  | cls c => cases e
  | ty n => cases e
  | exn h n r => cases e
end

/-! ### tests -/
def boolM (m : SE) : SM Bool := fun ρ μ => (m ρ μ).bind fun d μ1 => match d with
  | .bl b => .ok b μ1
  | _ => .no
def truM (m : SE) : SM Bool := fun ρ μ => (m ρ μ).bind fun d μ1 => optM (truD μ1 d) μ1
def andT (a b : SM Bool) : SM Bool := fun ρ μ => (a ρ μ).bind fun c μ1 => if c then b ρ μ1 else .ok false μ1
def orT (a b : SM Bool) : SM Bool := fun ρ μ => (a ρ μ).bind fun c μ1 => if c then .ok true μ1 else b ρ μ1
def notT (a : SM Bool) : SM Bool := fun ρ μ => (a ρ μ).map (!·)
def andM (a b : SE) : SE := fun ρ μ => (a ρ μ).bind fun x μ1 => match truD μ1 x with
  | some true => b ρ μ1
  | some false => .ok x μ1
  | none => .no
def orM (a b : SE) : SE := fun ρ μ => (a ρ μ).bind fun x μ1 => match truD μ1 x with
  | some true => .ok x μ1
  | some false => b ρ μ1
  | none => .no
def notM (a : SE) : SE := fun ρ μ => (a ρ μ).bind fun x μ1 => match truD μ1 x with
  | some k => .ok (.bl (!k)) μ1
  | none => .no
def ifM (c : SM Bool) (a b : SE) : SE := fun ρ μ => (c ρ μ).bind fun k μ1 => if k then a ρ μ1 else b ρ μ1
/-- a op b op' c -/
def chainM (f g : F2) (a b c : SE) : SE := fun ρ μ => (a ρ μ).bind fun x μ1 => (b ρ μ1).bind fun y μ2 => match f μ2 x y with
  | some (.bl true) => (c ρ μ2).bind fun z μ3 => optM (g μ3 y z) μ3
  | some (.bl false) => .ok (.bl false) μ2
  | _ => .no
section
variable {X : Cx} {u : U} {W : WX} {a b c : Expr} {ma mb mc : SE} {ta tb : SM Bool} {f g : F2} {pos : Pos} {rest : List Expr}
theorem tm_bool {σ : L2.St} {H : Hp} {Q : Bool → Hp → Prop} (h : tmT X.K u W (boolM ma) σ H Q) : tm X.K u W ma σ H fun x H1 => ∃ c, x = .bl c ∧ Q c H1 := by
  obtain ⟨Z, as, ρ, μ, R, h⟩ := h
  refine ⟨Z, as, ρ, μ, R, h.bind.mono fun as1 H1 μ1 d lt R1 h1 v q => ?_⟩
  cases q with
  | bl b => exact ⟨b, rfl, h1.now R1⟩
  | _ => exact h1.elim
theorem tm_tru {σ : L2.St} {H : Hp} {Q : Bool → Hp → Prop} (h : tmT X.K u W (truM ma) σ H Q) : tm X.K u W ma σ H fun x H1 => ∃ k, TruV X.K x H1 k ∧ Q k H1 := by
  obtain ⟨Z, as, ρ, μ, R, h⟩ := h
  refine ⟨Z, as, ρ, μ, R, h.bind.mono fun as1 H1 μ1 d lt R1 h1 v q => ?_⟩
  cases e : truD μ1 d with
  | none => rw [e] at h1; exact h1.elim
  | some k =>
    rw [e] at h1
    exact ⟨k, truV_of R1.s q e, Post.now (a := k) h1 R1⟩
theorem gt_cmp {op : CmpOp} (ho : OpR X (compareOp op) (r2D X.K u f)) (ha : PE X a (tm X.K u W ma)) (hb : PE X b (tm X.K u W mb)) (hm : behindInMarks op b = false) : PT X (.Compare a [op] [b] pos) (tmT X.K u W (boolM (op2M f ma mb))) :=
  (pt_cmpR ho ha hb hm).gwk fun σ H Q h => tm_op2 (tm_bool h)
theorem gt_tru (ha : PE X a (tm X.K u W ma)) (he : ∀ whole, isTrue a X.env whole = (do let v ← whole; standAt a.pos; holding [v] (truthy v)) := by intro _; rfl) : PT X a (tmT X.K u W (truM ma)) :=
  (pt_truth ha he).gwk fun σ H Q h => tm_tru h
theorem gt_bool (ha : PE X a (tm X.K u W ma)) (he : ∀ whole, isTrue a X.env whole = (do let v ← whole; standAt a.pos; holding [v] (truthy v)) := by intro _; rfl) : PT X a (tmT X.K u W (boolM ma)) :=
  (pt_val ha he).gwk fun σ H Q h => tm_bool h
theorem _root_.L2.PW.gwk {X : Cx} {e : Expr} {t t' : TT} (h : PW X e t) (w : ∀ σ H Q, t' σ H Q → t σ H Q) : PW X e t' := ⟨fun wh pins s σ H Q I hq => h.run wh pins s σ H Q I (w σ H Q hq)⟩
theorem gw_and1 (ha : PT X a (tmT X.K u W ta)) : PW X (.BoolOp .And [a] pos) (tmT X.K u W ta) := pw_and1 ha
theorem gw_or1 (ha : PT X a (tmT X.K u W ta)) : PW X (.BoolOp .Or [a] pos) (tmT X.K u W ta) := pw_or1 ha
theorem gw_and (ha : PT X a (tmT X.K u W ta)) (hb : PW X (.BoolOp .And (b :: rest) pos) (tmT X.K u W tb)) : PW X (.BoolOp .And (a :: b :: rest) pos) (tmT X.K u W (andT ta tb)) := by
  refine (pw_and ha hb).gwk fun σ H Q ⟨Z, as, ρ, μ, R, h⟩ => ⟨Z, as, ρ, μ, R, h.bind.mono fun as1 H1 μ1 c lt R1 h1 => ?_⟩
  cases c with
  | true => exact ⟨Z, as1, ρ, μ1, R1, h1⟩
  | false => exact Post.now (a := false) h1 R1
theorem gw_or (ha : PT X a (tmT X.K u W ta)) (hb : PW X (.BoolOp .Or (b :: rest) pos) (tmT X.K u W tb)) : PW X (.BoolOp .Or (a :: b :: rest) pos) (tmT X.K u W (orT ta tb)) := by
  refine (pw_or ha hb).gwk fun σ H Q ⟨Z, as, ρ, μ, R, h⟩ => ⟨Z, as, ρ, μ, R, h.bind.mono fun as1 H1 μ1 c lt R1 h1 => ?_⟩
  cases c with
  | true => exact Post.now (a := true) h1 R1
  | false => exact ⟨Z, as1, ρ, μ1, R1, h1⟩
theorem gt_not (ha : PT X a (tmT X.K u W ta)) : PT X (.UnaryOp .Not a pos) (tmT X.K u W (notT ta)) :=
  (pt_not ha).gwk fun σ H Q ⟨Z, as, ρ, μ, R, h⟩ => ⟨Z, as, ρ, μ, R, h.map⟩
theorem tm_tru2 {σ : L2.St} {H : Hp} {k : Bool → SE} {Q : VK} (h : tm X.K u W (fun ρ μ => (ma ρ μ).bind fun x μ1 => match truD μ1 x with
    | some true => k true ρ μ1
    | some false => k false ρ μ1
    | none => .no) σ H Q) : tm X.K u W ma σ H fun x H1 => ∃ c, TruV X.K x H1 c ∧ tm X.K u W (k c) σ H1 Q := by
  obtain ⟨Z, as, ρ, μ, R, h⟩ := h
  refine ⟨Z, as, ρ, μ, R, h.bind.mono fun as1 H1 μ1 d lt R1 h1 v q => ?_⟩
  cases e : truD μ1 d with
  | none => rw [e] at h1; exact h1.elim
  | some c =>
    rw [e] at h1
    refine ⟨c, truV_of R1.s q e, Z, as1, ρ, μ1, R1, ?_⟩
    cases c <;> exact h1
theorem ge_and (ha : PE X a (tm X.K u W ma)) (hb : PE X (.BoolOp .And (b :: rest) pos) (tm X.K u W mb)) : PE X (.BoolOp .And (a :: b :: rest) pos) (tm X.K u W (andM ma mb)) := by
  refine (pe_andT ha hb).gwk fun σ H Q ⟨Z, as, ρ, μ, R, h⟩ => ⟨Z, as, ρ, μ, R, h.bind.mono fun as1 H1 μ1 d lt R1 h1 v q => ?_⟩
  cases e : truD μ1 d with
  | none => rw [e] at h1; exact h1.elim
  | some c =>
    rw [e] at h1
    refine ⟨c, truV_of R1.s q e, ?_⟩
    cases c with
    | true => exact ⟨Z, as1, ρ, μ1, R1, h1⟩
    | false => exact Post.now (a := d) h1 R1 v q
theorem ge_or (ha : PE X a (tm X.K u W ma)) (hb : PE X (.BoolOp .Or (b :: rest) pos) (tm X.K u W mb)) : PE X (.BoolOp .Or (a :: b :: rest) pos) (tm X.K u W (orM ma mb)) := by
  refine (pe_orT ha hb).gwk fun σ H Q ⟨Z, as, ρ, μ, R, h⟩ => ⟨Z, as, ρ, μ, R, h.bind.mono fun as1 H1 μ1 d lt R1 h1 v q => ?_⟩
  cases e : truD μ1 d with
  | none => rw [e] at h1; exact h1.elim
  | some c =>
    rw [e] at h1
    refine ⟨c, truV_of R1.s q e, ?_⟩
    cases c with
    | false => exact ⟨Z, as1, ρ, μ1, R1, h1⟩
    | true => exact Post.now (a := d) h1 R1 v q
theorem ge_one {op} (ha : PE X a (tm X.K u W ma)) : PE X (.BoolOp op [a] pos) (tm X.K u W ma) := pe_one ha
theorem ge_not (ha : PE X a (tm X.K u W ma)) : PE X (.UnaryOp .Not a pos) (tm X.K u W (notM ma)) := by
  refine (pe_notT ha).gwk fun σ H Q ⟨Z, as, ρ, μ, R, h⟩ => ⟨Z, as, ρ, μ, R, h.bind.mono fun as1 H1 μ1 d lt R1 h1 v q => ?_⟩
  cases e : truD μ1 d with
  | none => rw [e] at h1; exact h1.elim
  | some c =>
    rw [e] at h1
    exact ⟨c, truV_of R1.s q e, Post.now (a := D.bl (!c)) h1 R1 _ (.bl _)⟩
theorem ge_if (hc : PT X c (tmT X.K u W ta)) (ha : PE X a (tm X.K u W ma)) (hb : PE X b (tm X.K u W mb)) : PE X (.IfExp c a b pos) (tm X.K u W (ifM ta ma mb)) := by
  refine (pe_ifExp hc ha hb).gwk fun σ H Q ⟨Z, as, ρ, μ, R, h⟩ => ⟨Z, as, ρ, μ, R, h.bind.mono fun as1 H1 μ1 k lt R1 h1 => ?_⟩
  cases k with
  | true => exact ⟨Z, as1, ρ, μ1, R1, h1⟩
  | false => exact ⟨Z, as1, ρ, μ1, R1, h1⟩
theorem tm_chain {σ : L2.St} {H : Hp} {Q : VK} (h : tm X.K u W (chainM f g ma mb mc) σ H Q) : tChain (r2D X.K u f) (r2D X.K u g) (tm X.K u W ma) (tm X.K u W mb) (tm X.K u W mc) σ H Q := by
  obtain ⟨Z, as, ρ, μ, R, h⟩ := h
  refine ⟨Z, as, ρ, μ, R, h.bind.mono fun as1 H1 μ1 x lt1 R1 h1 v qv => ⟨Z, as1, ρ, μ1, R1, h1.bind.mono fun as2 H2 μ2 y lt2 R2 h2 w qw => ?_⟩⟩
  cases e : f μ2 x y with
  | none => rw [e] at h2; exact h2.elim
  | some d =>
    rw [e] at h2
    refine ⟨Z, as2, μ2, x, y, d, R2.s, qv.later lt2, qw, e, fun H3 z s q => ?_⟩
    obtain ⟨R3, lt3⟩ := R2.same s
    cases q with
    | bl k =>
      refine ⟨k, rfl, ?_⟩
      cases k with
      | true =>
        refine ⟨Z, as2, ρ, μ2, R3, (Post.bind (h2.later lt3)).mono fun as4 H4 μ4 zz lt4 R4 h4 t qt => ?_⟩
        obtain ⟨d, e4, k4⟩ := h4.opt R4
        exact ⟨Z, as4, μ4, y, zz, d, R4.s, qw.later (lt3.trans lt4), qt, e4, k4⟩
      | false => exact Post.now (a := D.bl false) (h2.later lt3) R3 _ (.bl false)
    | _ => exact h2.elim
theorem ge_chain {op op' : CmpOp} (ho : OpR X (compareOp op) (r2D X.K u f)) (ho' : OpR X (compareOp op') (r2D X.K u g)) (ha : PE X a (tm X.K u W ma)) (hb : PE X b (tm X.K u W mb)) (hc : PE X c (tm X.K u W mc))
    (hm : lastMarks [op, op'] [b, c] = false := by with_unfolding_all rfl) : PE X (.Compare a [op, op'] [b, c] pos) (tm X.K u W (chainM f g ma mb mc)) := (pe_chain ho ho' ha hb hc hm).gwk fun _ _ _ h => tm_chain h
theorem gt_chain {op op' : CmpOp} (ho : OpR X (compareOp op) (r2D X.K u f)) (ho' : OpR X (compareOp op') (r2D X.K u g)) (ha : PE X a (tm X.K u W ma)) (hb : PE X b (tm X.K u W mb)) (hc : PE X c (tm X.K u W mc))
    (hm : lastMarks [op, op'] [b, c] = false := by with_unfolding_all rfl) : PT X (.Compare a [op, op'] [b, c] pos) (tmT X.K u W (boolM (chainM f g ma mb mc))) := (pt_chain ho ho' ha hb hc hm).gwk fun _ _ _ h => tm_chain (tm_bool h)
end

/-! ### statements -/
inductive Fl where
  | nx (ρ : Env) | rt (d : D) | bk (ρ : Env) | ct (ρ : Env)
inductive SR where
  | fl (f : Fl) (μ : List SO) | exc (c : Nat) (fs : List (Str × D)) (ρ : Env) (μ : List SO) | no
abbrev SS := Env → List SO → SR
def PostS (K : PySem.W.Frag) (u : U) (W : WX) (Z : Addr → Prop) (as : As) (H : Hp) (r : SR) (Dn : Ends) : Prop := match r with
  | .fl (.nx ρ') μ' => ∀ as' H' σ', Later as H as' H' → Rel K u Z as' ρ' μ' σ' H' → Dn.nx σ' H'
  | .fl (.bk ρ') μ' => ∀ as' H' σ', Later as H as' H' → Rel K u Z as' ρ' μ' σ' H' → Dn.bk σ' H'
  | .fl (.ct ρ') μ' => ∀ as' H' σ', Later as H as' H' → Rel K u Z as' ρ' μ' σ' H' → Dn.ct σ' H'
  | .fl (.rt d) μ' => ∀ as' H' v, Later as H as' H' → RelS K u Z as' μ' H' → RepV K u Z as' H' d v → Dn.rt v H'
  | .exc c fs ρ' μ' => ∀ as' H' σ' d, Later as H as' H' → Rel K u Z as' ρ' μ' σ' H' → RepX K u Z as' H' fs d → W (.ref (u.ct c)) d σ' H'
  | .no => False
def tmS (K : PySem.W.Frag) (u : U) (W : WX) (m : SS) : TS := fun Dn σ H => ∃ Z as ρ μ, Rel K u Z as ρ μ σ H ∧ PostS K u W Z as H (m ρ μ) Dn
/-- an expression, then a statement -/
def Res.sbind {α : Type} (r : Res α) (ρ : Env) (k : α → List SO → SR) : SR := match r with
  | .ok a μ => k a μ
  | .exc c fs μ => .exc c fs ρ μ
  | .no => .no
def SR.then (r : SR) (k : SS) : SR := match r with
  | .fl (.nx ρ) μ => k ρ μ
  | r => r
section
variable {X : Cx} {u : U} {W : WX} {K : PySem.W.Frag} {Z : Addr → Prop} {as as1 : As} {H H1 : Hp} {σ : L2.St} {ρ : Env} {μ : List SO} {Dn : Ends}
theorem PostS.later {r : SR} (h : PostS K u W Z as H r Dn) (lt : Later as H as1 H1) : PostS K u W Z as1 H1 r Dn := by
  cases r with
  | fl f μ' =>
    cases f with
    | nx ρ' => exact fun a b c l => h a b c (lt.trans l)
    | bk ρ' => exact fun a b c l => h a b c (lt.trans l)
    | ct ρ' => exact fun a b c l => h a b c (lt.trans l)
    | rt d => exact fun a b c l => h a b c (lt.trans l)
  | exc c fs ρ' μ' => exact fun a b c d l => h a b c d (lt.trans l)
  | no => exact h
theorem PostS.bind {α : Type} {r : Res α} {k : α → List SO → SR} (h : PostS K u W Z as H (r.sbind ρ k) Dn) : Post K u W Z ρ σ as H r (fun as1 H1 μ1 a => PostS K u W Z as1 H1 (k a μ1) Dn) := by
  cases r with
  | ok a μ' => exact fun as' H' lt rl => PostS.later (show PostS K u W Z as H (k a μ') Dn from h) lt
  | exc c fs μ' => exact fun as' H' d l rl q => h as' H' σ d l rl q
  | no => exact h
theorem PostS.then {r : SR} {k : SS} (h : PostS K u W Z as H (r.then k) Dn) : PostS K u W Z as H r { Dn with nx := tmS K u W k Dn } := by
  cases r with
  | fl f μ' =>
    cases f with
    | nx ρ' => exact fun a b c l rl => ⟨Z, a, ρ', μ', rl, PostS.later (show PostS K u W Z as H (k ρ' μ') Dn from h) l⟩
    | bk ρ' => exact h
    | ct ρ' => exact h
    | rt d => exact h
  | exc c fs ρ' μ' => exact h
  | no => exact h
theorem PostS.nx (h : PostS K u W Z as H (.fl (.nx ρ) μ) Dn) (R : Rel K u Z as ρ μ σ H) : Dn.nx σ H := h as H σ (Later.refl _ _) R
end
theorem _root_.L2.PS.gwk {X : Cx} {e : Stmt} {t t' : TS} (h : PS X e t) (w : ∀ D σ H, t' D σ H → t D σ H) : PS X e t' := ⟨fun pins s σ H D I hq => h.run pins s σ H D I (w D σ H hq)⟩
theorem _root_.L2.PSs.gwk {X : Cx} {e : List Stmt} {t t' : TS} (h : PSs X e t) (w : ∀ D σ H, t' D σ H → t D σ H) : PSs X e t' := ⟨fun pins s σ H D I hq => h.run pins s σ H D I (w D σ H hq)⟩

def nilS : SS := fun ρ μ => .fl (.nx ρ) μ
def seqS (a b : SS) : SS := fun ρ μ => (a ρ μ).then b
def dropS (m : SE) : SS := fun ρ μ => (m ρ μ).sbind ρ fun _ μ1 => .fl (.nx ρ) μ1
def setS (i : Nat) (m : SE) : SS := fun ρ μ => (m ρ μ).sbind ρ fun d μ1 => .fl (.nx (ρ.set i (some d))) μ1
def retS (m : SE) : SS := fun ρ μ => (m ρ μ).sbind ρ fun d μ1 => .fl (.rt d) μ1
def retNS : SS := fun _ μ => .fl (.rt .non) μ
def bkS : SS := fun ρ μ => .fl (.bk ρ) μ
def ctS : SS := fun ρ μ => .fl (.ct ρ) μ
def ifS (c : SM Bool) (a b : SS) : SS := fun ρ μ => (c ρ μ).sbind ρ fun k μ1 => if k then a ρ μ1 else b ρ μ1
def parS (i j : Nat) (m : SM (List D)) : SS := fun ρ μ => (m ρ μ).sbind ρ fun ds μ1 => match ds with
  | [a, b] => .fl (.nx ((ρ.set i (some a)).set j (some b))) μ1
  | _ => .no
section
variable {X : Cx} {u : U} {W : WX} {e c : Expr} {m : SE} {mt : SM Bool} {st : Stmt} {rest as' bs : List Stmt} {a b : SS} {pos : Pos} {i : Nat} {x : Str}
theorem gs_nil : PSs X [] (tmS X.K u W nilS) := pss_nil.gwk fun D σ H ⟨Z, as, ρ, μ, R, h⟩ => PostS.nx h R
theorem gs_cons (h1 : PS X st (tmS X.K u W a)) (h2 : PSs X rest (tmS X.K u W b)) : PSs X (st :: rest) (tmS X.K u W (seqS a b)) :=
  (pss_cons h1 h2).gwk fun D σ H ⟨Z, as, ρ, μ, R, h⟩ => ⟨Z, as, ρ, μ, R, h.then⟩
theorem gs_one (h1 : PS X st (tmS X.K u W a)) : PSs X [st] (tmS X.K u W a) := pss_one h1
theorem gs_pass : PS X (.Pass pos) (tmS X.K u W nilS) := ps_pass.gwk fun D σ H ⟨Z, as, ρ, μ, R, h⟩ => PostS.nx h R
theorem gs_break : PS X (.Break pos) (tmS X.K u W bkS) := ps_break.gwk fun D σ H ⟨Z, as, ρ, μ, R, h⟩ => h as H σ (Later.refl _ _) R
theorem gs_continue : PS X (.Continue pos) (tmS X.K u W ctS) := ps_continue.gwk fun D σ H ⟨Z, as, ρ, μ, R, h⟩ => h as H σ (Later.refl _ _) R
theorem gs_expr (he : PE X e (tm X.K u W m)) (hs : swapsWith e none pos.line X.env = pure false := by rfl) : PS X (.Expr e pos) (tmS X.K u W (dropS m)) :=
  (ps_expr he hs).gwk fun D σ H ⟨Z, as, ρ, μ, R, h⟩ => ⟨Z, as, ρ, μ, R, h.bind.mono fun as1 H1 μ1 d lt R1 h1 v q => h1.nx R1⟩
theorem gs_ret (he : PE X e (tm X.K u W m)) : PS X (.Return (some e) pos) (tmS X.K u W (retS m)) :=
  (ps_ret he).gwk fun D σ H ⟨Z, as, ρ, μ, R, h⟩ => ⟨Z, as, ρ, μ, R, h.bind.mono fun as1 H1 μ1 d lt R1 h1 v q => h1 as1 H1 v (Later.refl _ _) R1.s q⟩
theorem gs_retN : PS X (.Return none pos) (tmS X.K u W retNS) :=
  ps_retN.gwk fun D σ H ⟨Z, as, ρ, μ, R, h⟩ => h as H .non (Later.refl _ _) R.s .non
theorem gs_if (hc : PT X c (tmT X.K u W mt)) (ha : PSs X as' (tmS X.K u W a)) (hb : PSs X bs (tmS X.K u W b)) : PS X (.If c as' bs pos) (tmS X.K u W (ifS mt a b)) := by
  refine (ps_if hc ha hb).gwk fun D σ H ⟨Z, as, ρ, μ, R, h⟩ => ⟨Z, as, ρ, μ, R, h.bind.mono fun as1 H1 μ1 k lt R1 h1 => ?_⟩
  cases k with
  | true => exact ⟨Z, as1, ρ, μ1, R1, h1⟩
  | false => exact ⟨Z, as1, ρ, μ1, R1, h1⟩
theorem gs_set {pos' : Pos} (hN : X.N.Nodup) (he : PE X e (tm X.K u W m)) (hi : X.N[i]? = some x := by rfl) (hx : Loc X.env.scope x := by first | exact Or.inl rfl | exact Or.inr rfl) (hs : swapsWith e (some (.Name x pos')) pos.line X.env = pure false := by rfl) (hf : X.fn x = true ∨ X.env.scope.names.lookup x = some .local := by first | exact .inl rfl | exact .inr rfl | assumption) :
    PS X (.Assign [.Name x pos'] e pos) (tmS X.K u W (setS i m)) :=
  (ps_set hN hi hx he hs hf).gwk fun D σ H ⟨Z, as, ρ, μ, R, h⟩ => ⟨Z, as, ρ, μ, R, h.bind.mono fun as1 H1 μ1 d lt R1 h1 v q => h1.nx (R1.set q i)⟩
theorem gs_par {j : Nat} {y : Str} {ea eb : Expr} {ma : SM (List D)} {px py pt : Pos} {kt k2 pt2} (hc : X.calm = true) (hN : X.N.Nodup) (ha : PA X [ea, eb] (tmA X.K u W ma)) (hij : i ≠ j := by decide) (hi : X.N[i]? = some x := by rfl) (hj : X.N[j]? = some y := by rfl)
    (hx : X.env.scope.names.lookup x = some .local := by rfl) (hy : X.env.scope.names.lookup y = some .local := by rfl)
    (hw : swappedStores [.Tuple [.Name x px, .Name y py] kt pt] (.Tuple [ea, eb] k2 pt2) X.env = pure (some [x, y]) := by rfl)
    (hs : swapsWithSole [.Tuple [.Name x px, .Name y py] kt pt] (.Tuple [ea, eb] k2 pt2) pos.line X.env = pure false := by rfl) :
    PS X (.Assign [.Tuple [.Name x px, .Name y py] kt pt] (.Tuple [ea, eb] k2 pt2) pos) (tmS X.K u W (parS i j ma)) := by
  refine (ps_par hc hN hi hj hij hx hy ha hw hs).gwk fun D σ H ⟨Z, as, ρ, μ, R, h⟩ => ⟨Z, as, ρ, μ, R, h.bind.mono fun as1 H1 μ1 ds lt R1 h1 vs q => ?_⟩
  cases q with
  | nil => exact h1.elim
  | cons q1 t =>
    cases t with
    | nil => exact h1.elim
    | cons q2 t =>
      cases t with
      | nil => exact ⟨_, _, rfl, h1.nx ((R1.set q1 i).set q2 j)⟩
      | cons _ _ => exact h1.elim
end
end G

set_option Elab.async false
set_option linter.all false
set_option maxRecDepth 100000
/-! GD: what a def promises by a function of data. -/
namespace G
open PySem PySem.Spec
      PyProof.Rows L2

mutual
def noLoc : D → Bool
  | .loc _ => false
  | .tup xs => noLocs xs
  | .lst xs => noLocs xs
  | .scr xs => noLocs xs
  | .dic kvs => noLocK kvs
  | .exn _ fs => noLocF fs
  | _ => true
def noLocs : List D → Bool
  | [] => true
  | d :: ds => noLoc d && noLocs ds
def noLocK : List (Key × D) → Bool
  | [] => true
  | (_, d) :: ds => noLoc d && noLocK ds
def noLocF : List (Str × D) → Bool
  | [] => true
  | (_, d) :: ds => noLoc d && noLocF ds
end
mutual
/-- all places are below n -/
def below (n : Nat) : D → Bool
  | .loc l => Nat.blt l n
  | .tup xs => belows n xs
  | .lst xs => belows n xs
  | .scr xs => belows n xs
  | .dic kvs => belowK n kvs
  | .exn _ fs => belowF n fs
  | _ => true
def belows (n : Nat) : List D → Bool
  | [] => true
  | d :: ds => below n d && belows n ds
def belowK (n : Nat) : List (Key × D) → Bool
  | [] => true
  | (_, d) :: ds => below n d && belowK n ds
def belowF (n : Nat) : List (Str × D) → Bool
  | [] => true
  | (_, d) :: ds => below n d && belowF n ds
end
def belowO (n : Nat) : SO → Bool
  | .dead => true
  | .lst xs => belows n xs
  | .dic kvs => belowK n kvs
  | .ins _ fs => belowF n fs
section
variable {K : PySem.W.Frag} {u : U} {Z Z' : Addr → Prop} {as as' : As} {H : Hp}
mutual
/-- other places, none in the datum, nothing more that is bad -/
theorem RepV.recast (b : ∀ p, Bad Z' as' p → Bad Z as p) : ∀ {d : D} {v : V}, noLoc d = true → RepV K u Z as H d v → RepV K u Z' as' H d v
  | _, _, _, .non => .non
  | _, _, _, .bl b => .bl b
  | _, _, _, .int i => .int i
  | _, _, _, .str x => .str x
  | _, _, hn, .tup h r => .tup (h.elim (fun q => .inl ⟨q.1, fun z => q.2 (b _ z)⟩) .inr) (RepVs.recast b (by simpa [noLoc] using hn) r)
  | _, _, hn, .scr h r => .scr (h.elim (fun q => .inl ⟨q.1, fun z => q.2 (b _ z)⟩) .inr) (RepVs.recast b (by simpa [noLoc] using hn) r)
  | _, _, hn, .lst h n r => .lst h (fun z => n (b _ z)) (RepVs.recast b (by simpa [noLoc] using hn) r)
  | _, _, hn, .dic h n r => .dic h (fun z => n (b _ z)) (RepKs.recast b (by simpa [noLoc] using hn) r)
  | _, _, hn, .loc hl h => by simp [noLoc] at hn
  | _, _, _, .cls c => .cls c
  | _, _, _, .ty n => .ty n
  | _, _, hn, .exn h n r => .exn h (fun z => n (b _ z)) (RepX.recast b (by simpa [noLoc] using hn) r)
theorem RepVs.recast (b : ∀ p, Bad Z' as' p → Bad Z as p) : ∀ {d : List D} {v : List V}, noLocs d = true → RepVs K u Z as H d v → RepVs K u Z' as' H d v
  | _, _, _, .nil => .nil
  | _, _, hn, .cons h t => by
    simp only [noLocs, Bool.and_eq_true] at hn
    exact .cons (RepV.recast b hn.1 h) (RepVs.recast b hn.2 t)
theorem RepKs.recast (b : ∀ p, Bad Z' as' p → Bad Z as p) : ∀ {d : List (Key × D)} {v : List (Key × V)}, noLocK d = true → RepKs K u Z as H d v → RepKs K u Z' as' H d v
  | _, _, _, .nil => .nil
  | _, _, hn, .cons h t => by
    simp only [noLocK, Bool.and_eq_true] at hn
    exact .cons (RepV.recast b hn.1 h) (RepKs.recast b hn.2 t)
theorem RepFs.recast (b : ∀ p, Bad Z' as' p → Bad Z as p) : ∀ {d : List (Str × D)} {v : List (Str × V)}, noLocF d = true → RepFs K u Z as H d v → RepFs K u Z' as' H d v
  | _, _, _, .nil => .nil
  | _, _, hn, .cons h t => by
    simp only [noLocF, Bool.and_eq_true] at hn
    exact .cons (RepV.recast b hn.1 h) (RepFs.recast b hn.2 t)
theorem RepX.recast (b : ∀ p, Bad Z' as' p → Bad Z as p) : ∀ {d : List (Str × D)} {v : Option Addr}, noLocF d = true → RepX K u Z as H d v → RepX K u Z' as' H d v
  | _, _, _, .nil => .nil
  | _, _, hn, .dict h n r => .dict h (fun z => n (b _ z)) (RepFs.recast b hn r)
end
/-- fewer places, those of the datum among them -/
structure Fewer (as' as : As) : Prop where
  len : as'.length ≤ as.length
  at_ : ∀ l : Nat, l < as'.length → as'[l]? = as[l]?
theorem Fewer.bad {as' as : As} (f : Fewer as' as) {p : Addr} (h : Bad Z as' p) : Bad Z as p := h.elim .inl fun ⟨l, e⟩ => .inr ⟨l, by rw [← f.at_ l (List.getElem?_eq_some_iff.mp e).1]; exact e⟩
mutual
theorem RepV.fewer (f : Fewer as' as) : ∀ {d : D} {v : V}, below as'.length d = true → RepV K u Z as H d v → RepV K u Z as' H d v
  | _, _, _, .non => .non
  | _, _, _, .bl b => .bl b
  | _, _, _, .int i => .int i
  | _, _, _, .str x => .str x
  | _, _, hn, .tup h r => .tup (h.elim (fun q => .inl ⟨q.1, fun z => q.2 (f.bad z)⟩) .inr) (RepVs.fewer f (by simpa [below] using hn) r)
  | _, _, hn, .scr h r => .scr (h.elim (fun q => .inl ⟨q.1, fun z => q.2 (f.bad z)⟩) .inr) (RepVs.fewer f (by simpa [below] using hn) r)
  | _, _, hn, .lst h n r => .lst h (fun z => n (f.bad z)) (RepVs.fewer f (by simpa [below] using hn) r)
  | _, _, hn, .dic h n r => .dic h (fun z => n (f.bad z)) (RepKs.fewer f (by simpa [below] using hn) r)
  | .loc l, _, hn, .loc hl h => by
    have hl' : l < as'.length := Nat.le_of_ble_eq_true (show Nat.ble (l + 1) as'.length = true from hn)
    exact .loc hl' fun p e => h p (by rw [← f.at_ _ hl']; exact e)
  | _, _, _, .cls c => .cls c
  | _, _, _, .ty n => .ty n
  | _, _, hn, .exn h n r => .exn h (fun z => n (f.bad z)) (RepX.fewer f (by simpa [below] using hn) r)
theorem RepVs.fewer (f : Fewer as' as) : ∀ {d : List D} {v : List V}, belows as'.length d = true → RepVs K u Z as H d v → RepVs K u Z as' H d v
  | _, _, _, .nil => .nil
  | _, _, hn, .cons h t => by
    simp only [belows, Bool.and_eq_true] at hn
    exact .cons (RepV.fewer f hn.1 h) (RepVs.fewer f hn.2 t)
theorem RepKs.fewer (f : Fewer as' as) : ∀ {d : List (Key × D)} {v : List (Key × V)}, belowK as'.length d = true → RepKs K u Z as H d v → RepKs K u Z as' H d v
  | _, _, _, .nil => .nil
  | _, _, hn, .cons h t => by
    simp only [belowK, Bool.and_eq_true] at hn
    exact .cons (RepV.fewer f hn.1 h) (RepKs.fewer f hn.2 t)
theorem RepFs.fewer (f : Fewer as' as) : ∀ {d : List (Str × D)} {v : List (Str × V)}, belowF as'.length d = true → RepFs K u Z as H d v → RepFs K u Z as' H d v
  | _, _, _, .nil => .nil
  | _, _, hn, .cons h t => by
    simp only [belowF, Bool.and_eq_true] at hn
    exact .cons (RepV.fewer f hn.1 h) (RepFs.fewer f hn.2 t)
theorem RepX.fewer (f : Fewer as' as) : ∀ {d : List (Str × D)} {v : Option Addr}, belowF as'.length d = true → RepX K u Z as H d v → RepX K u Z as' H d v
  | _, _, _, .nil => .nil
  | _, _, hn, .dict h n r => .dict h (fun z => n (f.bad z)) (RepFs.fewer f hn r)
end
end

/-! ### promises -/
/-- a def at f keeps the promise sp (nothing is being shown around it) -/
structure FnG (P : Program) (w : World) (K : PySem.W.Frag) (mg : Str → Option Value) (base : Heap) (k : Nat) (f : Addr) (fd : FuncData) (ps : List Str) (sp : Sp) : Prop where
  len : ∀ vs H Q E, sp vs H
        Q E → vs.length = ps.length
  run : ∀ (A : Around) (outer : List PySem.Env) (s : Shared) (H : Hp) (args : Args) (us : List Value) (vs : List V) (Q : VK) (E : XK), Room k A → A.guards = some [] → Env0 P w K mg base A outer s H → BindsTo s fd args (ps.zip us) → Vals vs us → sp vs H Q E →
    codeAny (model P w) A (.call (.ref f) args) (CR (L2.CX P w) outer P w H s Q E) s
theorem FnG.mono {P : Program} {w : World} {K : PySem.W.Frag} {mg : Str → Option Value} {base : Heap} {j k : Nat} {f : Addr} {fd : FuncData} {ps : List Str} {sp : Sp} (F : FnG P w K mg base j f fd ps sp) (h : j ≤ k) : FnG P w K mg base k f fd ps sp :=
  ⟨F.len, fun A outer s H args us vs Q E hr => F.run A outer s H args us vs Q E (hr.mono h)⟩
theorem FnG.imp {P : Program} {w : World} {K : PySem.W.Frag} {mg : Str → Option Value} {base : Heap} {k : Nat} {f : Addr} {fd : FuncData} {ps : List Str} {sp sp' : Sp} (F : FnG P w K mg base k f fd ps sp) (h : ∀ vs H Q E, sp' vs H Q E → sp vs H Q E) : FnG P w K mg base k f fd ps sp' :=
  ⟨fun vs H Q E q => F.len vs H Q E (h _ _ _ _ q), fun A outer s H args us vs Q E hr hg he hb hv hs => F.run A outer s H args us vs Q E hr hg he hb hv (h _ _ _ _ hs)⟩

inductive PR where
  | ok (d : D) | exc (c : Nat) (fs : List (Str × D)) | no
/-- of data alone, by F -/
def SpP (K : PySem.W.Frag) (u : U) (n : Nat) (F : List D → PR) : Sp := fun vs H Q E => vs.length = n ∧ ∃ Z ds, RelS K u Z [] [] H ∧ RepVs K u Z [] H ds vs ∧ match F ds with
  | .ok d => ∀ H' v, Later [] H [] H' → LamX.Tabs u.T H' → RepV K u Z [] H' d v → Q v H'
  | .exc c fs => ∀ H' d, Later [] H [] H' → LamX.Tabs u.T H' → RepX K u Z [] H' fs d → E (.ref (u.ct c)) d H'
  | .no => False
/-- of data and the store -/
def SpS (K : PySem.W.Frag) (u : U) (n : Nat) (F : List D → List SO → Res D) : Sp := fun vs H Q E => vs.length = n ∧ ∃ Z as μ ds, RelS K u Z as μ H ∧ RepVs K u Z as H ds vs ∧ match F ds μ with
  | .ok d μ' => ∀ as' H' v, Later as H as' H' → RelS K u Z as' μ' H' → RepV K u Z as' H' d v → Q v H'
  | .exc c fs μ' => ∀ as' H' d, Later as H as' H' → RelS K u Z as' μ' H' → RepX K u Z as' H' fs d → E (.ref (u.ct c)) d H'
  | .no => False
/-- F' where it tells anything tells what F does -/
theorem SpP.wk {K : PySem.W.Frag} {u : U} {n : Nat} {F F' : List D → PR} (h : ∀ ds, F' ds ≠ .no → F ds = F' ds) {vs : List V} {H : Hp} {Q : VK} {E : XK} (s : SpP K u n F' vs H Q E) : SpP K u n F vs H Q E := by
  obtain ⟨hl, Z, ds, R, r, q⟩ := s
  refine ⟨hl, Z, ds, R, r, ?_⟩
  have e : F ds = F' ds := h ds fun z => by rw [z] at q; exact q
  rw [e]
  exact q
theorem SpS.wk {K : PySem.W.Frag} {u : U} {n : Nat} {F F' : List D → List SO → Res D} (h : ∀ ds μ, F' ds μ ≠ .no → F ds μ = F' ds μ) {vs : List V} {H : Hp} {Q : VK} {E : XK} (s : SpS K u n F' vs H Q E) : SpS K u n F vs H Q E := by
  obtain ⟨hl, Z, as, μ, ds, R, r, q⟩ := s
  refine ⟨hl, Z, as, μ, ds, R, r, ?_⟩
  have e : F ds μ = F' ds μ := h ds μ fun z => by rw [z] at q; exact q
  rw [e]
  exact q
/-- the slots at the entry: n names -/
def startD (n : Nat) (ds : List D) : Env := ds.map some ++ List.replicate (n - ds.length) none
def runP (n : Nat) (m : SS) (ds : List D) : PR := match m (startD n ds) [] with
  | .fl (.rt d) _ => if noLoc d then .ok d else .no
  | .fl (.nx _) _ => .ok .non
  | .exc c fs _ _ => if noLocF fs then .exc c fs else .no
  | _ => .no
def runS (n : Nat) (m : SS) (ds : List D) (μ : List SO) : Res D := match m (startD n ds) μ with
  | .fl (.rt d) μ' => .ok d μ'
  | .fl (.nx _) μ' => .ok .non μ'
  | .exc c fs _ μ' => .exc c fs μ'
  | _ => .no
/-- what the call itself laid is let go -/
def trim (r : Res D) (n : Nat) : Res D := match r with
  | .ok d μ' => if below n d && (μ'.take n).all (belowO n) && Nat.ble n μ'.length then .ok d (μ'.take n) else .no
  | .exc c fs μ' => if belowF n fs && (μ'.take n).all (belowO n) && Nat.ble n μ'.length then .exc c fs (μ'.take n) else .no
  | .no => .no
theorem Rel.start {K : PySem.W.Frag} {u : U} {Z : Addr → Prop} {as : As} {μ : List SO} {H : Hp} {ds : List D} {vs : List V} {N : List Str} (R : RelS K u Z as μ H) (r : RepVs K u Z as H ds vs) : Rel K u Z as (startD N.length ds) μ (L2.start N vs) H := by
  have hl := r.length
  refine ⟨R, by unfold startD L2.start; simp [hl], fun i d e => ?_⟩
  unfold startD at e
  by_cases hi : i < ds.length
  · rw [List.getElem?_append_left (by simpa using hi), List.getElem?_map] at e
    cases e1 : ds[i]? with
    | none => rw [e1] at e; cases e
    | some d' =>
      rw [e1] at e
      cases e
      obtain ⟨v, e2, q⟩ := r.get e1
      refine ⟨v, ?_, q⟩
      unfold L2.start
      rw [List.getElem?_append_left (by rw [List.length_map, ← hl]; exact hi), List.getElem?_map, e2] <;> rfl
  · rw [List.getElem?_append_right (by simpa using hi), List.getElem?_replicate] at e
    split at e <;> cases e
section
variable {P : Program} {w : World} {K : PySem.W.Frag} {mg : Str → Option Value} {base : Heap} {u : U}
/-- a def that may raise, by its body, told of the very state -/
theorem FnG.of {x qual : Str} {st : Stmt} {f : Addr} {fd : FuncData} {N ps : List Str} {k : Nat} {sp : Sp} (Fn : Fun K x qual st f fd) (S : FnScope N ps (defScope st)) (len : ∀ vs H Q E, sp vs H Q E → vs.length = ps.length)
    (hbody : ∀ (cdv : Value) (A : Around) (outer : List PySem.Env) (s : Shared) (H : Hp) (vs : List V) (Q : VK) (E : XK), Room k (A.deeper (envOfC qual (defScope st) s.heap.objs.size f cdv)) → A.guards = some [] → sp vs H Q E →
      ∃ t, PSs (cxOf (L2.CX P w) P w K mg base N qual (defScope st) f cdv A outer s H E) (defBody st) t ∧ t { nx := fun _ H' => Q .non H', rt := Q } (L2.start N vs) H) : FnG P w K mg base (k + 1) f fd ps sp := by
  obtain ⟨oc, od, kV, doc, pm, an, cdv, ct, osl, rfl, lk, hcd⟩ := Fn.ex
  refine ⟨len, fun A outer s H args us vs Q E hr hg e0 hb r hsp => ?_⟩
  exact LamX.run_ofS lk hcd S hr e0 hb r (len _ _ _ _ hsp) fun hr' => hbody cdv A outer s H vs Q E hr' hg hsp
/-- the context of a body of ours -/
theorem go_cx {N : List Str} {qual : Str} {scope : Scope} {f : Addr} {cd : Value} {A : Around} {outer : List PySem.Env} {s : Shared} {H : Hp} {E : XK} {k : Nat} (hr : Room k (A.deeper (envOfC qual scope s.heap.objs.size f cd))) (hg : A.guards = some []) (nd : N.Nodup) :
    Go (cxOf (L2.CX P w) P w K mg base N qual scope f cd A outer s H E) u (fun cls d _ H => E cls d H) k := ⟨hr, hg, rfl, nd, takes_of rfl rfl rfl rfl, passes_of rfl⟩
theorem FnG.pure {x qual : Str} {st : Stmt} {f : Addr} {fd : FuncData} {N ps : List Str} {k : Nat} {m : SS} (Fn : Fun K x qual st f fd) (S : FnScope N ps (defScope st))
    (hbody : ∀ (cdv : Value) (A : Around) (outer : List PySem.Env) (s : Shared) (H : Hp) (E : XK), Go (cxOf (L2.CX P w) P w K mg base N qual (defScope st) f cdv A outer s H E) u (fun cls d _ H => E cls d H) k →
      PSs (cxOf (L2.CX P w) P w K mg base N qual (defScope st) f cdv A outer s H E) (defBody st) (tmS K u (fun cls d _ H => E cls d H) m)) : FnG P w K mg base (k + 1) f fd ps (SpP K u ps.length (runP N.length m)) := by
  refine FnG.of Fn S (fun _ _ _ _ h => h.1) fun cdv A outer s H vs Q E hr hg ⟨hl, Z, ds, R, r, q⟩ => ⟨_, hbody cdv A outer s H E (go_cx hr hg S.nd), Z, [], _, [], Rel.start R r, ?_⟩
  unfold runP at q
  cases e : m (startD N.length ds) [] with
  | fl fl μ' =>
    rw [e] at q
    cases fl with
    | nx ρ' => exact fun as' H' σ' lt rl => q H' .non (.of fun p o h1 h2 => (lt.keep p o h1 h2 (by simp)).1) rl.s.tabs .non
    | rt d =>
      intro as' H' v lt rl qv
      dsimp only at q
      by_cases hn : noLoc d = true
      · rw [if_pos hn] at q
        exact q H' v (.of fun p o h1 h2 => (lt.keep p o h1 h2 (by simp)).1) rl.tabs (qv.recast (fun p z => z.elim .inl fun ⟨l, e⟩ => by simp at e) hn)
      · rw [if_neg hn] at q
        exact q.elim
    | bk ρ' => exact q.elim
    | ct ρ' => exact q.elim
  | exc c fs ρ' μ' =>
    rw [e] at q
    intro as' H' σ' d lt rl qx
    dsimp only at q
    by_cases hn : noLocF fs = true
    · rw [if_pos hn] at q
      exact q H' d (.of fun p o h1 h2 => (lt.keep p o h1 h2 (by simp)).1) rl.s.tabs (qx.recast (fun p z => z.elim .inl fun ⟨l, e⟩ => by simp at e) hn)
    · rw [if_neg hn] at q
      exact q.elim
  | no => rw [e] at q; exact q.elim
theorem FnG.state {x qual : Str} {st : Stmt} {f : Addr} {fd : FuncData} {N ps : List Str} {k : Nat} {m : SS} (Fn : Fun K x qual st f fd) (S : FnScope N ps (defScope st))
    (hbody : ∀ (cdv : Value) (A : Around) (outer : List PySem.Env) (s : Shared) (H : Hp) (E : XK), Go (cxOf (L2.CX P w) P w K mg base N qual (defScope st) f cdv A outer s H E) u (fun cls d _ H => E cls d H) k →
      PSs (cxOf (L2.CX P w) P w K mg base N qual (defScope st) f cdv A outer s H E) (defBody st) (tmS K u (fun cls d _ H => E cls d H) m)) : FnG P w K mg base (k + 1) f fd ps (SpS K u ps.length (runS N.length m)) := by
  refine FnG.of Fn S (fun _ _ _ _ h => h.1) fun cdv A outer s H vs Q E hr hg ⟨hl, Z, as, μ, ds, R, r, q⟩ => ⟨_, hbody cdv A outer s H E (go_cx hr hg S.nd), Z, as, _, μ, Rel.start R r, ?_⟩
  unfold runS at q
  cases e : m (startD N.length ds) μ with
  | fl fl μ' =>
    rw [e] at q
    cases fl with
    | nx ρ' => exact fun as' H' σ' lt rl => q as' H' .non lt rl.s .non
    | rt d => exact fun as' H' v lt rl qv => q as' H' v lt rl qv
    | bk ρ' => exact q.elim
    | ct ρ' => exact q.elim
  | exc c fs ρ' μ' =>
    rw [e] at q
    exact fun as' H' σ' d lt rl qx => q as' H' d lt rl.s qx
  | no => rw [e] at q; exact q.elim
theorem RelS.fewer {Z : Addr → Prop} {as as' : As} {μ μ' : List SO} {H : Hp} (R : RelS K u Z as μ H) (f : Fewer as' as) (hl : as'.length = μ'.length) (hm : μ' = μ.take μ'.length) (hb : μ'.all (belowO μ'.length) = true) : RelS K u Z as' μ' H := by
  have at_ : ∀ (l : Nat) (a : Option Addr), as'[l]? = some a → as[l]? = some a := fun l a e => by rw [← f.at_ l (List.getElem?_eq_some_iff.mp e).1]; exact e
  refine ⟨hl, fun l m p e1 e2 => R.inj l m p (at_ _ _ e1) (at_ _ _ e2), fun l a o e1 e2 => ?_, fun p hp => ⟨(R.zok p hp).1, fun l e => (R.zok p hp).2 l (at_ _ _ e)⟩, R.tabs⟩
  have hlt : l < μ'.length := (List.getElem?_eq_some_iff.mp e2).1
  have e3 : μ[l]? = some o := by
    rw [hm, List.getElem?_take_of_lt hlt] at e2
    exact e2
  have q := R.obj l a o (at_ _ _ e1) e3
  have bo : belowO μ'.length o = true := List.all_eq_true.mp hb o (List.mem_of_getElem? e2)
  rw [← hl] at bo
  cases o with
  | dead => exact q
  | lst ds => obtain ⟨p, xs, e, e', q⟩ := q; exact ⟨p, xs, e, e', q.fewer f bo⟩
  | dic ds => obtain ⟨p, xs, e, e', q⟩ := q; exact ⟨p, xs, e, e', q.fewer f bo⟩
  | ins c ds => obtain ⟨p, dx, xs, e, e', q⟩ := q; exact ⟨p, dx, xs, e, e', q.fewer f bo⟩
theorem fewer_take {as : As} {n : Nat} (h : n ≤ as.length) : Fewer (as.take n) as := ⟨by rw [List.length_take]; omega, fun l hl => by rw [List.length_take] at hl; rw [List.getElem?_take_of_lt (by omega)]⟩
theorem later_take {as as' : As} {H H' : Hp} (lt : Later as H as' H') {n : Nat} (h : as.length ≤ n) : Later as H (as'.take n) H' := by
  have at_ : ∀ (l : Nat) (a : Option Addr), (as'.take n)[l]? = some a → as'[l]? = some a := fun l a e => by
    have hl := (List.getElem?_eq_some_iff.mp e).1
    rw [List.length_take] at hl
    rw [List.getElem?_take_of_lt (by omega)] at e
    exact e
  exact ⟨by rw [List.length_take]; have := lt.len; omega, fun l p hl e => lt.old l p hl (at_ _ _ e), fun p o e1 e2 e3 => ⟨(lt.keep p o e1 e2 e3).1, fun l e => (lt.keep p o e1 e2 e3).2 l (at_ _ _ e)⟩⟩
/-- the store is as long as it was -/
theorem SpS.trim {n : Nat} {F : List D → List SO → Res D} {vs : List V} {H : Hp} {Q : VK} {E : XK} (h : SpS K u n (fun ds μ => G.trim (F ds μ) μ.length) vs H Q E) : SpS K u n F vs H Q E := by
  obtain ⟨hl, Z, as, μ, ds, R, r, q⟩ := h
  refine ⟨hl, Z, as, μ, ds, R, r, ?_⟩
  dsimp only at q
  cases e : F ds μ with
  | ok d μ' =>
    rw [e] at q
    unfold G.trim at q
    intro as' H' v lt rl qv
    by_cases hc : (below μ.length d && (μ'.take μ.length).all (belowO μ.length) && Nat.ble μ.length μ'.length) = true
    · dsimp only at q
      rw [if_pos hc] at q
      simp only
            [Bool.and_eq_true] at hc
      obtain ⟨⟨c1, c2⟩, c3⟩ := hc
      have c3 : μ.length ≤ μ'.length := Nat.le_of_ble_eq_true c3
      have hln : (as'.take μ.length).length = μ.length := by rw [List.length_take, rl.len]; omega
      have hlm : (μ'.take μ.length).length = μ.length := by rw [List.length_take]; omega
      have fw := fewer_take (as := as') (n := μ.length) (by rw [rl.len]; exact c3)
      refine q (as'.take μ.length) H' v (later_take lt (by rw [R.len]; exact Nat.le_refl _)) (rl.fewer fw (by rw [hln, hlm]) (by rw [hlm]) (by rw [hlm]; exact c2)) (qv.fewer fw (by rw [hln]; exact c1))
    · dsimp only at q
      rw [if_neg hc] at q
      exact q.elim
  | exc c fs μ' =>
    rw [e] at q
    unfold G.trim at q
    intro as' H' v lt rl qv
    by_cases hc : (belowF μ.length fs && (μ'.take μ.length).all (belowO μ.length) && Nat.ble μ.length μ'.length) = true
    · dsimp only at q
      rw [if_pos hc] at q
      simp only
            [Bool.and_eq_true] at hc
      obtain ⟨⟨c1, c2⟩, c3⟩ := hc
      have c3 : μ.length ≤ μ'.length := Nat.le_of_ble_eq_true c3
      have hln : (as'.take μ.length).length = μ.length := by rw [List.length_take, rl.len]; omega
      have hlm : (μ'.take μ.length).length = μ.length := by rw [List.length_take]; omega
      have fw := fewer_take (as := as') (n := μ.length) (by rw [rl.len]; exact c3)
      refine q (as'.take μ.length) H' v (later_take lt (by rw [R.len]; exact Nat.le_refl _)) (rl.fewer fw (by rw [hln, hlm]) (by rw [hlm]) (by rw [hlm]; exact c2)) (qv.fewer fw (by rw [hln]; exact c1))
    · dsimp only at q
      rw [if_neg hc] at q
      exact q.elim
  | no => rw [e] at q; exact q.elim
end

/-! ### calls -/
def callPM (F : List D → PR) (m : SM (List D)) : SE := fun ρ μ => (m ρ μ).bind fun ds μ1 => if noLocs ds then (match F ds with
  | .ok d => if noLoc d then .ok d μ1 else .no
  | .exc c fs => if noLocF fs then .exc c fs μ1 else .no
  | .no => .no) else .no
def callSM (F : List D → List SO → Res D) (m : SM (List D)) : SE := fun ρ μ => (m ρ μ).bind fun ds μ1 => F ds μ1
section
variable {X : Cx} {u : U} {W : WX} {j k : Nat} {f : Addr} {fd : FuncData} {ps : List Str} {sp : Sp} {x : Str} {p pos : Pos} {e : Expr} {es : List Expr} {t : TA}
theorem run_fnG {pins : List (Addr × Obj)} {σ : L2.St} {H : Hp} {s : Shared} {Q : VK} {us : List Value} {vs : List V} (F : FnG X.prog X.w X.K X.mg X.base j f fd ps sp) (g : Go X u W k) (hj : j ≤ k) (hb : Binds X.K fd ps [])
    (I : Inv X pins σ H s) (r : Vals vs us) (h : sp vs H Q (WE W σ)) : wpAny (model X.prog X.w) X.A (call (.ref f) us) (EP X pins σ Q) X.xe s := by
  have hl : us.length = ps.length :=
        by rw [← r.length]; exact F.len _ _ _ _ h
  have b := hb s us I.kIn
        (by rw [List.append_nil]; exact hl)
  rw [List.append_nil] at b
  refine wpAny_call (codeAny_mono (F.run X.A X.stack s H ⟨us, []⟩ us vs Q (WE W σ) (g.room.mono hj) g.guards I.env0 b r h) fun r s' hq => ?_)
  cases r with
  | error e => exact passAt g.takes σ pins H s e s' I hq
  | ok fl =>
    cases fl with
    | ret u => exact I.after hq
    | next => exact False.elim hq
    | brk => exact False.elim hq
    | cont => exact False.elim hq
def tCallG (sp : Sp) (W : WX) (t : TA) : TE := fun σ H Q => t σ H fun vs H1 => sp vs H1 Q (WE W σ)
theorem pe_callG (F : FnG X.prog X.w X.K X.mg X.base j f fd ps sp) (g : Go X u W k) (hj : j ≤ k) (hg : Gl X x) (hm : X.mg x = some (.ref f)) (hk : PySem.W.keepIn X.K (.ref f) = true) (hb : Binds X.K fd ps [])
    (ha : PA X (e :: es) t) (hdb : (x == ("__debug__" : Str)) = false :=
          by decide) (he : starEach (e :: es) X.env = (false, eval e X.env) :: starEach es X.env := by rfl) (hpl : (backTo pos (starEach es X.env)).any (·.1) = false := by rfl) :
    PE X (.Call (.Name x p) (e :: es) [] pos) (tCallG sp W t) := by
  refine ⟨fun pins
        s σ H Q I h => ?_⟩
  refine wpAny_Call_Name_kw
        (ld_glob I hg hm ?_ hdb)
  refine PySem.W.callWith_K (h₀ := X.base) I.ok.mod.kin hk (thn (ha.run pos
        pins s σ H _ I h) fun us s1 ⟨vs, H1, I1, r, q⟩ => ⟨I1.kIn, ?_⟩) he hpl
  exact run_fnG F g hj hb I1 r q
theorem pe_callG0 (F : FnG X.prog X.w X.K X.mg X.base j f fd ps sp) (g : Go X u W k) (hj : j ≤ k) (hg : Gl X x) (hm : X.mg x = some (.ref f)) (hk : PySem.W.keepIn X.K (.ref f) = true) (hb : Binds X.K fd ps [])
    (hdb : (x == ("__debug__" : Str)) = false := by decide) : PE X (.Call (.Name x p) [] [] pos) (tCallG sp W tNil) := by
  refine ⟨fun pins
        s σ H Q I h => ?_⟩
  refine wpAny_Call_Name_kw
        (ld_glob I hg hm ?_ hdb)
  exact PySem.W.callWith_K0 I.kIn hk (run_fnG (us := []) F g hj hb I .nil h)
/-- a pure def's promise, for a caller with places of its own -/
theorem spP_call {F : List D → PR} {Z : Addr → Prop} {ρ : Env} {σ : L2.St} {as : As} {μ : List SO} {H : Hp} {ds : List D} {vs : List V} {Q : VK} {n : Nat} (R : Rel X.K u Z as ρ μ σ H) (q : RepVs X.K u Z as H ds vs) (hn : vs.length = n)
    (h : Post X.K u W Z ρ σ as H (if noLocs ds then (match F ds with
      | .ok d => if noLoc d then .ok d μ else .no
      | .exc c fs => if noLocF fs then .exc c fs μ else .no
      | .no => .no) else .no) (PV X.K u Z Q)) : SpP X.K u n F vs H Q (WE W σ) := by
  split at h
  · rename_i hd
    have hb : ∀ p, Bad (Bad Z as) [] p → Bad Z as p := fun p z => z.elim id fun ⟨l, e⟩ => by simp at e
    have hb' : ∀ p, Bad Z as p → Bad (Bad Z as) [] p := fun p z => .inl z
    refine ⟨hn, Bad Z as, ds, ⟨rfl, fun l m p e => by simp at e, fun l a o e => by simp at e, fun p hp => ⟨R.s.tracked hp, fun l e => by simp at e⟩, R.s.tabs⟩, q.recast hb hd, ?_⟩
    cases e : F ds with
    | ok d =>
      rw [e] at h
      dsimp only at h
      split at h
      · rename_i hnd
        intro H' v lt tb qv
        have st : ∀ p o, H p = some o → (∀ ps, o ≠ .tbl ps) → H' p = some o := fun p o e1 e2 => (lt.keep p o e1 e2 (by simp)).1
        exact h as H' (.of st) (R.still st tb) v (qv.recast hb' hnd)
      · exact h.elim
    | exc c fs =>
      rw [e] at h
      dsimp only at h
      split at h
      · rename_i hnd
        intro H' d lt tb qv
        have st : ∀ p o, H p = some o → (∀ ps, o ≠ .tbl ps) → H' p = some o := fun p o e1 e2 => (lt.keep p o e1 e2 (by simp)).1
        exact h as H' d (.of st) (R.still st tb) (qv.recast hb' hnd)
      · exact h.elim
    | no => rw [e] at h; exact h.elim
  · exact h.elim
theorem spS_call {F : List D → List SO → Res D} {Z : Addr → Prop} {ρ : Env} {σ : L2.St} {as : As} {μ : List SO} {H : Hp} {ds : List D} {vs : List V} {Q : VK} {n : Nat} (R : Rel X.K u Z as ρ μ σ H) (q : RepVs X.K u Z as H ds vs) (hn : vs.length = n)
    (h : Post X.K u W Z ρ σ as H (F ds μ) (PV X.K u Z Q)) : SpS X.K u n F vs H Q (WE W σ) := by
  refine ⟨hn, Z, as, μ, ds, R.s, q, ?_⟩
  cases e : F ds μ with
  | ok d μ' =>
    rw [e] at h
    exact fun as' H' v lt rl qv => h as' H' lt (R.mono lt rl) v qv
  | exc c fs μ' =>
    rw [e] at h
    exact fun as' H' d lt rl qx => h as' H' d lt (R.mono lt rl) qx
  | no => rw [e] at h; exact h.elim
variable {m : SM (List D)} {n : Nat}
/-- as many arguments -/
def argN (n : Nat) (m : SM (List D)) : SM (List D) := fun ρ μ => (m ρ μ).bind fun ds μ1 => if ds.length = n then .ok ds μ1 else .no
theorem ge_callP {F : List D → PR} (Fn : FnG X.prog X.w X.K X.mg X.base j f fd ps (SpP X.K u n F)) (g : Go X u W k) (hj : j ≤ k) (hm : X.mg x = some (.ref f)) (hk : PySem.W.keepIn X.K (.ref f) = true) (hb : Binds X.K fd ps [])
    (ha : PA X (e :: es) (tmA X.K u W m)) (hg : Gl X x := by rfl) (hdb : (x == ("__debug__" : Str)) = false := by decide) (he : starEach (e :: es) X.env = (false, eval e X.env) :: starEach es X.env := by rfl) (hpl : (backTo pos (starEach es X.env)).any (·.1) = false := by rfl) :
    PE X (.Call (.Name x p) (e :: es) [] pos) (tm X.K u W (callPM F (argN n m))) := by
  refine (pe_callG Fn g hj hg hm hk hb ha hdb he hpl).gwk fun σ H Q ⟨Z, as, ρ, μ, R, h⟩ => ⟨Z, as, ρ, μ, R, h.bind.bind.mono fun as1 H1 μ1 ds lt R1 h1 vs q => ?_⟩
  split at h1
  · rename_i hl
    exact spP_call R1 q (by rw [← q.length]; exact hl) (Post.now (a := ds) h1 R1)
  · exact h1.elim
theorem ge_callS {F : List D → List SO → Res D} (Fn : FnG X.prog X.w X.K X.mg X.base j f fd ps (SpS X.K u n F)) (g : Go X u W k) (hj : j ≤ k) (hm : X.mg x = some (.ref f)) (hk : PySem.W.keepIn X.K (.ref f) = true) (hb : Binds X.K fd ps [])
    (ha : PA X (e :: es) (tmA X.K u W m)) (hg : Gl X x := by rfl) (hdb : (x == ("__debug__" : Str)) = false := by decide) (he : starEach (e :: es) X.env = (false, eval e X.env) :: starEach es X.env := by rfl) (hpl : (backTo pos (starEach es X.env)).any (·.1) = false := by rfl) :
    PE X (.Call (.Name x p) (e :: es) [] pos) (tm X.K u W (callSM F (argN n m))) := by
  refine (pe_callG Fn g hj hg hm hk hb ha hdb he hpl).gwk fun σ H Q ⟨Z, as, ρ, μ, R, h⟩ => ⟨Z, as, ρ, μ, R, h.bind.bind.mono fun as1 H1 μ1 ds lt R1 h1 vs q => ?_⟩
  split at h1
  · rename_i hl
    exact spS_call R1 q (by rw [← q.length]; exact hl) (Post.now (a := ds) h1 R1)
  · exact h1.elim
end
end G

set_option Elab.async false
set_option linter.all false
set_option maxRecDepth 100000
/-! GE: what is walked; targets; for; comprehensions. -/
namespace G
open PySem PySem.Spec
      PyProof.Rows L2

/-! ### walks -/
/-- what is later, but for the bad addresses -/
structure LaterB (Z : Addr → Prop) (as : As) (H : Hp) (as' : As) (H' : Hp) : Prop where
  len : as.length ≤ as'.length
  old : ∀ (l : Nat) (p : Addr), l < as.length → as'[l]? = some (some p) → as[l]? = some (some p)
  keep : ∀ (p : Addr) (o : HO), H p = some o → (∀ ps, o ≠ .tbl ps) → ¬ Bad Z as p → H' p = some o ∧ ¬ Bad Z as' p
theorem Later.b {Z : Addr → Prop} {as as' : As} {H H' : Hp} (lt : Later as H as' H') : LaterB Z as H as' H' := ⟨lt.len, lt.old, fun p o e n m => lt.bad e n m⟩
theorem LaterB.trans {Z : Addr → Prop} {as as1 as2 : As} {H H1 H2 : Hp} (a : LaterB Z as H as1 H1) (b : LaterB Z as1 H1 as2 H2) : LaterB Z as H as2 H2 where
  len := Nat.le_trans a.len b.len
  old := fun l p hl e => a.old l p hl (b.old l p (Nat.lt_of_lt_of_le hl a.len) e)
  keep := fun p o e n m => let ⟨e1, m1⟩ := a.keep p o e n m; b.keep p o e1 n m1
theorem LaterB.upd {Z : Addr → Prop} {as as' : As} {H H' : Hp} (lt : LaterB Z as H as' H') {p : Addr} {o : HO} (b : Bad Z as p) : LaterB Z as H as' (L2.upd H' p o) :=
  ⟨lt.len, lt.old, fun q x e n m => let ⟨h1, h2⟩ := lt.keep q x e n m; ⟨by rw [upd_ne (fun z => m (by rw [z]; exact b))]; exact h1, h2⟩⟩
theorem LaterB.rd {Z : Addr → Prop} {as as' : As} {H H' : Hp} (a : LaterB Z as H as' H') {p : Addr} {o : HO} (e : Rd H p o) (ht : ∀ ps, o ≠ .tbl ps) (n : ¬ Bad Z as p) : Rd H' p o ∧ ¬ Bad Z as' p := by
  rcases e with e | ⟨ob, e⟩
  · obtain ⟨h1, h2⟩ := a.keep p o e ht n
    exact ⟨.inl h1, h2⟩
  · obtain ⟨h1, h2⟩ := a.keep p _ e (fun _ z => by cases z) n
    exact ⟨.inr ⟨ob, h1⟩, h2⟩
section
variable {K : PySem.W.Frag} {u : U} {Z : Addr → Prop} {as as' : As} {H H' : Hp}
mutual
theorem RepV.laterB (lt : LaterB Z as H as' H') : ∀ {d : D} {v : V}, RepV K u Z as H d v → RepV K u Z as' H' d v
  | _, _, .non => .non
  | _, _, .bl b => .bl b
  | _, _, .int i => .int i
  | _, _, .str x => .str x
  | _, _, .tup h r => h.elim (fun q => .tup (.inl (lt.rd q.1 (fun _ z => by cases z) q.2)) (RepVs.laterB lt r)) fun q => .tup (.inr q) (RepVs.laterB lt r)
  | _, _, .scr h r => h.elim (fun q => .scr (.inl (lt.rd q.1 (fun _ z => by cases z) q.2)) (RepVs.laterB lt r)) fun q => .scr (.inr q) (RepVs.laterB lt r)
  | _, _, .lst h n r => let q := lt.rd h (fun _ z => by cases z) n; .lst q.1 q.2 (RepVs.laterB lt r)
  | _, _, .dic h n r => let q := lt.keep _ _ h (fun _ z => by cases z) n; .dic q.1 q.2 (RepKs.laterB lt r)
  | _, _, .loc hl h => .loc (Nat.lt_of_lt_of_le hl lt.len) fun p e => h p (lt.old _ p hl e)
  | _, _, .cls c => .cls c
  | _, _, .ty n => .ty n
  | _, _, .exn h n r => let q := lt.keep _ _ h (fun _ z => by unfold ExF at z; cases z) n; .exn q.1 q.2 (RepX.laterB lt r)
theorem RepVs.laterB (lt : LaterB Z as H as' H') : ∀ {ds : List D} {vs : List V}, RepVs K u Z as H ds vs → RepVs K u Z as' H' ds vs
  | _, _, .nil => .nil
  | _, _, .cons h t => .cons (RepV.laterB lt h) (RepVs.laterB lt t)
theorem RepKs.laterB (lt : LaterB Z as H as' H') : ∀ {ds : List (Key × D)} {vs : List (Key × V)}, RepKs K u Z as H ds vs → RepKs K u Z as' H' ds vs
  | _, _, .nil => .nil
  | _, _, .cons h t => .cons (RepV.laterB lt h) (RepKs.laterB lt t)
theorem RepFs.laterB (lt : LaterB Z as H as' H') : ∀ {ds : List (Str × D)} {vs : List (Str × V)}, RepFs K u Z as H ds vs → RepFs K u Z as' H' ds vs
  | _, _, .nil => .nil
  | _, _, .cons h t => .cons (RepV.laterB lt h) (RepFs.laterB lt t)
theorem RepX.laterB (lt : LaterB Z as H as' H') : ∀ {fs : List (Str × D)} {d : Option Addr}, RepX K u Z as H fs d → RepX K u Z as' H' fs d
  | _, _, .nil => .nil
  | _, _, .dict h n r => let q := lt.keep _ _ h (fun _ z => by cases z) n; .dict q.1 q.2 (RepFs.laterB lt r)
end
end
/-- J gives the data ds, one by one, as long as what cannot change stands -/
def IOk (K : PySem.W.Frag) (u : U) (Z : Addr → Prop) (as : As) (H : Hp) (J : It) (ds : List D) : Prop :=
  ∃ (Gd : Hp → Prop) (Y : Nat → Hp → V → Hp → Prop), Walk J ds.length Gd Y ∧ (∀ (Z' : Addr → Prop) as' H', (∀ p, Z' p → Z p ∨ H p = none) → LaterB Z' as H as' H' → Gd H') ∧
    ∀ (i : Nat) (d : D) (Z' : Addr → Prop) (as' : As) (μ' : List SO) (Hc : Hp) (x : V) (H' : Hp), ds[i]? = some d → LaterB Z' as H as' Hc → (∀ p, Z' p → Z p ∨ H p = none) → RelS K u Z' as' μ' Hc → Y i Hc x H' → Same Hc H' ∧ RepV K u Z' as' H' d x
def tmI (K : PySem.W.Frag) (u : U) (W : WX) (m : SM (List D)) : TI := fun σ H R => ∃ Z as ρ μ, Rel K u Z as ρ μ σ H ∧ Post K u W Z ρ σ as H (m ρ μ) fun as' H' _ ds => ∀ J, IOk K u Z as' H' J ds → R J H'

section
variable {K : PySem.W.Frag} {u : U} {Z Z' : Addr → Prop} {as as' : As} {H : Hp}
/-- other bad addresses: new ones -/
theorem newZ {p : Addr} {o : HO} (hz : ∀ p, Z' p → Z p ∨ H p = none) (e : H p = some o) (n : ¬ Bad Z as p) : ¬ Bad Z' as p := by
  rintro (z | z)
  · rcases hz p z with z | z
    · exact n (.inl z)
    · rw [z] at e; cases e
  · exact n (.inr z)
theorem newZr {p : Addr} {o : HO} (hz : ∀ p, Z' p → Z p ∨ H p = none) (e : Rd H p o) (n : ¬ Bad Z as p) : ¬ Bad Z' as p := e.elim (fun e => newZ hz e n) fun ⟨_, e⟩ => newZ hz e n
mutual
theorem RepV.newZ (hz : ∀ p, Z' p → Z p ∨ H p = none) : ∀ {d : D} {v : V}, RepV K u Z as H d v → RepV K u Z' as H d v
  | _, _, .non => .non
  | _, _, .bl b => .bl b
  | _, _, .int i => .int i
  | _, _, .str x => .str x
  | _, _, .tup h r => .tup (h.elim (fun q => .inl ⟨q.1, newZr hz q.1 q.2⟩) .inr) (RepVs.newZ hz r)
  | _, _, .scr h r => .scr (h.elim (fun q => .inl ⟨q.1, newZr hz q.1 q.2⟩) .inr) (RepVs.newZ hz r)
  | _, _, .lst h n r => .lst h (newZr hz h n) (RepVs.newZ hz r)
  | _, _, .dic h n r => .dic h (G.newZ hz h n) (RepKs.newZ hz r)
  | _, _, .loc hl h => .loc hl h
  | _, _, .cls c => .cls c
  | _, _, .ty n => .ty n
  | _, _, .exn h n r => .exn h (G.newZ hz h n) (RepX.newZ hz r)
theorem RepVs.newZ (hz : ∀ p, Z' p → Z p ∨ H p = none) : ∀ {d : List D} {v : List V}, RepVs K u Z as H d v → RepVs K u Z' as H d v
  | _, _, .nil => .nil
  | _, _, .cons h t => .cons (RepV.newZ hz h) (RepVs.newZ hz t)
theorem RepKs.newZ (hz : ∀ p, Z' p → Z p ∨ H p = none) : ∀ {d : List (Key × D)} {v : List (Key × V)}, RepKs K u Z as H d v → RepKs K u Z' as H d v
  | _, _, .nil => .nil
  | _, _, .cons h t => .cons (RepV.newZ hz h) (RepKs.newZ hz t)
theorem RepFs.newZ (hz : ∀ p, Z' p → Z p ∨ H p = none) : ∀ {d : List (Str × D)} {v : List (Str × V)}, RepFs K u Z as H d v → RepFs K u Z' as H d v
  | _, _, .nil => .nil
  | _, _, .cons h t => .cons (RepV.newZ hz h) (RepFs.newZ hz t)
theorem RepX.newZ (hz : ∀ p, Z' p → Z p ∨ H p = none) : ∀ {d : List (Str × D)} {v : Option Addr}, RepX K u Z as H d v → RepX K u Z' as H d v
  | _, _, .nil => .nil
  | _, _, .dict h n r => .dict h (G.newZ hz h n) (RepFs.newZ hz r)
end
theorem iok_list {a : Addr} {xs : List V} {ds : List D} (h : Rd H a (.lst xs)) (n : ¬ Bad Z as a) (r : RepVs K u Z as H ds xs) : IOk K u Z as H (Itl K a) ds := by
  refine ⟨fun H => SqL K H a xs, YAt xs, by rw [r.length]; exact walk_list, fun Z' as' H' hz lt => .inl (lt.rd h (fun _ z => by cases z) (newZr hz h n)).1, fun i d Z' as' μ' Hc x H' hi lt hz R y => ?_⟩
  obtain ⟨e, y⟩ := y
  subst e
  obtain ⟨v, e, q⟩ := (r.newZ hz).get hi
  rw [e] at y
  cases y
  exact ⟨fun _ _ e => e, q.laterB lt⟩
theorem iok_tup {a : Addr} {xs : List V} {ds : List D} (h : (Rd H a (.tup xs) ∧ ¬ Bad Z as a) ∨ KTup K a xs) (r : RepVs K u Z as H ds xs) : IOk K u Z as H (Itt K a) ds := by
  refine ⟨fun H => SqT K H a xs, YAt xs, by rw [r.length]; exact walk_tup, fun Z' as' H' hz lt => ?_, fun i d Z' as' μ' Hc x H' hi lt hz R y => ?_⟩
  · rcases h with ⟨h, n⟩ | h
    · exact .inl (lt.rd h (fun _ z => by cases z) (newZr hz h n)).1
    · exact .inr h
  · obtain ⟨e, y⟩ := y
    subst e
    obtain ⟨v, e, q⟩ := (r.newZ hz).get hi
    rw [e] at y
    cases y
    exact ⟨fun _ _ e => e, q.laterB lt⟩
def signs (x : Str) : List D := x.cps.toList.map fun c => .str ⟨#[c]⟩
theorem iok_str {z : Str} : IOk K u Z as H (Its z) (signs z) := by
  refine ⟨fun _ => True, fun i H v H' => H' = H ∧ ∃ c, z.cps[i]? = some c ∧ v = .str ⟨#[c]⟩, by unfold signs; rw [List.length_map, Array.length_toList]; exact walk_str, fun _ _ _ _ _ => trivial, fun i d Z' as' μ' Hc x H' hi lt hz R y => ?_⟩
  obtain ⟨e, c, hc, ex⟩ := y
  subst e ex
  unfold signs at hi
  rw [List.getElem?_map] at hi
  have : z.cps.toList[i]? = some c := by rw [Array.getElem?_toList]; exact hc
  rw [this] at hi
  cases hi
  exact ⟨fun _ _ e => e, .str _⟩
def rangeD (lo : Int) (n : Nat) : List D := (List.range n).map fun (i : Nat) => D.int (lo + (i : Int))
theorem iok_range {lo : Int} {n : Nat} : IOk K u Z as H (Itr lo n) (rangeD lo n) := by
  refine ⟨fun _ => True, YFn fun i => .int (lo + i), by unfold rangeD; rw [List.length_map, List.length_range]; exact walk_range, fun _ _ _ _ _ => trivial, fun i d Z' as' μ' Hc x H' hi lt hz R y => ?_⟩
  obtain ⟨e, ex⟩ := y
  subst e ex
  unfold rangeD at hi
  rw [List.getElem?_map] at hi
  cases h : (List.range n)[i]? with
  | none => rw [h] at hi; cases hi
  | some j =>
    rw [h] at hi
    cases hi
    have : j = i := by
      obtain ⟨h1, h2⟩ := List.getElem?_eq_some_iff.mp h
      rw [List.getElem_range] at h2
      exact h2.symm
    subst this
    exact ⟨fun _ _ e => e, .int _⟩
end

/-- the items of a datum -/
def itemsD : D → Option (List D)
  | .tup xs => some xs
  | .lst xs => some xs
  | .str x => some (signs x)
  | _ => none
def seqM (m : SE) : SM (List D) := fun ρ μ => (m ρ μ).bind fun d μ1 => optM (itemsD d) μ1
def rangeM1 (m : SM (List D)) : SM (List D) := fun ρ μ => (m ρ μ).bind fun ds μ1 => match ds with
  | [.int j] => if j < 4000000000000000000 ∧ -4000000000000000000 < j then .ok (rangeD 0 j.toNat) μ1 else .no
  | _ => .no
def rangeM2 (m : SM (List D)) : SM (List D) := fun ρ μ => (m ρ μ).bind fun ds μ1 => match ds with
  | [.int i, .int j] => if (j < 4000000000000000000 ∧ -4000000000000000000 < j) ∧ i < 4000000000000000000 ∧ -4000000000000000000 < i then .ok (rangeD i (j - i).toNat) μ1 else .no
  | _ => .no
section
variable {X : Cx} {u : U} {W : WX} {tg e : Expr} {m : SE} {ma : SM (List D)}
theorem iter_list_ok {pins : List (Addr × Obj)} {s1 : Shared} {σ : L2.St} {H1 : Hp} {R : It → Hp → Prop} {a : Addr} {xs : List V} (I1 : Inv X pins σ H1 s1) (hq : SqL X.K H1 a xs) (q : R (Itl X.K a) H1) : wpAny (model X.prog X.w) X.A (pyIter (.ref a)) (PIE X pins σ tg R) X.xe s1 := by
  obtain ⟨its, rv, p,
        hz⟩ := I1.list hq
  refine wpAny_pyIter_list
        p.isList ?_
  refine ⟨s1.heap.objs.size, [s1.heap.objs.size], _, _, H1, rfl, I1.kept (t' := s1.toks) fun b o e =>
        Heap.get?_push_of_some _ e, turn_list a _, ⟨_, Heap.get?_push_size _ rfl, rfl, rfl⟩, fun b hb => ?_, q⟩
  obtain rfl : b = s1.heap.objs.size := by simpa using hb
  exact I1.fpOk (Nat.le_refl _)
        (I1.hok.fresh (Nat.le_refl _))
theorem iter_tup_ok {pins : List (Addr × Obj)} {s1 : Shared} {σ : L2.St} {H1 : Hp} {R : It → Hp → Prop} {a : Addr} {xs : List V} (I1 : Inv X pins σ H1 s1) (hq : SqT X.K H1 a xs) (q : R (Itt X.K a) H1) : wpAny (model X.prog X.w) X.A (pyIter (.ref a)) (PIE X pins σ tg R) X.xe s1 := by
  obtain ⟨its, rv, p,
        hz⟩ := I1.tuple hq
  refine wpAny_pyIter_tuple (show
        s1.heap.IsTuple a its.toArray from p) ?_
  refine ⟨s1.heap.objs.size, [s1.heap.objs.size], _, _, H1, rfl, I1.kept (t' := s1.toks) fun b o e =>
        Heap.get?_push_of_some _ e, turn_tuple a _, ⟨_, Heap.get?_push_size _ rfl, rfl, rfl⟩, fun b hb => ?_, q⟩
  obtain rfl : b = s1.heap.objs.size := by simpa using hb
  exact I1.fpOk (Nat.le_refl _)
        (I1.hok.fresh (Nat.le_refl _))
theorem iter_str_ok {pins : List (Addr × Obj)} {s1 : Shared} {σ : L2.St} {H1 : Hp} {R : It → Hp → Prop} {x : Str} {t : Tok} (I1 : Inv X pins σ H1 s1) (q : R (Its x) H1) : wpAny (model X.prog X.w) X.A (pyIter (.str x t)) (PIE X pins σ tg R) X.xe s1 := by
  cases ha :
        x.cps.all (· < 128)
  · exact wpAny_pyIter_wide ha (pi_one (tk := s1.toks) I1 _ (turn_str _ x
        t "str_iterator" (.inr rfl)) ⟨_, Heap.get?_push_size _ rfl, rfl, rfl⟩ q)
  · exact wpAny_pyIter_ascii ha (pi_one (tk := s1.toks) I1 _ (turn_str _ x t
        "str_ascii_iterator" (.inl rfl)) ⟨_, Heap.get?_push_size _ rfl, rfl, rfl⟩ q)
/-- a tuple, a list that stands, a text -/
theorem gi_seq (he : PE X e (tm X.K u W m)) : PI X tg e (tmI X.K u W (seqM m)) := by
  refine ⟨fun pins s σ H R I ⟨Z, as, ρ, μ, Rl, h⟩ => ?_⟩
  refine thn (he.run pins s σ H (fun v H1 => ∃ as1 μ1 d, Rel X.K u Z as1 ρ μ1 σ H1 ∧ RepV X.K u Z as1 H1 d v ∧ Post X.K u W Z ρ σ as1 H1 (optM (itemsD d) μ1) fun as' H' _ ds => ∀ J, IOk X.K u Z as' H' J ds → R J H') I
    ⟨Z, as, ρ, μ, Rl, h.bind.mono fun as1 H1 μ1 d lt R1 h1 v q => ⟨as1, μ1, d, R1, q, h1⟩⟩) fun v s1 ⟨x, H1, I1, r1, as1, μ1, d, R1, q, h1⟩ => ?_
  cases q with
  | tup h r =>
    cases r1
    exact iter_tup_ok I1 (sqT_of h) (Post.now (a := _) h1 R1 _ (iok_tup h r))
  | lst h n r =>
    cases r1
    exact iter_list_ok I1 (.inl h) (Post.now (a := _) h1 R1 _ (iok_list h n r))
  | str x =>
    obtain ⟨t, rfl⟩ := r1
    exact iter_str_ok I1 (Post.now (a := _) h1 R1 _ iok_str)
  | _ => exact h1.elim
theorem gi_range1 {a : Expr} {p pos : Pos} (hm : X.mg "range" = none) (ha : PA X [a] (tmA X.K u W ma)) (hg : Gl X "range" := by rfl) (hs : starEach [a] X.env = [(false, eval a X.env)] := by rfl) : PI X tg (.Call (.Name "range" p) [a] [] pos) (tmI X.K u W (rangeM1 ma)) := by
  refine ⟨fun pins s σ H R I ⟨Z, as, ρ, μ, Rl, h⟩ => ?_⟩
  refine (pi_range1 (tg := tg) hg hm ha hs).run pins s σ H R I ⟨Z, as, ρ, μ, Rl, h.bind.mono fun as1 H1 μ1 ds lt R1 h1 vs q => ?_⟩
  cases q with
  | nil => exact h1.elim
  | cons q1 t =>
    cases q1 with
    | int j =>
      cases t with
      | nil =>
        dsimp only at h1
        split at h1
        · rename_i hj
          exact ⟨j, rfl, by omega, by omega, Post.now (a := _) h1 R1 _ iok_range⟩
        · exact h1.elim
      | cons q2 t => exact h1.elim
    | _ => exact h1.elim
theorem gi_range2 {a b : Expr} {p pos : Pos} (hm : X.mg "range" = none) (ha : PA X [a, b] (tmA X.K u W ma)) (hg : Gl X "range" := by rfl) (hs : starEach [a, b] X.env = [(false, eval a X.env), (false, eval b X.env)] := by rfl) (hs2 : starEach [b] X.env = [(false, eval b X.env)] := by rfl) : PI X tg (.Call (.Name "range" p) [a, b] [] pos) (tmI X.K u W (rangeM2 ma)) := by
  refine ⟨fun pins s σ H R I ⟨Z, as, ρ, μ, Rl, h⟩ => ?_⟩
  refine (pi_range2 (tg := tg) hg hm ha hs hs2).run pins s σ H R I ⟨Z, as, ρ, μ, Rl, h.bind.mono fun as1 H1 μ1 ds lt R1 h1 vs q => ?_⟩
  cases q with
  | nil => exact h1.elim
  | cons q1 t =>
    cases q1 with
    | int j =>
      cases t with
      | nil => exact h1.elim
      | cons q2 t =>
        cases q2 with
        | int j2 =>
          cases t with
          | nil =>
            dsimp only at h1
            split at h1
            · rename_i hj
              exact ⟨j, j2, rfl, by omega, Post.now (a := _) h1 R1 _ iok_range⟩
            · exact h1.elim
          | cons _ _ => exact h1.elim
        | _ => exact h1.elim
    | _ => exact h1.elim
end
end G

set_option Elab.async false
set_option linter.all false
set_option maxRecDepth 100000
/-! GF: targets, for, while, comprehensions. -/
namespace G
open PySem PySem.Spec
      PyProof.Rows L2

/-! ### targets -/
inductive Tg where
  | nm (i : Nat) | tp (is : List Nat)
def Tg.slots : Tg → List Nat
  | .nm i => [i]
  | .tp is => is
def setMany : List Nat → List D → Env → Option Env
  | [], [], ρ => some ρ
  | i :: is, d :: ds, ρ => setMany is ds (ρ.set i (some d))
  | _, _, _ => none
def assignD : Tg → D → Env → Option Env
  | .nm i, d, ρ => some (ρ.set i (some d))
  | .tp is, .tup ds, ρ => setMany is ds ρ
  | _, _, _ => none
def OnlyAt (vs : List Nat) (σ σ' : L2.St) : Prop := σ'.length = σ.length ∧ ∀ j, j ∉ vs → σ'[j]? = σ[j]?
theorem OnlyAt.refl (vs : List Nat) (σ : L2.St) : OnlyAt vs σ σ := ⟨rfl, fun _ _ => rfl⟩
theorem OnlyAt.set {σ σ' : L2.St} {i : Nat} {is : List Nat} {v : Option V} (h : OnlyAt is (σ.set i v) σ') : OnlyAt (i :: is) σ σ' :=
  ⟨h.1.trans (List.length_set ..), fun j hj => by
    have h1 : i ≠ j := fun e => hj (by rw [e]; exact List.mem_cons_self)
    rw [h.2 j fun z => hj (List.mem_cons_of_mem _ z), List.getElem?_set_ne h1]⟩
def tmG (K : PySem.W.Frag) (u : U) (tg : Tg) : TG := fun v σ H Q => ∃ Z as ρ μ d, Rel K u Z as ρ μ σ H ∧ RepV K u Z as H d v ∧ match assignD tg d ρ with
  | some ρ' => ∀ σ', Rel K u Z as ρ' μ σ' H → OnlyAt tg.slots σ σ' → Q σ' H
  | none => False
def tmGs (K : PySem.W.Frag) (u : U) (is : List Nat) : TGs := fun vs σ H Q => ∃ Z as ρ μ ds, Rel K u Z as ρ μ σ H ∧ RepVs K u Z as H ds vs ∧ match setMany is ds ρ with
  | some ρ' => ∀ σ', Rel K u Z as ρ' μ σ' H → OnlyAt is σ σ' → Q σ' H
  | none => False
theorem _root_.L2.PG.gwk {X : Cx} {e : Expr} {t t' : TG} (h : PG X e t) (w : ∀ v σ H Q, t' v σ H Q → t v σ H Q) : PG X e t' := ⟨fun pins s σ H v u Q I r hq => h.run pins s σ H v u Q I r (w v σ H Q hq)⟩
theorem _root_.L2.PGs.gwk {X : Cx} {e : List Expr} {t t' : TGs} (h : PGs X e t) (w : ∀ v σ H Q, t' v σ H Q → t v σ H Q) : PGs X e t' := ⟨fun pins s σ H v u Q I r hq => h.run pins s σ H v u Q I r (w v σ H Q hq)⟩
section
variable {X : Cx} {u : U} {i : Nat} {is : List Nat} {x : Str} {pos : Pos} {es : List Expr}
theorem gg_nm (hN : X.N.Nodup) (hi : X.N[i]? = some x := by rfl) (hx : Loc X.env.scope x := by first | exact Or.inl rfl | exact Or.inr rfl) (hf : X.fn x = true ∨ X.env.scope.names.lookup x = some .local := by first | exact .inl rfl | exact .inr rfl | assumption) : PG X (.Name x pos) (tmG X.K u (.nm i)) := by
  refine (pg_name hN hi hx hf).gwk fun v σ H Q ⟨Z, as, ρ, μ, d, R, q, h⟩ => ?_
  exact h _ (R.set q i) ⟨List.length_set .., fun j hj => List.getElem?_set_ne fun e => hj (by rw [e]; exact List.mem_cons_self)⟩
theorem gg_nil : PGs X [] (tmGs X.K u []) := by
  refine pgs_nil.gwk fun vs σ H Q ⟨Z, as, ρ, μ, ds, R, q, h⟩ => ?_
  cases q with
  | nil => exact ⟨rfl, h σ R (OnlyAt.refl _ _)⟩
  | cons _ _ => exact h.elim
theorem gg_cons (hN : X.N.Nodup) (h2 : PGs X es (tmGs X.K u is)) (hi : X.N[i]? = some x := by rfl) (hx : Loc X.env.scope x := by first | exact Or.inl rfl | exact Or.inr rfl) (hf : X.fn x = true ∨ X.env.scope.names.lookup x = some .local := by first | exact .inl rfl | exact .inr rfl | assumption)
    (hs : (assignEach (.Name x pos :: es) X.env).map (·.2) = assign (.Name x pos) X.env :: (assignEach es X.env).map (·.2) := by rfl) : PGs X (.Name x pos :: es) (tmGs X.K u (i :: is)) := by
  refine (pgs_cons (pg_name hN hi hx hf) h2 hs).gwk fun vs σ H Q ⟨Z, as, ρ, μ, ds, R, q, h⟩ => ?_
  cases q with
  | nil => exact h.elim
  | cons q1 t =>
    refine ⟨_, _, rfl, Z, as, _, μ, _, R.set q1 i, t, ?_⟩
    cases e : setMany is _ (ρ.set i (some _)) with
    | none =>
      rw [show setMany (i :: is) (_ :: _) ρ = setMany is _ (ρ.set i (some _)) from rfl, e] at h
      exact h.elim
    | some ρ' =>
      rw [show setMany (i :: is) (_ :: _) ρ = setMany is _ (ρ.set i (some _)) from rfl, e] at h
      exact fun σ' R' o => h σ' R' o.set
theorem setMany_len : ∀ {is : List Nat} {ds : List D} {ρ ρ' : Env}, setMany is ds ρ = some ρ' → ds.length = is.length
  | [], [], _, _, _ => rfl
  | [], _ :: _, _, _, h => by cases h
  | _ :: _, [], _, _, h => by cases h
  | i :: is, d :: ds, ρ, ρ', h => by rw [List.length_cons, List.length_cons, setMany_len (show setMany is ds (ρ.set i (some d)) = some ρ' from h)]
theorem gg_tup {k : Nat} (hc : X.calm = true) (h : PGs X es (tmGs X.K u is)) (hn : (assignEach es X.env).length = is.length := by rfl) (hst : (assignEach es X.env).findIdx? (·.1) = none := by rfl) : PG X (.Tuple es k pos) (tmG X.K u (.tp is)) := by
  refine (pg_tup hc h hn hst).gwk fun v σ H Q ⟨Z, as, ρ, μ, d, R, q, h⟩ => ?_
  cases q with
  | tup hp r =>
    refine ⟨_, _, rfl, sqT_of hp, ?_, Z, as, ρ, μ, _, R, r, h⟩
    rw [← r.length]
    cases e : setMany is _ ρ with
    | none => rw [show assignD (.tp is) (.tup _) ρ = setMany is _ ρ from rfl, e] at h; exact h.elim
    | some ρ' => exact setMany_len e
  | _ => exact h.elim
end

/-! ### for, while -/
def forL (tg : Tg) (b : SS) : List D → Env → List SO → SR
  | [], ρ, μ => .fl (.nx ρ) μ
  | d :: ds, ρ, μ => match assignD tg d ρ with
    | none => .no
    | some ρ' => match b ρ' μ with
      | .fl (.nx ρ2) μ2 => forL tg b ds ρ2 μ2
      | .fl (.ct ρ2) μ2 => forL tg b ds ρ2 μ2
      | .fl (.bk ρ2) μ2 => .fl (.nx ρ2) μ2
      | r => r
def forS (tg : Tg) (mi : SM (List D)) (b : SS) : SS := fun ρ μ => (mi ρ μ).sbind ρ fun ds μ1 => forL tg b ds ρ μ1
def whileL (c : SM Bool) (b : SS) : Nat → Env → List SO → SR
  | 0, _, _ => .no
  | n + 1, ρ, μ => (c ρ μ).sbind ρ fun k μ1 => if k then (match b ρ μ1 with
      | .fl (.nx ρ2) μ2 => whileL c b n ρ2 μ2
      | .fl (.ct ρ2) μ2 => whileL c b n ρ2 μ2
      | .fl (.bk ρ2) μ2 => .fl (.nx ρ2) μ2
      | r => r) else .fl (.nx ρ) μ1
def whileS (c : SM Bool) (b : SS) (n : Nat) : SS := fun ρ μ => whileL c b n ρ μ
section
variable {X : Cx} {u : U} {W : WX} {k : Nat} {tg : Tg} {mi : SM (List D)} {b : SS} {mc : SM Bool}
theorem assignD_ok {d : D} {ρ ρ' : Env} (e : assignD tg d ρ = some ρ') {K : PySem.W.Frag} {Z : Addr → Prop} {as : As} {μ : List SO} {σ : L2.St} {H : Hp} {v : V} {Q : L2.St → Hp → Prop} (R : Rel K u Z as ρ μ σ H) (q : RepV K u Z as H d v) (h : ∀ σ', Rel K u Z as ρ' μ σ' H → OnlyAt tg.slots σ σ' → Q σ' H) : tmG K u tg v σ H Q :=
  ⟨Z, as, ρ, μ, d, R, q, by rw [e]; exact h⟩
theorem gs_for {target iter : Expr} {body : List Stmt} {pos : Pos} (g : Go X u W k) (hi : PI X target iter (tmI X.K u W mi)) (hg : PG X target (tmG X.K u tg)) (hb : PSs X body (tmS X.K u W b)) (hs : ∀ x, foldedSetIterable iter X.env x = pure x := by intro _; rfl) :
    PS X (.For target iter body [] pos) (tmS X.K u W (forS tg mi b)) := by
  refine (ps_for g.passes g.calm hi hg hb hs).gwk fun Dn σ H ⟨Z, as, ρ, μ, R, h⟩ => ⟨Z, as, ρ, μ, R, h.bind.mono fun as1 H1 μ1 ds lt R1 h1 J ok => ?_⟩
  obtain ⟨Gd, Y, wk, hG, hY⟩ := ok
  refine for_it wk (fun i σ' H' => ∃ as' ρ' μ', Later as1 H1 as' H' ∧ Rel X.K u Z as' ρ' μ' σ' H' ∧ PostS X.K u W Z as' H' (forL tg b (ds.drop i) ρ' μ') Dn) ⟨as1, ρ, μ1, Later.refl _ _, R1, h1⟩ (fun i σ' H' _ ⟨as', _, _, lt', _⟩ => hG Z as' H' (fun p hp => .inl hp) lt'.b) ?_ ?_
  · rintro i x σ' Hc H' hi ⟨as', ρ', μ', lt', R', h'⟩ y
    have ed : ds.drop i = ds[i] :: ds.drop (i + 1) := List.drop_eq_getElem_cons hi
    obtain ⟨sm, q⟩ := hY i ds[i] Z as' μ' Hc x H' (by simp [hi]) lt'.b (fun p hp => .inl hp) R'.s y
    obtain ⟨R2, lt2⟩ := R'.same sm
    rw [ed] at h'
    unfold forL at h'
    cases ea : assignD tg ds[i] ρ' with
    | none => rw [ea] at h'; exact h'.elim
    | some ρ2 =>
      rw [ea] at h'
      refine assignD_ok ea R2 q fun σ2 R3 _ => ⟨Z, as', ρ2, μ', R3, ?_⟩
      have h2 := h'.later lt2
      have lt3 := lt'.trans lt2
      dsimp only at h2
      cases eb : b ρ2 μ' with
      | fl f μ3 =>
        rw [eb] at h2
        cases f with
        | nx ρ3 => exact fun a c σ3 l r => ⟨a, ρ3, μ3, lt3.trans l, r, h2.later l⟩
        | ct ρ3 => exact fun a c σ3 l r => ⟨a, ρ3, μ3, lt3.trans l, r, h2.later l⟩
        | bk ρ3 => exact h2
        | rt d => exact h2
      | exc c fs ρ3 μ3 => rw [eb] at h2; exact h2
      | no => rw [eb] at h2; exact h2.elim
  · rintro σ' H' ⟨as', ρ', μ', lt', R', h'⟩
    rw [List.drop_length] at h'
    exact h'.nx R'
theorem gs_while {c : Expr} {body : List Stmt} {pos : Pos} {n : Nat} (g : Go X u W k) (hc : PT X c (tmT X.K u W mc)) (hb : PSs X body (tmS X.K u W b)) : PS X (.While c body [] pos) (tmS X.K u W (whileS mc b n)) := by
  refine (ps_while g.passes hc hb).gwk fun Dn σ H ⟨Z, as, ρ, μ, R, h⟩ => ?_
  refine ⟨fun m σ' H' => ∃ as' ρ' μ', Rel X.K u Z as' ρ' μ' σ' H' ∧ PostS X.K u W Z as' H' (whileL mc b m ρ' μ') Dn, ⟨n, as, ρ, μ, R, h⟩, ?_⟩
  rintro m σ' H' ⟨as', ρ', μ', R', h'⟩
  cases m with
  | zero => exact h'.elim
  | succ m =>
    refine ⟨Z, as', ρ', μ', R', (PostS.bind (ρ := ρ') h').mono fun as1 H1 μ1 k lt R1 h1 => ?_⟩
    cases k with
    | false => exact h1.nx R1
    | true =>
      refine ⟨fun σ2 H2 => ∃ as' ρ' μ', Rel X.K u Z as' ρ' μ' σ2 H2 ∧ PostS X.K u W Z as' H2 (whileL mc b m ρ' μ') Dn, fun σ2 H2 z => ⟨m, Nat.lt_succ_self _, z⟩, Z, as1, ρ', μ1, R1, ?_⟩
      simp only [if_true] at h1
      cases eb : b ρ' μ1 with
      | fl f μ3 =>
        rw [eb] at h1
        cases f with
        | nx ρ3 => exact fun a c σ3 l r => ⟨a, ρ3, μ3, r, h1.later l⟩
        | ct ρ3 => exact fun a c σ3 l r => ⟨a, ρ3, μ3, r, h1.later l⟩
        | bk ρ3 => exact h1
        | rt d => exact h1
      | exc c fs ρ3 μ3 => rw [eb] at h1; exact h1
      | no => rw [eb] at h1; exact h1.elim
end
end G

set_option Elab.async false
set_option linter.all false
set_option maxRecDepth 100000
/-! GG: list comprehensions. -/
namespace G
open PySem PySem.Spec
      PyProof.Rows L2

def wipeD (ρ : Env) : List Nat → Env
  | [] => ρ
  | v :: vs => (wipeD ρ vs).set v none
/-- no exception may leave -/
def Res.calm {α : Type} (r : Res α) : Res α := match r with
  | .exc _ _ _ => .no
  | r => r
def W0 : WX := fun _ _ _ _ => False
def lcL (tg : Tg) (mt : SM Bool) (me : SE) (ρ : Env) : List D → List SO → Res (List D)
  | [], μ => .ok [] μ
  | d :: ds, μ => match assignD tg d ρ with
    | none => .no
    | some ρ' => (mt ρ' μ).bind fun k μ1 => if k then (me ρ' μ1).bind fun x μ2 => (lcL tg mt me ρ ds μ2).map (x :: ·) else lcL tg mt me ρ ds μ1
/-- vs: the places of the block's own names -/
def lcM (mi : SM (List D)) (vs : List Nat) (tg : Tg) (mt : SM Bool) (me : SE) : SE := fun ρ μ => (mi ρ μ).bind fun ds μ1 => if few ds.length then ((lcL tg mt me (wipeD ρ vs) ds μ1).calm).map .lst else .no
def yesM : SM Bool := fun _ μ => .ok true μ

section
variable {K : PySem.W.Frag} {u : U} {Z : Addr → Prop} {as : As} {ρ : Env} {μ : List SO} {σ : L2.St} {H : Hp}
theorem Rel.wipe (R : Rel K u Z as ρ μ σ H) : ∀ vs : List Nat, Rel K u Z as (wipeD ρ vs) μ (L2.wipe σ vs) H
  | [] => R
  | v :: vs => (Rel.wipe R vs).unset v
theorem wipe_get (σ : L2.St) : ∀ (vs : List Nat) (j : Nat), (L2.wipe σ vs)[j]? = if j ∈ vs then (if j < σ.length then some none else none) else σ[j]?
  | [], j => by simp [L2.wipe]
  | v :: vs, j => by
    unfold L2.wipe
    by_cases h : v = j
    · subst h
      simp only [List.mem_cons_self, if_true]
      by_cases hl : v < σ.length
      · rw [List.getElem?_set_self (by rw [wipe_length]; exact hl), if_pos hl]
      · rw [List.getElem?_eq_none (by rw [List.length_set, wipe_length]; omega), if_neg hl]
    · rw [List.getElem?_set_ne h, wipe_get σ vs j]
      have h' : ¬ j = v := fun e => h e.symm
      simp only [List.mem_cons, h', false_or]
theorem wipe_only {σ σ' : L2.St} {vs ts : List Nat} (hs : ∀ i ∈ ts, i ∈ vs) (o : OnlyAt ts (L2.wipe σ vs) σ') : L2.wipe σ' vs = L2.wipe σ vs := by
  refine List.ext_getElem?
        fun j => ?_
  rw [wipe_get, wipe_get]
  have hl : σ'.length = σ.length := by rw [o.1, wipe_length]
  by_cases h : j ∈ vs
  · rw [if_pos h, if_pos h, hl]
  · rw [if_neg h, if_neg h, o.2 j fun z => h (hs j z), wipe_get, if_neg h]
/-! fewer bad addresses -/
mutual
theorem RepV.lessZ {Z' : Addr → Prop} (b : ∀ p, Z' p → Z p) : ∀ {d : D} {v : V}, RepV K u Z as H d v → RepV K u Z' as H d v
  | _, _, .non => .non
  | _, _, .bl b => .bl b
  | _, _, .int i => .int i
  | _, _, .str x => .str x
  | _, _, .tup h r => .tup (h.elim (fun q => .inl ⟨q.1, fun z => q.2 (z.imp (b _) id)⟩) .inr) (RepVs.lessZ b r)
  | _, _, .scr h r => .scr (h.elim (fun q => .inl ⟨q.1, fun z => q.2 (z.imp (b _) id)⟩) .inr) (RepVs.lessZ b r)
  | _, _, .lst h n r => .lst h (fun z => n (z.imp (b _) id)) (RepVs.lessZ b r)
  | _, _, .dic h n r => .dic h (fun z => n (z.imp (b _) id)) (RepKs.lessZ b r)
  | _, _, .loc hl h => .loc hl h
  | _, _, .cls c => .cls c
  | _, _, .ty n => .ty n
  | _, _, .exn h n r => .exn h (fun z => n (z.imp (b _) id)) (RepX.lessZ b r)
theorem RepVs.lessZ {Z' : Addr → Prop} (b : ∀ p, Z' p → Z p) : ∀ {d : List D} {v : List V}, RepVs K u Z as H d v → RepVs K u Z' as H d v
  | _, _, .nil => .nil
  | _, _, .cons h t => .cons (RepV.lessZ b h) (RepVs.lessZ b t)
theorem RepKs.lessZ {Z' : Addr → Prop} (b : ∀ p, Z' p → Z p) : ∀ {d : List (Key × D)} {v : List (Key × V)}, RepKs K u Z as H d v → RepKs K u Z' as H d v
  | _, _, .nil => .nil
  | _, _, .cons h t => .cons (RepV.lessZ b h) (RepKs.lessZ b t)
theorem RepFs.lessZ {Z' : Addr → Prop} (b : ∀ p, Z' p → Z p) : ∀ {d : List (Str × D)} {v : List (Str × V)}, RepFs K u Z as H d v → RepFs K u Z' as H d v
  | _, _, .nil => .nil
  | _, _, .cons h t => .cons (RepV.lessZ b h) (RepFs.lessZ b t)
theorem RepX.lessZ {Z' : Addr → Prop} (b : ∀ p, Z' p → Z p) : ∀ {d : List (Str × D)} {v : Option Addr}, RepX K u Z as H d v → RepX K u Z' as H d v
  | _, _, .nil => .nil
  | _, _, .dict h n r => .dict h (fun z => n (z.imp (b _) id)) (RepFs.lessZ b r)
end
theorem RelS.lessZ {Z' : Addr → Prop} (b : ∀ p, Z' p → Z p) (R : RelS K u Z as μ H) : RelS K u Z' as μ H := by
  refine ⟨R.len, R.inj, fun l a o e1 e2 => ?_, fun p hp => R.zok p (b p hp), R.tabs⟩
  have q := R.obj l a o e1 e2
  cases o with
  | dead => exact q
  | lst ds => obtain ⟨p, xs, ea, e', q⟩ := q; exact ⟨p, xs, ea, e', q.lessZ b⟩
  | dic ds => obtain ⟨p, xs, ea, e', q⟩ := q; exact ⟨p, xs, ea, e', q.lessZ b⟩
  | ins c ds => obtain ⟨p, dx, xs, ea, e', q⟩ := q; exact ⟨p, dx, xs, ea, e', q.lessZ b⟩
theorem RelS.newZ {Z' : Addr → Prop} {H' : Hp} (hz : ∀ p, Z' p → Z p ∨ H p = none) (R : RelS K u Z as μ H') (lt : ∀ p, H' p = none → H p = none) (h2 : ∀ p, Z' p → (∃ o, H' p = some o ∧ ∀ ps, o ≠ .tbl ps) ∧ ∀ l : Nat, as[l]? ≠ some (some p)) (hq : ∀ {d : D} {v : V}, RepV K u Z as H' d v → RepV K u Z' as H' d v)
    (hqs : ∀ {d : List D} {v : List V}, RepVs K u Z as H' d v → RepVs K u Z' as H' d v) (hqk : ∀ {d : List (Key × D)} {v : List (Key × V)}, RepKs K u Z as H' d v → RepKs K u Z' as H' d v) (hqf : ∀ {d : List (Str × D)} {v : List (Str × V)}, RepFs K u Z as H' d v → RepFs K u Z' as H' d v) : RelS K u Z' as μ H' := by
  refine ⟨R.len, R.inj, fun l a o e1 e2 => ?_, h2, R.tabs⟩
  have q := R.obj l a o e1 e2
  cases o with
  | dead => exact q
  | lst ds => obtain ⟨p, xs, ea, e', q⟩ := q; exact ⟨p, xs, ea, e', hqs q⟩
  | dic ds => obtain ⟨p, xs, ea, e', q⟩ := q; exact ⟨p, xs, ea, e', hqk q⟩
  | ins c ds => obtain ⟨p, dx, xs, ea, e', q⟩ := q; exact ⟨p, dx, xs, ea, e', hqf q⟩
/-- a new list at D, which is ours from now on -/
abbrev ZD (Z : Addr → Prop) (D : Addr) : Addr → Prop := fun p => Z p ∨ p = D
theorem Rel.own (R : Rel K u Z as ρ μ σ H) {D : Addr} {o : HO} (hD : H D = none) (ho : ∀ ps, o ≠ .tbl ps) : Rel K u (ZD Z D) as ρ μ σ (upd H D o) := by
  have R1 : Rel K u Z as ρ μ σ (upd H D o) := R.new hD
  have nb := R.s.fresh hD
  -- what lies at H lies behind, D being bad
  have hz : ∀ p, ZD Z D p → Z p ∨ H p = none := fun p z => z.imp id fun e => by rw [e]; exact hD
  have lt : Later as H as (upd H D o) := Later.new hD
  have rv : ∀ {l : Nat} {a : Option Addr} {x : SO}, as[l]? = some a → μ[l]? = some x → RepO K u (ZD Z D) as (upd H D o) a x := fun {l a x} e1 e2 => by
    have q := R.s.obj l a x e1 e2
    have np : ∀ {p : Addr} {y : HO}, H p = some y → p ≠ D := fun e => ne_of_none e hD
    cases x with
    | dead => exact q
    | lst ds => obtain ⟨p, xs, ea, e', q⟩ := q; exact ⟨p, xs, ea, by rw [upd_ne (np e')]; exact e', (q.newZ hz).later lt⟩
    | dic ds => obtain ⟨p, xs, ea, e', q⟩ := q; exact ⟨p, xs, ea, by rw [upd_ne (np e')]; exact e', (q.newZ hz).later lt⟩
    | ins c ds => obtain ⟨p, dx, xs, ea, e', q⟩ := q; exact ⟨p, dx, xs, ea, by rw [upd_ne (np e')]; exact e', (q.newZ hz).later lt⟩
  refine ⟨⟨R.s.len, R.s.inj, fun l a x e1 e2 => rv e1 e2, fun p hp => ?_, R1.s.tabs⟩, R.len, fun i d e => ?_⟩
  · rcases hp with hp | hp
    · exact R1.s.zok p hp
    · rw [hp]
      exact ⟨⟨o, upd_same, ho⟩, fun l e => nb (.inr ⟨l, e⟩)⟩
  · obtain ⟨v, e1, q⟩ := R.env i d e
    exact ⟨v, e1, (q.newZ hz).later lt⟩
/-! a bad address is written -/
theorem rd_updZ {D p : Addr} {o y : HO} (b : Bad Z as D) (n : ¬ Bad Z as p) (h : Rd H p y) : Rd (upd H D o) p y := by
  have ne : p ≠ D := fun z => n (by rw [z]; exact b)
  rcases h with e | ⟨x, e⟩
  · exact .inl (by rw [upd_ne ne]; exact e)
  · exact .inr ⟨x, by rw [upd_ne ne]; exact e⟩
mutual
theorem RepV.updZ {D : Addr} {o : HO} (b : Bad Z as D) : ∀ {d : G.D} {v : V}, RepV K u Z as H d v → RepV K u Z as (upd H D o) d v
  | _, _, .non => .non
  | _, _, .bl b => .bl b
  | _, _, .int i => .int i
  | _, _, .str x => .str x
  | _, _, .tup h r => .tup (h.elim (fun q => .inl ⟨rd_updZ b q.2 q.1, q.2⟩) .inr) (RepVs.updZ b r)
  | _, _, .scr h r => .scr (h.elim (fun q => .inl ⟨rd_updZ b q.2 q.1, q.2⟩) .inr) (RepVs.updZ b r)
  | _, _, .lst h n r => .lst (rd_updZ b n h) n (RepVs.updZ b r)
  | _, _, .dic h n r => .dic (by rw [upd_ne fun z => n (by rw [z]; exact b)]; exact h) n (RepKs.updZ b r)
  | _, _, .loc hl h => .loc hl h
  | _, _, .cls c => .cls c
  | _, _, .ty n => .ty n
  | _, _, .exn h n r => .exn (by rw [upd_ne fun z => n (by rw [z]; exact b)]; exact h) n (RepX.updZ b r)
theorem RepVs.updZ {D : Addr} {o : HO} (b : Bad Z as D) : ∀ {d : List G.D} {v : List V}, RepVs K u Z as H d v → RepVs K u Z as (upd H D o) d v
  | _, _, .nil => .nil
  | _, _, .cons h t => .cons (RepV.updZ b h) (RepVs.updZ b t)
theorem RepKs.updZ {D : Addr} {o : HO} (b : Bad Z as D) : ∀ {d : List (Key × G.D)} {v : List (Key × V)}, RepKs K u Z as H d v → RepKs K u Z as (upd H D o) d v
  | _, _, .nil => .nil
  | _, _, .cons h t => .cons (RepV.updZ b h) (RepKs.updZ b t)
theorem RepFs.updZ {D : Addr} {o : HO} (b : Bad Z as D) : ∀ {d : List (Str × G.D)} {v : List (Str × V)}, RepFs K u Z as H d v → RepFs K u Z as (upd H D o) d v
  | _, _, .nil => .nil
  | _, _, .cons h t => .cons (RepV.updZ b h) (RepFs.updZ b t)
theorem RepX.updZ {D : Addr} {o : HO} (b : Bad Z as D) : ∀ {d : List (Str × G.D)} {v : Option Addr}, RepX K u Z as H d v → RepX K u Z as (upd H D o) d v
  | _, _, .nil => .nil
  | _, _, .dict h n r => .dict (by rw [upd_ne fun z => n (by rw [z]; exact b)]; exact h) n (RepFs.updZ b r)
end
theorem Rel.updZ (R : Rel K u Z as ρ μ σ H) {D : Addr} {xs ys : List V} (hz : Z D) (hD : H D = some (.lst xs)) : Rel K u Z as ρ μ σ (upd H D (.lst ys)) := by
  have b : Bad Z as D := .inl hz
  have na := (R.s.zok D hz).2
  refine ⟨⟨R.s.len, R.s.inj, fun l a x e1 e2 => ?_, fun p hp => ?_, fun x hx => ?_⟩, R.len, fun i d e => let ⟨v, e1, q⟩ := R.env i d e; ⟨v, e1, q.updZ b⟩⟩
  · have q := R.s.obj l a x e1 e2
    have np : ∀ {p : Addr}, a = some p → p ≠ D := fun e z => na l (by rw [e1, e, z])
    cases x with
    | dead => exact q
    | lst ds => obtain ⟨p, xs, ea, e', q⟩ := q; exact ⟨p, xs, ea, by rw [upd_ne (np ea)]; exact e', q.updZ b⟩
    | dic ds => obtain ⟨p, xs, ea, e', q⟩ := q; exact ⟨p, xs, ea, by rw [upd_ne (np ea)]; exact e', q.updZ b⟩
    | ins c ds => obtain ⟨p, dx, xs, ea, e', q⟩ := q; exact ⟨p, dx, xs, ea, by rw [upd_ne (np ea)]; exact e', q.updZ b⟩
  · obtain ⟨⟨o, e, n⟩, m⟩ := R.s.zok p hp
    refine ⟨?_, m⟩
    by_cases h : p = D
    · rw [h]
      exact ⟨_, upd_same, fun _ z => by cases z⟩
    · exact ⟨o, by rw [upd_ne h]; exact e, n⟩
  · obtain ⟨ps, h1, h2, h3⟩ := R.s.tabs x hx
    refine ⟨ps, by rw [upd_ne fun z => by rw [z, hD] at h1; cases h1]; exact h1, h2, fun pos cv hc => ?_⟩
    obtain ⟨c, e1, e2⟩
          := h3 pos cv hc
    exact ⟨c, e1, by rw [upd_ne fun z => by rw [z, hD] at e2; unfold LamX.CodeO at e2; cases e2]; exact e2⟩
end
theorem Later.updN {as as' : As} {H H' : Hp} (lt : Later as H as' H') {D : Addr} {o : HO} (hD : H D = none) : Later as H as' (upd H' D o) :=
  ⟨lt.len, lt.old, fun p x e1 e2 e3 => let ⟨a, b⟩ := lt.keep p x e1 e2 e3; ⟨by rw [upd_ne (ne_of_none e1 hD)]; exact a, b⟩⟩

/-! ### other places -/
structure Base (Z : Addr → Prop) (as : As) (Z' : Addr → Prop) (as' : As) : Prop where
  len : as.length ≤ as'.length
  at_ : ∀ (l : Nat) (p : Addr), l < as.length → as'[l]? = some (some p) → as[l]? = some (some p)
  bad : ∀ p, Bad Z' as' p → Bad Z as p
section
variable {K : PySem.W.Frag} {u : U} {Z Z' : Addr → Prop} {as as' : As} {H : Hp}
mutual
theorem RepV.rebase (b : Base Z as Z' as') : ∀ {d : D} {v : V}, RepV K u Z as H d v → RepV K u Z' as' H d v
  | _, _, .non => .non
  | _, _, .bl b => .bl b
  | _, _, .int i => .int i
  | _, _, .str x => .str x
  | _, _, .tup h r => .tup (h.elim (fun q => .inl ⟨q.1, fun z => q.2 (b.bad _ z)⟩) .inr) (RepVs.rebase b r)
  | _, _, .scr h r => .scr (h.elim (fun q => .inl ⟨q.1, fun z => q.2 (b.bad _ z)⟩) .inr) (RepVs.rebase b r)
  | _, _, .lst h n r => .lst h (fun z => n (b.bad _ z)) (RepVs.rebase b r)
  | _, _, .dic h n r => .dic h (fun z => n (b.bad _ z)) (RepKs.rebase b r)
  | _, _, .loc hl h => .loc (Nat.lt_of_lt_of_le hl b.len) fun p e => h p (b.at_ _ p hl e)
  | _, _, .cls c => .cls c
  | _, _, .ty n => .ty n
  | _, _, .exn h n r => .exn h (fun z => n (b.bad _ z)) (RepX.rebase b r)
theorem RepVs.rebase (b : Base Z as Z' as') : ∀ {d : List D} {v : List V}, RepVs K u Z as H d v → RepVs K u Z' as' H d v
  | _, _, .nil => .nil
  | _, _, .cons h t => .cons (RepV.rebase b h) (RepVs.rebase b t)
theorem RepKs.rebase (b : Base Z as Z' as') : ∀ {d : List (Key × D)} {v : List (Key × V)}, RepKs K u Z as H d v → RepKs K u Z' as' H d v
  | _, _, .nil => .nil
  | _, _, .cons h t => .cons (RepV.rebase b h) (RepKs.rebase b t)
theorem RepFs.rebase (b : Base Z as Z' as') : ∀ {d : List (Str × D)} {v : List (Str × V)}, RepFs K u Z as H d v → RepFs K u Z' as' H d v
  | _, _, .nil => .nil
  | _, _, .cons h t => .cons (RepV.rebase b h) (RepFs.rebase b t)
theorem RepX.rebase (b : Base Z as Z' as') : ∀ {d : List (Str × D)} {v : Option Addr}, RepX K u Z as H d v → RepX K u Z' as' H d v
  | _, _, .nil => .nil
  | _, _, .dict h n r => .dict h (fun z => n (b.bad _ z)) (RepFs.rebase b r)
end
theorem adopt_base {Da : Addr} : Base (ZD Z Da) as Z (as ++ [some Da]) := by
  have at_ : ∀ (l : Nat) (p : Addr), (as ++ [some Da])[l]? = some (some p) → as[l]? = some (some p) ∨ (l = as.length ∧ p = Da) := fun l p e => by
    rw [List.getElem?_append] at e
    split at e
    · exact .inl e
    · rename_i hl
      cases h0 : l - as.length with
      | zero => rw [h0] at e; cases e; exact .inr ⟨by omega, rfl⟩
      | succ n => rw [h0] at e; cases e
  exact ⟨by simp, fun l p hl e => (at_ l p e).elim id fun z => absurd z.1 (Nat.ne_of_lt hl), fun p z => z.elim (fun z => .inl (.inl z)) fun ⟨l, e⟩ => (at_ l p e).elim (fun e => .inr ⟨l, e⟩) fun e => .inl (.inr e.2)⟩
theorem RelS.adopt {μ : List SO} {Da : Addr} {L : List D} {xs : List V} (R : RelS K u (ZD Z Da) as μ H) (hDa : H Da = some (.lst xs)) (q : RepVs K u (ZD Z Da) as H L xs) (hz : ¬ Z Da) :
    RelS K u Z (as ++ [some Da]) (μ ++ [.lst L]) H ∧ RepV K u Z (as ++ [some Da]) H (.loc μ.length) (.ref Da) := by
  have b : Base (ZD Z Da) as Z (as ++ [some Da]) := adopt_base
  have nd : ∀ l : Nat, as[l]? ≠ some (some Da) := (R.zok Da (.inr rfl)).2
  have at_ : ∀ (l : Nat) (p : Addr), (as ++ [some Da])[l]? = some (some p) → as[l]? = some (some p) ∨ (l = as.length ∧ p = Da) := fun l p e => by
    rw [List.getElem?_append] at e
    split at e
    · exact .inl e
    · rename_i hl
      cases h0 : l - as.length with
      | zero => rw [h0] at e; cases e; exact .inr ⟨by omega, rfl⟩
      | succ n => rw [h0] at e; cases e
  refine ⟨⟨by rw [List.length_append, List.length_append, R.len]; rfl, fun l m p e1 e2 => ?_, fun l a o e1 e2 => ?_, fun p hp => ⟨(R.zok p (.inl hp)).1, fun l e => ?_⟩, R.tabs⟩, .loc (by rw [List.length_append, R.len]; simp) fun p e => ?_⟩
  · rcases at_ l p e1 with f1 | ⟨f1, g1⟩
    · rcases at_ m p e2 with f2 | ⟨f2, g2⟩
      · exact R.inj l m p f1 f2
      · rw [g2] at f1
        exact absurd f1 (nd l)
    · rcases at_ m p e2 with f2 | ⟨f2, g2⟩
      · rw [g1] at f2
        exact absurd f2 (nd m)
      · rw [f1, f2]
  · by_cases hl : l < as.length
    · rw [List.getElem?_append_left hl] at e1
      rw [List.getElem?_append_left (by rw [← R.len]; exact hl)] at e2
      have q1 := R.obj l a o e1 e2
      cases o with
      | dead => exact q1
      | lst ds => obtain ⟨p', ys, ea, e', q1⟩ := q1; exact ⟨p', ys, ea, e', q1.rebase b⟩
      | dic ds => obtain ⟨p', ys, ea, e', q1⟩ := q1; exact ⟨p', ys, ea, e', q1.rebase b⟩
      | ins c ds => obtain ⟨p', dx, ys, ea, e', q1⟩ := q1; exact ⟨p', dx, ys, ea, e', q1.rebase b⟩
    · by_cases h2 : l = as.length
      · subst h2
        rw [List.getElem?_append_right (Nat.le_refl _)] at e1
        rw [List.getElem?_append_right (by rw [R.len]; exact Nat.le_refl _)] at e2
        simp [R.len] at e1 e2
        subst e1 e2
        exact ⟨Da, xs, rfl, hDa, q.rebase b⟩
      · rw [List.getElem?_eq_none (by simp; omega)] at e1
        cases e1
  · rcases at_ l p e with e | ⟨_, e⟩
    · exact (R.zok p (.inl hp)).2 l e
    · rw [e] at hp
      exact hz hp
  · rcases at_ _ p e with e | ⟨_, e⟩
    · rw [List.getElem?_eq_none (by rw [R.len]; exact Nat.le_refl _)] at e
      cases e
    · rw [e]
end

theorem Res.bind_ok {α β : Type} {r : Res α} {f : α → List SO → Res β} {b : β} {μ : List SO} (h : r.bind f = .ok b μ) : ∃ a μ1, r = .ok a μ1 ∧ f a μ1 = .ok b μ := by
  cases r with
  | ok a μ1 => exact ⟨a, μ1, rfl, h⟩
  | exc c fs μ1 => cases h
  | no => cases h
theorem Res.map_ok {α β : Type} {r : Res α} {f : α → β} {b : β} {μ : List SO} (h : r.map f = .ok b μ) : ∃ a, r = .ok a μ ∧ b = f a := by
  cases r with
  | ok a μ1 => cases h; exact ⟨a, rfl, rfl⟩
  | exc c fs μ1 => cases h
  | no => cases h
section
variable {X : Cx} {u : U} {W : WX} {k : Nat} {tgd : Tg} {mi : SM (List D)} {mt : SM Bool} {me : SE} {tg iter elt : Expr} {ifs : List Expr} {scope : Scope} {own : List (Str × Nat)} {pos : Pos}
/-- the tests of a clause -/
theorem gts_nil : PTs X [] (tmT X.K u W yesM) := ⟨fun pins s σ H Q I ⟨Z, as, ρ, μ, R, h⟩ => pts_nil.run pins s σ H Q I (Post.now (a := true) h R)⟩
theorem gts_one {c : Expr} (h : PT X c (tmT X.K u W mt)) : PTs X [c] (tmT X.K u W mt) := pts_one h
/-- the place where a comprehension's block runs -/
theorem go_blk (g : Go X u W k) (s : Shared) (H : Hp) (cenv : PySem.Env) (fp : List Addr) : Go (X.blk s H scope cenv fp) u W0 k := ⟨g.room, g.guards, g.calm, g.nd, LamX.takes0, PassesOwn.never⟩
theorem tLc_gen (hown : ∀ i ∈ tgd.slots, i ∈ own.map (·.2)) {σ : L2.St} {H : Hp} {Q : VK} (h : ∃ Z as ρ μ, Rel X.K u Z as ρ μ σ H ∧ Post X.K u W Z ρ σ as H (mi ρ μ) fun as1 H1 μ1 ds => few ds.length = true ∧ ∃ L μf, lcL tgd mt me (wipeD ρ (own.map (·.2))) ds μ1 = .ok L μf ∧
      ∀ (Da : Addr) (as' : As) (H' : Hp) (xs : List V), H1 Da = none → Later as1 H1 as' H' → RelS X.K u (ZD Z Da) as' μf H' → H' Da = some (.lst xs) → RepVs X.K u (ZD Z Da) as' H' L xs → Q (.ref Da) H') :
    tLc (tmI X.K u W mi) (tmG X.K u tgd) (tmT X.K u W0 mt) (tm X.K u W0 me) (own.map (·.2)) σ H Q := by
  obtain ⟨Z, as, ρ, μ, R, h⟩ := h
  refine ⟨Z, as, ρ, μ, R, h.mono fun as1 H1 μ1 ds lt R1 h1 J ok Da hD => ?_⟩
  obtain ⟨Gd, Y, wk, hG, hY⟩ := ok
  obtain ⟨hf, L, μf, et, fin⟩ := h1
  refine lc_it wk (fun i H' => ∃ as' μ' accd accv rest, Later as1 H1 as' H' ∧ Rel X.K u (ZD Z Da) as' (wipeD ρ (own.map (·.2))) μ' (L2.wipe σ (own.map (·.2))) H' ∧ H' Da = some (.lst accv) ∧ RepVs X.K u (ZD Z Da) as' H' accd accv ∧ accd.length ≤ i ∧
      lcL tgd mt me (wipeD ρ (own.map (·.2))) (ds.drop i) μ' = .ok rest μf ∧ accd ++ rest = L)
    ⟨as1, μ1, [], [], L, Later.new hD, (R1.wipe _).own hD (fun _ z => by cases z), upd_same, .nil, Nat.le_refl _, et, rfl⟩ (fun i H' _ ⟨as', _, _, _, _, lt', _⟩ => hG (ZD Z Da) as' H' (fun p z => z.imp id fun e => by rw [e]; exact hD) lt'.b) ?_ ?_
  · rintro i x Hc H' hi ⟨as', μ', accd, accv, rest, lt', R', hDa, qa, hlen, hL, hacc⟩ y
    have ed : ds.drop i = ds[i] :: ds.drop (i + 1) := List.drop_eq_getElem_cons hi
    have hz : ∀ p, ZD Z Da p → Z p ∨ H1 p = none := fun p z => z.imp id fun e => by rw [e]; exact hD
    obtain ⟨sm, q⟩ := hY i ds[i] (ZD Z Da) as' μ' Hc x H' (by simp [hi]) lt'.b hz R'.s y
    obtain ⟨R2, lt2⟩ := R'.same sm
    rw [ed] at hL
    unfold lcL at hL
    cases ea : assignD tgd ds[i] (wipeD ρ (own.map (·.2))) with
    | none => rw [ea] at hL; cases hL
    | some ρ2 =>
      rw [ea] at hL
      obtain ⟨kb, μ3, e3, hL⟩ := Res.bind_ok hL
      refine assignD_ok ea R2 q fun σ2 R3 on => ⟨wipe_only hown on, ZD Z Da, as', ρ2, μ', R3, ?_⟩
      rw [e3]
      intro as4 H4 lt4 R4
      have lt5 := (lt'.trans lt2).trans lt4
      have Rw : ∀ {as5 : As} {μ5 : List SO} {H5 : Hp}, Later as' H' as5 H5 → RelS X.K u (ZD Z Da) as5 μ5 H5 → Rel X.K u (ZD Z Da) as5 (wipeD ρ (own.map (·.2))) μ5 (L2.wipe σ (own.map (·.2))) H5 := fun l s => R2.mono l s
      have hd4 : H4 Da = some (.lst accv) := (lt4.keep _ _ (sm _ _ hDa) (fun _ z => by cases z) (R2.s.zok Da (.inr rfl)).2).1
      cases kb with
      | false =>
        simp only [Bool.false_eq_true, if_false] at hL ⊢
        exact ⟨as4, μ3, accd, accv, rest, lt5, Rw lt4 R4.s, hd4, (qa.later lt2).later lt4, by omega, hL, hacc⟩
      | true =>
        simp only [if_true] at hL ⊢
        obtain ⟨xd, μ6, e6, hL⟩ := Res.bind_ok hL
        obtain ⟨rest', e7, er⟩ := Res.map_ok hL
        refine ⟨ZD Z Da, as4, ρ2, μ3, R4, ?_⟩
        rw [e6]
        intro as8 H8 lt8 R8 v qv
        have hd8 : H8 Da = some (.lst accv) := (lt8.keep _ _ hd4 (fun _ z => by cases z) (R4.s.zok Da (.inr rfl)).2).1
        have b8 : Bad (ZD Z Da) as8 Da := .inl (.inr rfl)
        have ql := qa.length
        refine ⟨accv, hd8, by rw [← ql]; exact Nat.lt_of_le_of_lt hlen (Nat.lt_of_lt_of_le hi (few_line hf)), as8, μ6, accd ++ [xd], accv ++ [v], rest', (lt5.trans lt8).updN hD, (Rw (lt4.trans lt8) R8.s).updZ (.inr rfl) hd8, upd_same, ?_, by simp; omega, e7, by rw [List.append_assoc, ← hacc, er] <;> rfl⟩
        exact ((((qa.later lt2).later lt4).later lt8).append (.cons qv .nil)).updZ b8
  · rintro H' ⟨as', μ', accd, accv, rest, lt', R', hDa, qa, hlen, hL, hacc⟩
    rw [List.drop_length] at hL
    unfold lcL at hL
    cases hL
    rw [List.append_nil] at hacc
    subst hacc
    exact fin Da as' H' accv hD lt' R'.s hDa qa
theorem tLc_of (hown : ∀ i ∈ tgd.slots, i ∈ own.map (·.2)) {σ : L2.St} {H : Hp} {Q : VK} (h : tm X.K u W (lcM mi (own.map (·.2)) tgd mt me) σ H Q) :
    tLc (tmI X.K u W mi) (tmG X.K u tgd) (tmT X.K u W0 mt) (tm X.K u W0 me) (own.map (·.2)) σ H Q := by
  obtain ⟨Z, as, ρ, μ, R, h⟩ := h
  refine tLc_gen hown ⟨Z, as, ρ, μ, R, h.bind.mono fun as1 H1 μ1 ds lt R1 h1 => ?_⟩
  split at h1
  · rename_i hf
    cases et : lcL tgd mt me (wipeD ρ (own.map (·.2))) ds μ1 with
    | exc c fs μ2 => rw [et] at h1; exact h1.elim
    | no => rw [et] at h1; exact h1.elim
    | ok L μf =>
      rw [et] at h1
      refine ⟨hf, L, μf, rfl, fun Da as' H' xs hD lt' R' hDa qa => ?_⟩
      have less : ∀ p, Z p → ZD Z Da p := fun p z => .inl z
      refine h1 as' H' lt' (R1.mono lt' (R'.lessZ less)) _ (.lst (.inl hDa) ?_ (qa.lessZ less))
      rintro (z | ⟨l, e⟩)
      · exact R1.s.fresh hD (.inl z)
      · exact (R'.zok Da (.inr rfl)).2 l e
  · exact h1.elim
/-- the same, a new place -/
def lcNM (mi : SM (List D)) (vs : List Nat) (tg : Tg) (mt : SM Bool) (me : SE) : SE := fun ρ μ => (mi ρ μ).bind fun ds μ1 => if few ds.length then ((lcL tg mt me (wipeD ρ vs) ds μ1).calm).bind fun L μ2 => .ok (.loc μ2.length) (μ2 ++ [.lst L]) else .no
theorem tLcN_of (hown : ∀ i ∈ tgd.slots, i ∈ own.map (·.2)) {σ : L2.St} {H : Hp} {Q : VK} (h : tm X.K u W (lcNM mi (own.map (·.2)) tgd mt me) σ H Q) :
    tLc (tmI X.K u W mi) (tmG X.K u tgd) (tmT X.K u W0 mt) (tm X.K u W0 me) (own.map (·.2)) σ H Q := by
  obtain ⟨Z, as, ρ, μ, R, h⟩ := h
  refine tLc_gen hown ⟨Z, as, ρ, μ, R, h.bind.mono fun as1 H1 μ1 ds lt R1 h1 => ?_⟩
  split at h1
  · rename_i hf
    cases et : lcL tgd mt me (wipeD ρ (own.map (·.2))) ds μ1 with
    | exc c fs μ2 => rw [et] at h1; exact h1.elim
    | no => rw [et] at h1; exact h1.elim
    | ok L μf =>
      rw [et] at h1
      refine ⟨hf, L, μf, rfl, fun Da as' H' xs hD lt' R' hDa qa => ?_⟩
      obtain ⟨R2, q2⟩ := R'.adopt hDa qa fun z => R1.s.fresh hD (.inl z)
      have lt2 : Later as1 H1 (as' ++ [some Da]) H' := ⟨by rw [List.length_append]; exact Nat.le_trans lt'.len (Nat.le_add_right _ _), fun l p hl e => by rw [List.getElem?_append_left (Nat.lt_of_lt_of_le hl lt'.len)] at e; exact lt'.old l p hl e, fun p o e n m => by
        obtain ⟨g1, g2⟩ := lt'.keep p o e n m
        refine ⟨g1, fun l z => ?_⟩
        rw [List.getElem?_append] at z
        split at z
        · exact g2 l z
        · cases h0 : l - as'.length with
          | zero => rw [h0] at z; cases z; rw [hD] at e; cases e
          | succ n => rw [h0] at z; cases z⟩
      exact h1 (as' ++ [some Da]) H' lt2 (R1.mono lt2 R2) _ q2
  · exact h1.elim
theorem ge_lc (g : Go X u W k) (hi : PI X tg iter (tmI X.K u W mi)) (ok : BlkOk X.N X.env.scope scope own) (hown : ∀ i ∈ tgd.slots, i ∈ own.map (·.2))
    (hg : ∀ (s : Shared) (H : Hp) (C : Addr) (cl : List (Str × Addr)) (fp : List Addr), PG (X.blk s H scope (compEnvC scope cl C X.env) fp) tg (tmG X.K u tgd)) (ht : ∀ (s : Shared) (H : Hp) (C : Addr) (cl : List (Str × Addr)) (fp : List Addr), PTs (X.blk s H scope (compEnvC scope cl C X.env) fp) ifs (tmT X.K u W0 mt))
    (he : ∀ (s : Shared) (H : Hp) (C : Addr) (cl : List (Str × Addr)) (fp : List Addr), Go (X.blk s H scope (compEnvC scope cl C X.env) fp) u W0 k → PE (X.blk s H scope (compEnvC scope cl C X.env) fp) elt (tm X.K u W0 me)) (hs : ∀ x, foldedSetIterable iter X.env x = pure x := by intro _; rfl) :
    PE X (.ListComp elt [⟨tg, iter, ifs, 0⟩] scope pos) (tm X.K u W (lcM mi (own.map (·.2)) tgd mt me)) :=
  (pe_lc g.calm g.nd hi ok hg ht (fun s H C cl fp => he s H C cl fp (go_blk g s H _ fp)) hs).gwk fun σ H Q h => tLc_of hown h
/-- name = [..] -/
theorem gs_setLc {i : Nat} {y : Str} {py spos : Pos} (g : Go X u W k) (hsw : swapsWith (.ListComp elt [⟨tg, iter, ifs, 0⟩] scope pos) (some (.Name y py)) spos.line X.env = pure true) (hi : PI X tg iter (tmI X.K u W mi)) (ok : BlkOk X.N X.env.scope scope own) (hown : ∀ i ∈ tgd.slots, i ∈ own.map (·.2))
    (hg : ∀ (s : Shared) (H : Hp) (C : Addr) (cl : List (Str × Addr)) (fp : List Addr), PG (X.blk s H scope (compEnvC scope cl C X.env) fp) tg (tmG X.K u tgd)) (ht : ∀ (s : Shared) (H : Hp) (C : Addr) (cl : List (Str × Addr)) (fp : List Addr), PTs (X.blk s H scope (compEnvC scope cl C X.env) fp) ifs (tmT X.K u W0 mt))
    (he : ∀ (s : Shared) (H : Hp) (C : Addr) (cl : List (Str × Addr)) (fp : List Addr), Go (X.blk s H scope (compEnvC scope cl C X.env) fp) u W0 k → PE (X.blk s H scope (compEnvC scope cl C X.env) fp) elt (tm X.K u W0 me)) (hy : X.N[i]? = some y := by rfl) (hyl : X.env.scope.names.lookup y = some .local := by rfl) (hs : ∀ x, foldedSetIterable iter X.env x = pure x := by intro _; rfl) :
    PS X (.Assign [.Name y py] (.ListComp elt [⟨tg, iter, ifs, 0⟩] scope pos) spos) (tmS X.K u W (setS i (lcM mi (own.map (·.2)) tgd mt me))) :=
  (ps_setLc g.calm g.nd hy hyl hsw hi ok hg ht (fun s H C cl fp => he s H C cl fp (go_blk g s H _ fp)) hs).gwk fun Dn σ H ⟨Z, as, ρ, μ, R, h⟩ =>
    tLc_of hown ⟨Z, as, ρ, μ, R, h.bind.mono fun as1 H1 μ1 d lt R1 h1 v q => h1.nx (R1.set q i)⟩
theorem ge_lcN (g : Go X u W k) (hi : PI X tg iter (tmI X.K u W mi)) (ok : BlkOk X.N X.env.scope scope own) (hown : ∀ i ∈ tgd.slots, i ∈ own.map (·.2))
    (hg : ∀ (s : Shared) (H : Hp) (C : Addr) (cl : List (Str × Addr)) (fp : List Addr), PG (X.blk s H scope (compEnvC scope cl C X.env) fp) tg (tmG X.K u tgd)) (ht : ∀ (s : Shared) (H : Hp) (C : Addr) (cl : List (Str × Addr)) (fp : List Addr), PTs (X.blk s H scope (compEnvC scope cl C X.env) fp) ifs (tmT X.K u W0 mt))
    (he : ∀ (s : Shared) (H : Hp) (C : Addr) (cl : List (Str × Addr)) (fp : List Addr), Go (X.blk s H scope (compEnvC scope cl C X.env) fp) u W0 k → PE (X.blk s H scope (compEnvC scope cl C X.env) fp) elt (tm X.K u W0 me)) (hs : ∀ x, foldedSetIterable iter X.env x = pure x := by intro _; rfl) :
    PE X (.ListComp elt [⟨tg, iter, ifs, 0⟩] scope pos) (tm X.K u W (lcNM mi (own.map (·.2)) tgd mt me)) :=
  (pe_lc g.calm g.nd hi ok hg ht (fun s H C cl fp => he s H C cl fp (go_blk g s H _ fp)) hs).gwk fun σ H Q h => tLcN_of hown h
/-- name = [..] -/
theorem gs_setLcN {i : Nat} {y : Str} {py spos : Pos} (g : Go X u W k) (hsw : swapsWith (.ListComp elt [⟨tg, iter, ifs, 0⟩] scope pos) (some (.Name y py)) spos.line X.env = pure true) (hi : PI X tg iter (tmI X.K u W mi)) (ok : BlkOk X.N X.env.scope scope own) (hown : ∀ i ∈ tgd.slots, i ∈ own.map (·.2))
    (hg : ∀ (s : Shared) (H : Hp) (C : Addr) (cl : List (Str × Addr)) (fp : List Addr), PG (X.blk s H scope (compEnvC scope cl C X.env) fp) tg (tmG X.K u tgd)) (ht : ∀ (s : Shared) (H : Hp) (C : Addr) (cl : List (Str × Addr)) (fp : List Addr), PTs (X.blk s H scope (compEnvC scope cl C X.env) fp) ifs (tmT X.K u W0 mt))
    (he : ∀ (s : Shared) (H : Hp) (C : Addr) (cl : List (Str × Addr)) (fp : List Addr), Go (X.blk s H scope (compEnvC scope cl C X.env) fp) u W0 k → PE (X.blk s H scope (compEnvC scope cl C X.env) fp) elt (tm X.K u W0 me)) (hy : X.N[i]? = some y := by rfl) (hyl : X.env.scope.names.lookup y = some .local := by rfl) (hs : ∀ x, foldedSetIterable iter X.env x = pure x := by intro _; rfl) :
    PS X (.Assign [.Name y py] (.ListComp elt [⟨tg, iter, ifs, 0⟩] scope pos) spos) (tmS X.K u W (setS i (lcNM mi (own.map (·.2)) tgd mt me))) :=
  (ps_setLc g.calm g.nd hy hyl hsw hi ok hg ht (fun s H C cl fp => he s H C cl fp (go_blk g s H _ fp)) hs).gwk fun Dn σ H ⟨Z, as, ρ, μ, R, h⟩ =>
    tLcN_of hown ⟨Z, as, ρ, μ, R, h.bind.mono fun as1 H1 μ1 d lt R1 h1 v q => h1.nx (R1.set q i)⟩
end
end G

set_option Elab.async false
set_option linter.all false
set_option maxRecDepth 100000
/-! GH: operators and calls of built-ins, by value. -/
namespace G
open PySem PySem.Spec
      PyProof.Rows L2

/-! ### data as PyData -/
def mapO {α β : Type} (f : α → Option β) : List α → Option (List β)
  | [] => some []
  | a :: as => match f a with
    | some b => match mapO f as with
      | some bs => some (b :: bs)
      | none => none
    | none => none
theorem mapO_len {α β : Type} {f : α → Option β} : ∀ {as : List α} {bs : List β}, mapO f as = some bs → bs.length = as.length
  | [], bs, h => by cases h; rfl
  | a :: as, bs, h => by
    unfold mapO at h
    split at h
    · split at h
      · rename_i e
        cases h
        rw [List.length_cons, List.length_cons, mapO_len e]
      · cases h
    · cases h
/-- a datum, places looked up n deep -/
def pyD : Nat → List SO → D → Option PyData
  | _, _, .non => some .none
  | _, _, .bl b => some (.bool b)
  | _, _, .int i => some (.int i)
  | _, _, .str x => some (.str x)
  | n + 1, μ, .tup xs => (mapO (pyD n μ) xs).map .tuple
  | n + 1, μ, .lst xs => (mapO (pyD n μ) xs).map .list
  | n + 1, μ, .loc l => match μ[l]? with
    | some (.lst xs) => (mapO (pyD n μ) xs).map .list
    | _ => none
  | _, _, _ => none
section
variable {K : PySem.W.Frag} {u : U} {Z : Addr → Prop} {as : As} {μ : List SO} {H : Hp}
theorem dpAll_of {f : D → Option PyData} (hf : ∀ {d : D} {v : V} {p : PyData}, RepV K u Z as H d v → f d = some p → Dp K H v p) : ∀ {ds : List D} {vs : List V} {ps : List PyData}, RepVs K u Z as H ds vs → mapO f ds = some ps → DpAll K H vs ps
  | [], _, _, .nil, e => by cases e; exact .nil
  | d :: ds, _, _, .cons r t, e => by
    unfold mapO at e
    split at e
    · rename_i b eb
      split at e
      · rename_i bs ebs
        cases e
        exact .cons (hf r eb) (dpAll_of hf t ebs)
      · cases e
    · cases e
theorem dp_of (s : RelS K u Z as μ H) : ∀ (n : Nat) {d : D} {v : V} {p : PyData}, RepV K u Z as H d v → pyD n μ d = some p → Dp K H v p := by
  intro n
  induction n with
  | zero =>
    intro d v p r e
    cases r <;> unfold pyD at e <;> first | cases e; constructor | cases e
  | succ n ih =>
    intro d v p r e
    cases r with
    | tup h r =>
      unfold pyD at e
      rw [Option.map_eq_some_iff] at e
      obtain ⟨ps, e, rfl⟩ := e
      exact .tup (sqT_of h) (dpAll_of (fun r e => ih r e) r e)
    | lst h m r =>
      unfold pyD at e
      rw [Option.map_eq_some_iff] at e
      obtain ⟨ps, e, rfl⟩ := e
      exact .lst (.inl h) (dpAll_of (fun r e => ih r e) r e)
    | loc hl h =>
      unfold pyD at e
      split at e
      · rename_i xs em
        rw [Option.map_eq_some_iff] at e
        obtain ⟨ps, e, rfl⟩ := e
        obtain ⟨q, ys, rfl, _, e2, r⟩ := s.lst (.loc hl h) em
        exact .lst (.inl (.inl e2)) (dpAll_of (fun r e => ih r e) r e)
      · cases e
    | _ => unfold pyD at e; first | cases e; constructor | cases e
end
/-- as deep as we look -/
def pyo (μ : List SO) (d : D) : Option PyData := match pyD 40 μ d with
  | some p => if SeqAt.shaped p then some p else none
  | none => none
theorem pyo_some {μ : List SO} {d : D} {p : PyData} (h : pyo μ d = some p) : pyD 40 μ d = some p ∧ SeqAt.shaped p = true := by
  unfold pyo at h
  split at h
  · rename_i q e
    split at h
    · rename_i hs
      cases h
      exact ⟨e, hs⟩
    · cases h
  · cases h

/-! ### operators -/
def addF : F2 := fun μ a b => match a, b with
  | .int i, .int j => some (.int (i + j))
  | .str x, .str y => if few (x.length + y.length) then some (.str (x ++ y)) else none
  | .tup xs, .tup ys => if few (xs.length + ys.length) then some (.tup (xs ++ ys)) else none
  | .lst xs, .lst ys => if few (xs.length + ys.length) then some (.lst (xs ++ ys)) else none
  | .loc l, .lst ys => match μ[l]? with
    | some (.lst xs) => if few (xs.length + ys.length) then some (.lst (xs ++ ys)) else none
    | _ => none
  | .lst xs, .loc l => match μ[l]? with
    | some (.lst ys) => if few (xs.length + ys.length) then some (.lst (xs ++ ys)) else none
    | _ => none
  | .loc k, .loc l => match μ[k]?, μ[l]? with
    | some (.lst xs), some (.lst ys) => if few (xs.length + ys.length) then some (.lst (xs ++ ys)) else none
    | _, _ => none
  | _, _ => none
def subF : F2 := fun _ a b => match a, b with
  | .int i, .int j => some (.int (i - j))
  | _, _ => none
/-- below 2 ^ 64 -/
def lo64 (i : Int) : Bool := decide (-18446744073709551616 < i) && decide (i < 18446744073709551616)
def mulF : F2 := fun _ a b => match a, b with
  | .int i, .int j => if lo64 i || lo64 j then some (.int (i * j)) else none
  | .lst xs, .int k => if decide (-1000000000 ≤ k) && decide (k < 1000000000) && few (xs.length * k.toNat) then some (.lst (List.replicate k.toNat xs).flatten) else none
  | _, _ => none
def fdivF : F2 := fun _ a b => match a, b with
  | .int i, .int j => if decide (j ≠ 0) && decide (j.natAbs < 1073741824) then some (.int (i.fdiv j)) else none
  | _, _ => none
def modF : F2 := fun _ a b => match a, b with
  | .int i, .int j => if decide (j ≠ 0) then some (.int (i.fmod j)) else none
  | _, _ => none
def powF : F2 := fun _ a b => match a, b with
  | .int i, .int j => if decide (0 ≤ j) && decide (j ≤ 1000000) && decide (i.natAbs < 18446744073709551616) then some (.int (i ^ j.toNat)) else none
  | _, _ => none
def negF : F1 := fun _ a => match a with
  | .int i => some (.int (-i))
  | _ => none
def ltF : F2 := fun _ a b => match a, b with
  | .int i, .int j => some (.bl (decide (i < j)))
  | _, _ => none
def leF : F2 := fun _ a b => match a, b with
  | .int i, .int j => some (.bl (decide (i ≤ j)))
  | _, _ => none
def gtF : F2 := fun _ a b => match a, b with
  | .int i, .int j => some (.bl (decide (j < i)))
  | _, _ => none
def geF : F2 := fun _ a b => match a, b with
  | .int i, .int j => some (.bl (decide (j ≤ i)))
  | _, _ => none
def eqF : F2 := fun μ a b => match pyo μ a, pyo μ b with
  | some x, some y => some (.bl (PyData.eqv x y))
  | _, _ => none
def neF : F2 := fun μ a b => match pyo μ a, pyo μ b with
  | some x, some y => some (.bl (!PyData.eqv x y))
  | _, _ => none
def pyItems : PyData → Option (List PyData)
  | .list xs => some xs
  | .tuple xs => some xs
  | _ => none
def isNon : D → Option Bool
  | .non => some true
  | .loc _ => none
  | _ => some false

section
variable {X : Cx} {u : U} {K : PySem.W.Frag}
theorem up {H : Hp} {p : Addr} {o : HO} (h : H p = none) : Same H (upd H p o) := fun q x e => by rw [upd_ne (ne_of_none e h)]; exact e
theorem up_at {H : Hp} {p : Addr} {o : HO} : upd H p o p = some o := by simp [upd]
theorem newTup {Z : Addr → Prop} {as : As} {μ : List SO} {H : Hp} (s : RelS K u Z as μ H) {p : Addr} {xs : List V} {ds : List D} (h : H p = none) (r : RepVs K u Z as H ds xs) : RepV K u Z as (upd H p (.tup xs)) (.tup ds) (.ref p) :=
  .tup (.inl ⟨.inl up_at, s.fresh h⟩) (r.later (.new h))
theorem newLst {Z : Addr → Prop} {as : As} {μ : List SO} {H : Hp} (s : RelS K u Z as μ H) {p : Addr} {xs : List V} {ds : List D} (h : H p = none) (r : RepVs K u Z as H ds xs) : RepV K u Z as (upd H p (.lst xs)) (.lst ds) (.ref p) :=
  .lst (.inl up_at) (s.fresh h) (r.later (.new h))

theorem i2 {g : Value → Value → Sem Value} {C : Int → Int → Prop} {k : Int → Int → V} (h : OpR X g (rI C k)) {f : F2} (hf : ∀ μ dx dy d, f μ dx dy = some d → ∃ i j, dx = .int i ∧ dy = .int j ∧ C i j ∧ ∀ Z as H, RepV X.K u Z as H d (k i j)) : OpR X g (r2D X.K u f) := by
  refine h.gwk fun x y H Q ⟨Z, as, μ, dx, dy, d, s, rx, ry, e, q⟩ => ?_
  obtain ⟨i, j, rfl, rfl, c, hr⟩ := hf _ _ _ _ e
  cases rx
  cases ry
  exact ⟨i, j, rfl, rfl, c, q H _ (Same.refl H) (hr _ _ _)⟩
theorem i20 {g : Value → Value → Sem Value} {k : Int → Int → V} (h : OpR X g (rI0 k)) {f : F2} (hf : ∀ μ dx dy d, f μ dx dy = some d → ∃ i j, dx = .int i ∧ dy = .int j ∧ ∀ Z as H, RepV X.K u Z as H d (k i j)) : OpR X g (r2D X.K u f) := by
  refine h.gwk fun x y H Q ⟨Z, as, μ, dx, dy, d, s, rx, ry, e, q⟩ => ?_
  obtain ⟨i, j, rfl, rfl, hr⟩ := hf _ _ _ _ e
  cases rx
  cases ry
  exact ⟨i, j, rfl, rfl, q H _ (Same.refl H) (hr _ _ _)⟩
theorem g_sub : OpR X (binaryOp .Sub) (r2D X.K u subF) := i20 op_sub fun μ dx dy d e => by
  unfold subF at e
  split at e <;> first | cases e
  exact ⟨_, _, rfl, rfl, fun _ _ _ => .int _⟩
theorem g_lt : OpR X (compareOp .Lt) (r2D X.K u ltF) := i20 op_lt fun μ dx dy d e => by
  unfold ltF at e
  split at e <;> first | cases e
  exact ⟨_, _, rfl, rfl, fun _ _ _ => .bl _⟩
theorem g_le : OpR X (compareOp .LtE) (r2D X.K u leF) := i20 op_le fun μ dx dy d e => by
  unfold leF at e
  split at e <;> first | cases e
  exact ⟨_, _, rfl, rfl, fun _ _ _ => .bl _⟩
theorem g_gt : OpR X (compareOp .Gt) (r2D X.K u gtF) := i20 op_gt fun μ dx dy d e => by
  unfold gtF at e
  split at e <;> first | cases e
  exact ⟨_, _, rfl, rfl, fun _ _ _ => .bl _⟩
theorem g_ge : OpR X (compareOp .GtE) (r2D X.K u geF) := i20 op_ge fun μ dx dy d e => by
  unfold geF at e
  split at e <;> first | cases e
  exact ⟨_, _, rfl, rfl, fun _ _ _ => .bl _⟩
theorem g_fdiv : OpR X (binaryOp .FloorDiv) (r2D X.K u fdivF) := i2 op_fdivN fun μ dx dy d e => by
  unfold fdivF at e
  split at e
  · split at e
    · rename_i h
      cases e
      rw [Bool.and_eq_true, decide_eq_true_eq, decide_eq_true_eq] at h
      exact ⟨_, _, rfl, rfl, h, fun _ _ _ => .int _⟩
    · cases e
  · cases e
theorem g_mod : OpR X (binaryOp .Mod) (r2D X.K u modF) := i2 op_modN fun μ dx dy d e => by
  unfold modF at e
  split at e
  · split at e
    · rename_i h
      cases e
      rw [decide_eq_true_eq] at h
      exact ⟨_, _, rfl, rfl, h, fun _ _ _ => .int _⟩
    · cases e
  · cases e
theorem g_pow : OpR X (binaryOp .Pow) (r2D X.K u powF) := i2 op_pow fun μ dx dy d e => by
  unfold powF at e
  split at e
  · split at e
    · rename_i h
      cases e
      rw [Bool.and_eq_true, Bool.and_eq_true, decide_eq_true_eq, decide_eq_true_eq, decide_eq_true_eq] at h
      exact ⟨_, _, rfl, rfl, ⟨h.1.1, h.1.2, h.2⟩, fun _ _ _ => .int _⟩
    · cases e
  · cases e
theorem g_neg : UnR X (unaryOp .USub) (r1D X.K u negF) := un_neg.gwk fun x H Q ⟨Z, as, μ, dx, d, s, rx, e, q⟩ => by
  unfold negF at e
  split at e
  · cases e
    cases rx
    exact ⟨_, rfl, q H _ (Same.refl H) (.int _)⟩
  · cases e
/-- list + list, lists that stand -/
theorem op_catR : OpR X (binaryOp .Add) (fun x y H Q => ∃ l b xs zs, x = .ref l ∧ y = .ref b ∧ Rd H l (.lst xs) ∧ Rd H b (.lst zs) ∧ xs.length + zs.length ≤ sizeLine ∧ ∀ p, H p = none → Q (.ref p) (upd H p (.lst (xs ++ zs)))) := by
  intro pins s σ H x
        y v u Q I rx ry h
  obtain ⟨l, b, xs, zs, rfl,
        rfl, hH, hB, hz, q⟩ := h
  cases rx
  cases ry
  obtain ⟨hl, its, n, r, e⟩ := hH.ok I.hok
  obtain ⟨hl2, its2, n2, r2, e2⟩ := hB.ok I.hok
  have := r.length
  have := r2.length
  refine PySem.P.add_list e e2 ?_
        (by rw [List.size_toArray, List.size_toArray]; omega)
  have ea : its.toArray ++ its2.toArray
        = (its ++ its2).toArray := by simp
  rw [ea]
  exact ⟨.ref _, _, I.lnew (t' := s.toks) (r.append r2)
        (by rw [List.length_append]; omega), rfl, q _ I.fresh⟩
/-- a list's items -/
def lstD (μ : List SO) : D → Option (List D)
  | .lst xs => some xs
  | .loc l => match μ[l]? with
    | some (.lst xs) => some xs
    | _ => none
  | _ => none
theorem lstD_of {Z : Addr → Prop} {as : As} {μ : List SO} {H : Hp} (s : RelS K u Z as μ H) {d : D} {v : V} {xs : List D} (r : RepV K u Z as H d v) (e : lstD μ d = some xs) : ∃ p vs, v = .ref p ∧ Rd H p (.lst vs) ∧ RepVs K u Z as H xs vs := by
  cases r with
  | lst h n r => cases e; exact ⟨_, _, rfl, h, r⟩
  | loc hl h =>
    simp only [lstD] at e
    split at e
    · rename_i ys em
      cases e
      obtain ⟨p, vs, rfl, _, e2, q⟩ := s.lst (.loc hl h) em
      exact ⟨p, vs, rfl, .inl e2, q⟩
    · cases e
  | _ => cases e
theorem g_add : OpR X (binaryOp .Add) (r2D X.K u addF) := by
  refine ((op_add.or op_add_str).or (op_catA.or op_catR)).gwk fun x y H Q ⟨Z, as, μ, dx, dy, d, s, rx, ry, e, q⟩ => ?_
  have lists : ∀ {xs ys : List D}, lstD μ dx = some xs → lstD μ dy = some ys → (if few (xs.length + ys.length) then some (D.lst (xs ++ ys)) else none) = some d →
      ∃ l b xs zs, x = .ref l ∧ y = .ref b ∧ Rd H l (.lst xs) ∧ Rd H b (.lst zs) ∧ xs.length + zs.length ≤ sizeLine ∧ ∀ p, H p = none → Q (.ref p) (upd H p (.lst (xs ++ zs))) := by
    intro xs ys e1 e2 e
    split at e
    · rename_i hf
      cases e
      obtain ⟨p, vs, rfl, h1, r1⟩ := lstD_of s rx e1
      obtain ⟨p2, vs2, rfl, h2, r2⟩ := lstD_of s ry e2
      exact ⟨p, p2, vs, vs2, rfl, rfl, h1, h2, by rw [← r1.length, ← r2.length]; exact few_line hf, fun w hw => q _ _ (up hw) (newLst s hw (r1.append r2))⟩
    · cases e
  unfold addF at e
  split at e
  · cases e
    cases rx
    cases ry
    exact .inl (.inl ⟨_, _, rfl, rfl, q H _ (Same.refl H) (.int _)⟩)
  · split at e
    · rename_i hf
      cases e
      cases rx
      cases ry
      exact .inl (.inr ⟨_, _, rfl, rfl, few_line hf, q H _ (Same.refl H) (.str _)⟩)
    · cases e
  · split at e
    · rename_i hf
      cases e
      cases rx with
      | tup h1 r1 =>
        cases ry with
        | tup h2 r2 =>
          refine .inr (.inl ⟨_, _, _, _, rfl, rfl, sqT_of h1, sqT_of h2, by rw [← r1.length, ← r2.length]; exact few_line hf, fun z => ?_, fun z1 z2 => ?_, fun z1 z2 p hp => ?_⟩)
          · subst z
            cases r1
            exact q H _ (Same.refl H) (.tup h2 r2)
          · subst z2
            cases r2
            rw [List.append_nil] at q
            exact q H _ (Same.refl H) (.tup h1 r1)
          · exact q _ _ (up hp) (newTup s hp (r1.append r2))
    · cases e
  · exact .inr (.inr (lists (show lstD μ (.lst _) = some _ from rfl) rfl e))
  · split at e
    · rename_i em
      exact .inr (.inr (lists (by simp only [lstD, em]) rfl e))
    · cases e
  · split at e
    · rename_i em
      exact .inr (.inr (lists rfl (by simp only [lstD, em]) e))
    · cases e
  · split at e
    · rename_i em1 em2
      exact .inr (.inr (lists (by simp only [lstD, em1]) (by simp only [lstD, em2]) e))
    · cases e
  · cases e
theorem lo64_ok {i : Int} (h : lo64 i = true) : -(2 ^ 64) < i ∧ i < 2 ^ 64 := by
  unfold lo64 at h
  rw [Bool.and_eq_true, decide_eq_true_eq, decide_eq_true_eq] at h
  exact h
theorem op_repR : OpR X (binaryOp .Mult) (fun x y H Q => ∃ l k xs, x = .ref l ∧ y = .int k ∧ Rd H l (.lst xs) ∧ (-(2 ^ 63) ≤ k ∧ k < 2 ^ 63) ∧ xs.length * k.toNat ≤ sizeLine ∧ ∀ p, H p = none → Q (.ref p) (upd H p (.lst (List.replicate k.toNat xs).flatten))) := by
  intro pins s σ H x y v u Q I rx ry ⟨l, k, xs, ex, ey, hH, hk, hz, q⟩
  subst ex ey
  cases rx
  obtain ⟨t, rfl⟩ := ry
  obtain ⟨-, us, n, r, e⟩ := hH.ok I.hok
  have hu : us.toArray.size * k.toNat ≤ sizeLine := by rw [List.size_toArray, ← r.length]; exact hz
  have c1 : ¬ us.toArray.size * k.toNat > (2 ^ 63 - 1) / 8 := fun c => by
    have w : (sizeLine : Nat) ≤ (2 ^ 63 - 1) / 8 := by decide
    omega
  have c2 : ¬ (!Builtin.List.listFitsIndex k) = true := by simp [fitsIndex_both hk.1 hk.2]
  have c3 : ¬ Builtin.List.listTooLong (us.toArray.size * k.toNat) = true := by
    rw [notLongL hu]
    decide
  have same : ∀ m : Nat, List.foldl (fun a b => a ++ b) #[] (List.replicate (if us.toArray.isEmpty = true then 0 else m) us.toArray) = (List.replicate m us).flatten.toArray := fun m => by
    have f1 : ∀ j : Nat, List.foldl (fun a b => a ++ b) #[] (List.replicate j us.toArray) = (List.replicate j us).flatten.toArray := fun j => by simpa using foldl_rep us j []
    rw [f1]
    cases us <;> simp
  refine wpAny_binaryOp_repeat_ref (T := "list") (U := "int") (by decide) ⟨_, e, rfl⟩ (fun s' => typeIs_int s' k t) noFill_list_mul F.fills_int_mul F.slot_int_rmul repeat_list F.slot_int_index.lookup ?_
  refine call_meets F.slot_int_rmul (typeIs_int s k t) F.entry_int_rmul (F.args_int_rmul_2 _ _) (int___rmul___int_list k t l us.toArray n) ⟨e, rfl, ⟨_, e, rfl⟩, ?_⟩
  refine call_meets F.slot_list_mul ⟨_, e, rfl⟩ F.entry_list_mul (F.args_list_mul_2 _ _) (AutoListH.list___mul___list_int_3 l us.toArray n k t c2 c1 c3) ⟨e, ?_⟩
  rw [same]
  exact ⟨.ref _, _, I.lnew (t' := s.toks) (r.rep k.toNat)
        (by rw [PyProof.Rows.lm_len_rep_flat, Nat.mul_comm]; exact hz), rfl, q _ I.fresh⟩
theorem RepVs.rep {Z : Addr → Prop} {as : As} {H : Hp} {ds : List D} {vs : List V} (r : RepVs K u Z as H ds vs) : ∀ n : Nat, RepVs K u Z as H (List.replicate n ds).flatten (List.replicate n vs).flatten
  | 0 => .nil
  | n + 1 => by
    rw [List.replicate_succ, List.replicate_succ,
          List.flatten_cons, List.flatten_cons]
    exact r.append (r.rep n)
theorem g_mul : OpR X (binaryOp .Mult) (r2D X.K u mulF) := by
  refine (op_mul.or op_repR).gwk fun x y H Q ⟨Z, as, μ, dx, dy, d, s, rx, ry, e, q⟩ => ?_
  unfold mulF at e
  split at e
  · split at e
    · rename_i h
      cases e
      cases rx
      cases ry
      refine .inl ⟨_, _, rfl, rfl, ?_, q H _ (Same.refl H) (.int _)⟩
      rw [Bool.or_eq_true] at h
      exact h.elim (fun h => .inl (lo64_ok h)) fun h => .inr (lo64_ok h)
    · cases e
  · split at e
    · rename_i h
      cases e
      rw [Bool.and_eq_true, Bool.and_eq_true, decide_eq_true_eq, decide_eq_true_eq] at h
      cases ry
      cases rx with
      | lst h1 n1 r1 =>
        exact .inr ⟨_, _, _, rfl, rfl, h1, ⟨by omega, by omega⟩, by rw [← r1.length]; exact few_line h.2, fun w hw => q _ _ (up hw) (newLst s hw (r1.rep _))⟩
    · cases e
  · cases e

/-! ### == and in -/
theorem g_eq (hu : X.A.units + 64 < cLine) : OpR X (compareOp .Eq) (r2D X.K u eqF) := (op_eqD hu).gwk fun x y H Q ⟨Z, as, μ, dx, dy, d, s, rx, ry, e, q⟩ => by
  unfold eqF at e
  split at e
  · rename_i a b ea eb
    cases e
    obtain ⟨a1, a2⟩ := pyo_some ea
    obtain ⟨b1, b2⟩ := pyo_some eb
    exact ⟨a, b, dp_of s _ rx a1, dp_of s _ ry b1, a2, b2, q H _ (Same.refl H) (.bl _)⟩
  · cases e
theorem g_ne (hu : X.A.units + 64 < cLine) : OpR X (compareOp .NotEq) (r2D X.K u neF) := (op_neD hu).gwk fun x y H Q ⟨Z, as, μ, dx, dy, d, s, rx, ry, e, q⟩ => by
  unfold neF at e
  split at e
  · rename_i a b ea eb
    cases e
    obtain ⟨a1, a2⟩ := pyo_some ea
    obtain ⟨b1, b2⟩ := pyo_some eb
    exact ⟨a, b, dp_of s _ rx a1, dp_of s _ ry b1, a2, b2, q H _ (Same.refl H) (.bl _)⟩
  · cases e
end
end G

set_option Elab.async false
set_option linter.all false
set_option maxRecDepth 100000
/-! GI: in, is, places, cuts, built-ins. -/
namespace G
open PySem PySem.Spec
      PyProof.Rows L2
def inF : F2 := fun μ a b => match pyo μ a, pyo μ b with
  | some x, some y => match pyItems y with
    | some ys => some (.bl (ys.any fun z => PyData.eqv z x))
    | none => none
  | _, _ => none
def notInF : F2 := fun μ a b => match pyo μ a, pyo μ b with
  | some x, some y => match pyItems y with
    | some ys => some (.bl (!ys.any fun z => PyData.eqv z x))
    | none => none
  | _, _ => none
/-- is, is not: to None; two bools -/
def isF : F2 := fun _ a b => match a, b with
  | a, .non => (isNon a).map .bl
  | .bl x, .bl y => some (.bl (decide (x = y)))
  | _, _ => none
def isNotF : F2 := fun _ a b => match a, b with
  | a, .non => (isNon a).map fun b => .bl (!b)
  | .bl x, .bl y => some (.bl (!decide (x = y)))
  | _, _ => none
/-- a[i] -/
def ixF : F2 := fun μ a b => match b with
  | .int i => match a with
    | .tup xs => atI xs i
    | .lst xs => atI xs i
    | .str z => if few z.length then (atI z.cps.toList i).map fun c => .str ⟨#[c]⟩ else none
    | .loc l => match μ[l]? with
      | some (.lst xs) => atI xs i
      | _ => none
    | _ => none
  | _ => none
section
variable {X : Cx} {u : U} {K : PySem.W.Frag}
theorem g_in (hu : X.A.units + 65 < cLine) : OpR X (compareOp .In) (r2D X.K u inF) := by
  intro pins s σ H x y v w Q I rx ry ⟨Z, as, μ, dx, dy, d, rs, qx, qy, e, q⟩
  unfold inF at e
  split at e
  · rename_i a b ea eb
    obtain ⟨a1, a2⟩ := pyo_some ea
    obtain ⟨b1, b2⟩ := pyo_some eb
    obtain ⟨_, r1⟩ := Dp.reads I a x v (dp_of rs _ qx a1) rx
    obtain ⟨_, r2⟩ := Dp.reads I b y w (dp_of rs _ qy b1) ry
    split at e
    · rename_i ys ey
      cases e
      have fin : EP X pins σ Q (.bool (ys.any fun z => PyData.eqv z a)) s := ⟨.bl _, H, I, rfl, q H _ (Same.refl H) (.bl _)⟩
      cases b with
      | list zs =>
        cases ey
        exact SeqAt.in_list_reads r2 r1 (SeqAt.canLay_of_shaped b2) (SeqAt.canLay_of_shaped a2) (room_in_shaped a2 hu) fin
      | tuple zs =>
        cases ey
        exact SeqAt.in_tuple_reads r2 r1 (SeqAt.canLay_of_shaped b2) (SeqAt.canLay_of_shaped a2) (room_in_shaped a2 hu) fin
      | _ => cases ey
    · cases e
  · cases e
theorem g_notIn (hu : X.A.units + 65 < cLine) : OpR X (compareOp .NotIn) (r2D X.K u notInF) := by
  intro pins s σ H x y v w Q I rx ry ⟨Z, as, μ, dx, dy, d, rs, qx, qy, e, q⟩
  unfold notInF at e
  split at e
  · rename_i a b ea eb
    obtain ⟨a1, a2⟩ := pyo_some ea
    obtain ⟨b1, b2⟩ := pyo_some eb
    obtain ⟨_, r1⟩ := Dp.reads I a x v (dp_of rs _ qx a1) rx
    obtain ⟨_, r2⟩ := Dp.reads I b y w (dp_of rs _ qy b1) ry
    split at e
    · rename_i ys ey
      cases e
      have fin : EP X pins σ Q (.bool (!ys.any fun z => PyData.eqv z a)) s := ⟨.bl _, H, I, rfl, q H _ (Same.refl H) (.bl _)⟩
      cases b with
      | list zs =>
        cases ey
        exact SeqAt.notIn_list_reads r2 r1 (SeqAt.canLay_of_shaped b2) (SeqAt.canLay_of_shaped a2) (room_in_shaped a2 hu) fin
      | tuple zs =>
        cases ey
        exact SeqAt.notIn_tuple_reads r2 r1 (SeqAt.canLay_of_shaped b2) (SeqAt.canLay_of_shaped a2) (room_in_shaped a2 hu) fin
      | _ => cases ey
    · cases e
  · cases e
theorem isNon_of {Z : Addr → Prop} {as : As} {H : Hp} {d : D} {v : V} {b : Bool} (r : RepV K u Z as H d v) (e : isNon d = some b) : decide (v = .non) = b := by
  cases r <;> first
    | (cases e; done)
    | (cases e; rfl)
    | (cases e; simp)
theorem g_is : OpR X (compareOp .Is) (r2D X.K u isF) := by
  refine (op_isN.or op_isBl).gwk fun x y H Q ⟨Z, as, μ, dx, dy, d, s, rx, ry, e, q⟩ => ?_
  unfold isF at e
  split at e
  · rw [Option.map_eq_some_iff] at e
    obtain ⟨b, eb, rfl⟩ := e
    cases ry
    exact .inl ⟨rfl, by rw [isNon_of rx eb]; exact q H _ (Same.refl H) (.bl _)⟩
  · cases e
    cases rx
    cases ry
    exact .inr ⟨_, _, rfl, rfl, q H _ (Same.refl H) (.bl _)⟩
  · cases e
theorem g_isNot : OpR X (compareOp .IsNot) (r2D X.K u isNotF) := by
  refine (op_notN.or op_notBl).gwk fun x y H Q ⟨Z, as, μ, dx, dy, d, s, rx, ry, e, q⟩ => ?_
  unfold isNotF at e
  split at e
  · rw [Option.map_eq_some_iff] at e
    obtain ⟨b, eb, rfl⟩ := e
    cases ry
    exact .inl ⟨rfl, by rw [isNon_of rx eb]; exact q H _ (Same.refl H) (.bl _)⟩
  · cases e
    cases rx
    cases ry
    exact .inr ⟨_, _, rfl, rfl, q H _ (Same.refl H) (.bl _)⟩
  · cases e
theorem _root_.L2.IxR.gwk {r r' : R2} (h : IxR X r) (w : ∀ x y H Q, r' x y H Q → r x y H Q) : IxR X r' := fun value slice pins s σ H x y v u Q I rx ry q hs => h value slice pins s σ H x y v u Q I rx ry (w x y H Q q) hs
theorem atI_rep {Z : Addr → Prop} {as : As} {H : Hp} {ds : List D} {vs : List V} {i : Int} {d : D} (r : RepVs K u Z as H ds vs) (e : atI ds i = some d) : ∃ v, atI vs i = some v ∧ RepV K u Z as H d v := by
  unfold atI at e ⊢
  rw [← r.length]
  cases h : ixN ds.length i with
  | none => rw [h] at e; cases e
  | some j =>
    rw [h] at e
    exact r.get e
theorem g_ix : IxR X (r2D X.K u ixF) := by
  refine ix_seq.gwk fun x y H Q ⟨Z, as, μ, dx, dy, d, s, rx, ry, e, q⟩ => ?_
  unfold ixF at e
  split at e
  · cases ry
    split at e
    · cases rx with
      | tup h r =>
        obtain ⟨v, e1, r1⟩ := atI_rep r e
        exact .inr (.inl ⟨_, _, _, v, rfl, rfl, sqT_of h, e1, q H _ (Same.refl H) r1⟩)
    · cases rx with
      | lst h n r =>
        obtain ⟨v, e1, r1⟩ := atI_rep r e
        exact .inl ⟨_, _, _, v, rfl, rfl, .inl h, e1, q H _ (Same.refl H) r1⟩
    · split at e
      · rename_i hf
        rw [Option.map_eq_some_iff] at e
        obtain ⟨c, ec, rfl⟩ := e
        cases rx
        exact .inr (.inr ⟨_, _, c, rfl, rfl, few_line hf, ec, q H _ (Same.refl H) (.str _)⟩)
      · cases e
    · split at e
      · rename_i xs em
        obtain ⟨p, vs, rfl, _, e2, r⟩ := s.lst rx em
        obtain ⟨v, e1, r1⟩ := atI_rep r e
        exact .inl ⟨_, _, _, v, rfl, rfl, .inl (.inl e2), e1, q H _ (Same.refl H) r1⟩
      · cases e
    · cases e
  · cases e

/-! ### cuts -/
def cutD {α : Type} (xs : List α) (lo hi : Option Int) : List α := (xs.drop (HT.sIx xs.length 0 lo)).take (HT.sIx xs.length xs.length hi - HT.sIx xs.length 0 lo)
theorem cutD_all {α : Type} {xs : List α} {lo hi : Option Int} (h : HT.sIx xs.length 0 lo = 0 ∧ HT.sIx xs.length xs.length hi = xs.length) : cutD xs lo hi = xs := by
  unfold cutD
  rw [h.1, h.2, List.drop_zero, Nat.sub_zero, List.take_length]
abbrev SO1 := SM (Option Int)
def noneO : SO1 := fun _ μ => .ok none μ
def someO (m : SE) : SO1 := fun ρ μ => (m ρ μ).bind fun d μ1 => match d with
  | .int i => .ok (some i) μ1
  | _ => .no
/-- a list's, a tuple's cut -/
def cutF (μ : List SO) (a : D) (lo hi : Option Int) : Option D := match a with
  | .tup xs => some (.tup (cutD xs lo hi))
  | .lst xs => some (.lst (cutD xs lo hi))
  | .scr xs => some (.lst (cutD xs lo hi))
  | .loc l => match μ[l]? with
    | some (.lst xs) => some (.lst (cutD xs lo hi))
    | _ => none
  | _ => none
def cutM (a : SE) (lo hi : SO1) : SE := fun ρ μ => (a ρ μ).bind fun x μ1 => (lo ρ μ1).bind fun l μ2 => (hi ρ μ2).bind fun h μ3 => optM (cutF μ3 x l h) μ3
def tmO (K : PySem.W.Frag) (u : U) (W : WX) (m : SO1) : L2.St → Hp → (Option Int → Hp → Prop) → Prop := fun σ H Q => ∃ Z as ρ μ, Rel K u Z as ρ μ σ H ∧ Post K u W Z ρ σ as H (m ρ μ) fun _ H' _ b => Q b H'
theorem cut_rep {Z : Addr → Prop} {as : As} {H : Hp} {ds : List D} {vs : List V} (r : RepVs K u Z as H ds vs) (lo hi : Option Int) : RepVs K u Z as H (cutD ds lo hi) (cutV vs lo hi) := by
  unfold cutD cutV
  rw [r.length]
  exact (r.drop _).take _
theorem go_none {W : WX} : PO X none (fun σ H Q => tmO X.K u W noneO σ H Q) := ⟨fun pins s σ H Q I ⟨Z, as, ρ, μ, R, h⟩ => po_none.run pins s σ H Q I (Post.now (a := none) h R)⟩
theorem go_some {W : WX} {e : Expr} {m : SE} (h : PE X e (tm X.K u W m)) : PO X (some e) (fun σ H Q => tmO X.K u W (someO m) σ H Q) := by
  refine ⟨fun pins s σ H Q I ⟨Z, as, ρ, μ, R, hp⟩ => (po_some h).run pins s σ H Q I ⟨Z, as, ρ, μ, R, hp.bind.mono fun as1 H1 μ1 d lt R1 h1 v q => ?_⟩⟩
  cases q with
  | int i => exact ⟨i, rfl, Post.now (a := some i) h1 R1⟩
  | _ => exact h1.elim
theorem sl_both : SlR X (fun x lo hi H Q => rSlL X.K x lo hi H Q ∨ rSlA X.K x lo hi H Q) := sl_list.or sl_tupA
theorem ge_cut {W : WX} {e : Expr} {lo hi : Option Expr} {m : SE} {ml mh : SO1} {p2 pos : Pos} (he : PE X e (tm X.K u W m)) (hl : PO X lo (fun σ H Q => tmO X.K u W ml σ H Q)) (hh : PO X hi (fun σ H Q => tmO X.K u W mh σ H Q)) : PE X (.Subscript e (.Slice lo hi none p2) pos) (tm X.K u W (cutM m ml mh)) := by
  refine (pe_slice sl_both he hl hh).gwk fun σ H Q ⟨Z, as, ρ, μ, R, h⟩ => ?_
  refine ⟨Z, as, ρ, μ, R, h.bind.mono fun as1 H1 μ1 d lt R1 h1 v q => ⟨Z, as1, ρ, μ1, R1, h1.bind.mono fun as2 H2 μ2 l lt2 R2 h2 => ⟨Z, as2, ρ, μ2, R2, h2.bind.mono fun as3 H3 μ3 hh lt3 R3 h3 => ?_⟩⟩⟩
  obtain ⟨w, e, k⟩ := h3.opt R3
  have q' := q.later (lt2.trans lt3)
  unfold cutF at e
  split at e
  · cases e
    cases q' with
    | tup hp r =>
      refine .inr ⟨_, _, rfl, sqT_of hp, fun hw => ?_, fun hn p hf => k _ _ (up hf) (newTup R3.s hf (cut_rep r _ _))⟩
      rw [← r.length] at hw
      refine k H3 _ (Same.refl _) ?_
      rw [cutD_all hw]
      exact .tup hp r
  · cases e
    cases q' with
    | lst hp n r => exact .inl ⟨_, _, rfl, .inl hp, fun p hf => k _ _ (up hf) (newLst R3.s hf (cut_rep r _ _))⟩
  · cases e
    cases q' with
    | scr hp r => exact .inl ⟨_, _, rfl, hp.elim (fun q => .inl q.1) .inr, fun p hf => k _ _ (up hf) (newLst R3.s hf (cut_rep r _ _))⟩
  · split at e
    · rename_i xs em
      cases e
      obtain ⟨p, vs, rfl, _, e2, r⟩ := R3.s.lst q' em
      exact .inl ⟨_, _, rfl, .inl (.inl e2), fun p hf => k _ _ (up hf) (newLst R3.s hf (cut_rep r _ _))⟩
    · cases e
  · cases e
/-- xs[::-1] of a list -/
def revF : F1 := fun μ a => match lstD μ a with
  | some xs => some (.lst xs.reverse)
  | none => none
theorem RepVs.reverse {Z : Addr → Prop} {as : As} {H : Hp} : ∀ {ds : List D} {vs : List V}, RepVs K u Z as H ds vs → RepVs K u Z as H ds.reverse vs.reverse
  | _, _, .nil => .nil
  | _, _, .cons h t => by
    rw [List.reverse_cons,
          List.reverse_cons]
    exact t.reverse.append (.cons h .nil)
theorem ge_rev {W : WX} {e : Expr} {m : SE} {k : Nat} {p1 p2 p3 pos : Pos} (he : PE X e (tm X.K u W m)) : PE X (.Subscript e (.Slice none none (some (.UnaryOp .USub (.Constant (.int 1) k p1) p2)) p3) pos) (tm X.K u W (op1M revF m)) := by
  refine (pe_revL he).gwk fun σ H Q ⟨Z, as, ρ, μ, R, h⟩ => ⟨Z, as, ρ, μ, R, h.bind.mono fun as1 H1 μ1 d lt R1 h1 v q => ?_⟩
  obtain ⟨w, e, kk⟩ := h1.opt R1
  unfold revF at e
  split at e
  · rename_i xs ex
    cases e
    obtain ⟨p, vs, rfl, hp, r⟩ := lstD_of R1.s q ex
    exact ⟨p, vs, rfl, .inl hp, fun p hf => kk _ _ (up hf) (newLst R1.s hf r.reverse)⟩
  · cases e

/-! ### displays -/
def starM (m : SE) (n : SM (List D)) : SM (List D) := fun ρ μ => (m ρ μ).bind fun d μ1 => match d with
  | .tup xs => (n ρ μ1).map (xs ++ ·)
  | .lst xs => (n ρ μ1).map (xs ++ ·)
  | _ => .no
theorem ga_star {W : WX} {e : Expr} {es : List Expr} {p : Pos} {m : SE} {n : SM (List D)} (ha : PE X e (tm X.K u W m)) (hr : PA X es (tmA X.K u W n)) (hs : starEach (.Starred e p :: es) X.env = (true, eval e X.env) :: starEach es X.env := by rfl) : PA X (.Starred e p :: es) (tmA X.K u W (starM m n)) := by
  refine (StX.pa_star ha hr hs).gwk fun σ H Q ⟨Z, as, ρ, μ, R, h⟩ => ⟨Z, as, ρ, μ, R, h.bind.mono fun as1 H1 μ1 d lt R1 h1 v q => ?_⟩
  cases q with
  | tup hp r => exact ⟨_, _, rfl, .inl (sqT_of hp), Z, as1, ρ, μ1, R1, h1.map.mono fun as2 H2 μ2 ds lt2 R2 h2 vs qs => h2 _ ((r.later lt2).append qs)⟩
  | lst hp n r => exact ⟨_, _, rfl, .inr (.inl hp), Z, as1, ρ, μ1, R1, h1.map.mono fun as2 H2 μ2 ds lt2 R2 h2 vs qs => h2 _ ((r.later lt2).append qs)⟩
  | _ => exact h1.elim
def tupM (m : SM (List D)) : SE := fun ρ μ => (m ρ μ).bind fun ds μ1 => if few ds.length then .ok (.tup ds) μ1 else .no
def lstM (m : SM (List D)) : SE := fun ρ μ => (m ρ μ).bind fun ds μ1 => if few ds.length then .ok (.lst ds) μ1 else .no
/-- a new list that may change -/
def newM (m : SM (List D)) : SE := fun ρ μ => (m ρ μ).bind fun ds μ1 => if few ds.length then .ok (.loc μ1.length) (μ1 ++ [.lst ds]) else .no
def newDM : SE := fun _ μ => .ok (.loc μ.length) (μ ++ [.dic []])
def dicM : SE := fun _ μ => .ok (.dic []) μ
theorem ge_tup {W : WX} {es : List Expr} {m : SM (List D)} {x1} {pos : Pos} (h : PA X es (tmA X.K u W m)) : PE X (.Tuple es x1 pos) (tm X.K u W (tupM m)) := by
  refine (pe_tup h).gwk fun σ H Q ⟨Z, as, ρ, μ, R, h⟩ => ⟨Z, as, ρ, μ, R, h.bind.mono fun as1 H1 μ1 ds lt R1 h1 vs q => ?_⟩
  split at h1
  · rename_i hf
    refine ⟨by rw [← q.length]; exact few_line hf, fun p hp => ?_⟩
    exact h1 as1 _ (.new hp) (R1.new hp) _ (newTup R1.s hp q)
  · exact h1.elim
theorem ge_lst {W : WX} {es : List Expr} {m : SM (List D)} {pos : Pos} (h : PA X es (tmA X.K u W m)) : PE X (.List es pos) (tm X.K u W (lstM m)) := by
  refine (pe_lst h).gwk fun σ H Q ⟨Z, as, ρ, μ, R, h⟩ => ⟨Z, as, ρ, μ, R, h.bind.mono fun as1 H1 μ1 ds lt R1 h1 vs q => ?_⟩
  split at h1
  · rename_i hf
    refine ⟨by rw [← q.length]; exact few_line hf, fun p hp => ?_⟩
    exact h1 as1 _ (.new hp) (R1.new hp) _ (newLst R1.s hp q)
  · exact h1.elim
theorem growL {Z : Addr → Prop} {as : As} {ρ : Env} {μ : List SO} {σ : L2.St} {H : Hp} (R : Rel X.K u Z as ρ μ σ H) {p : Addr} {o : SO} {ho : HO} (hp : H p = none) (q : RepO X.K u Z (as ++ [some p]) (upd H p ho) (some p) o) (hd : o ≠ .dead) :
    Rel X.K u Z (as ++ [some p]) ρ (μ ++ [o]) σ (upd H p ho) ∧ Later as H (as ++ [some p]) (upd H p ho) ∧ RepV X.K u Z (as ++ [some p]) (upd H p ho) (.loc μ.length) (.ref p) := by
  obtain ⟨g, lt⟩ := R.s.grow hp q hd
  refine ⟨R.mono lt g, lt, .loc (by rw [List.length_append, R.s.len]; simp) fun w e => ?_⟩
  rw [← R.s.len, List.getElem?_append_right (Nat.le_refl _), Nat.sub_self] at e
  cases e
  rfl
theorem growLater {as : As} {H : Hp} {p : Addr} {ho : HO} (hp : H p = none) (tr : ∀ l : Nat, as[l]? ≠ some (some p)) : Later as H (as ++ [some p]) (upd H p ho) := by
  refine ⟨by simp, fun l q hl e => by rwa [List.getElem?_append_left hl] at e, fun q o e _ n => ⟨by rw [upd_ne (ne_of_none e hp)]; exact e, fun l z => ?_⟩⟩
  rw [List.getElem?_append] at z
  split at z
  · exact n l z
  · cases h : l - as.length with
    | zero => rw [h] at z; cases z; rw [hp] at e; cases e
    | succ m => rw [h] at z; cases z
theorem RelS.nof {Z : Addr → Prop} {as : As} {μ : List SO} {H : Hp} (R : RelS K u Z as μ H) {p : Addr} (hp : H p = none) (l : Nat) : as[l]? ≠ some (some p) := fun e => R.fresh hp (.inr ⟨l, e⟩)
theorem ge_new {W : WX} {es : List Expr} {m : SM (List D)} {pos : Pos} (h : PA X es (tmA X.K u W m)) : PE X (.List es pos) (tm X.K u W (newM m)) := by
  refine (pe_lst h).gwk fun σ H Q ⟨Z, as, ρ, μ, R, h⟩ => ⟨Z, as, ρ, μ, R, h.bind.mono fun as1 H1 μ1 ds lt R1 h1 vs q => ?_⟩
  split at h1
  · rename_i hf
    refine ⟨by rw [← q.length]; exact few_line hf, fun p hp => ?_⟩
    obtain ⟨R2, lt2, r2⟩ := growL R1 (o := .lst ds) (ho := .lst vs) hp ⟨p, vs, rfl, up_at, q.later (growLater hp (R1.s.nof hp))⟩ (fun z => by cases z)
    exact h1 _ _ lt2 R2 _ r2
  · exact h1.elim
theorem ge_newD {W : WX} {pos : Pos} : PE X (.Dict [] [] pos) (tm X.K u W newDM) := by
  refine pe_dnewK.gwk fun σ H Q ⟨Z, as, ρ, μ, R, h⟩ p hp => ?_
  obtain ⟨R2, lt2, r2⟩ := growL R (o := .dic []) (ho := .dK []) hp ⟨p, [], rfl, up_at, .nil⟩ (fun z => by cases z)
  exact h _ _ lt2 R2 _ r2
theorem ge_dic {W : WX} {pos : Pos} : PE X (.Dict [] [] pos) (tm X.K u W dicM) := by
  refine pe_dnewK.gwk fun σ H Q ⟨Z, as, ρ, μ, R, h⟩ p hp => ?_
  exact h as _ (.new hp) (R.new hp) _ (.dic up_at (R.s.fresh hp) .nil)
end
end G

set_option Elab.async false
set_option linter.all false
set_option maxRecDepth 100000
/-! GJ: calls of built-ins, by value. -/
namespace G
open PySem PySem.Spec
      PyProof.Rows L2
/-- the items of a list or tuple -/
def seqD (μ : List SO) : D → Option (List D)
  | .tup xs => some xs
  | d => lstD μ d
def boolsD : List D → Option (List Bool)
  | [] => some []
  | .bl b :: ds => (boolsD ds).map (b :: ·)
  | _ => none
def intsD : List D → Option (List Int)
  | [] => some []
  | .int i :: ds => (intsD ds).map (i :: ·)
  | _ => none
def lenF : FA := fun μ a => match a with
  | [.str x] => if few x.length then some (.int x.length) else none
  | [d] => (seqD μ d).map fun xs => .int xs.length
  | _ => none
def allF : FA := fun μ a => match a with
  | [d] => ((lstD μ d).bind boolsD).map fun bs => .bl (bs.all id)
  | _ => none
def anyF : FA := fun μ a => match a with
  | [d] => ((lstD μ d).bind boolsD).map fun bs => .bl (bs.any id)
  | _ => none
def sumF : FA := fun μ a => match a with
  | [d] => ((lstD μ d).bind intsD).map fun is => .int is.sum
  | _ => none
def maxI : List Int → Option Int
  | [] => none
  | i :: is => match maxI is with
    | none => some i
    | some j => if j ≤ i then some i else some j
def maxF : FA := fun μ a => match a with
  | [d] => (((lstD μ d).bind intsD).bind maxI).map .int
  | _ => none
def max2F : FA := fun _ a => match a with
  | [.int i, .int j] => some (.int (if j > i then j else i))
  | _ => none
def min2F : FA := fun _ a => match a with
  | [.int i, .int j] => some (.int (if j < i then j else i))
  | _ => none
def absF : FA := fun _ a => match a with
  | [.int i] => some (.int (if i < 0 then -i else i))
  | _ => none
def intF : FA := fun _ a => match a with
  | [.int i] => some (.int i)
  | [.bl b] => some (.int (if b then 1 else 0))
  | _ => none
def boolF : FA := fun _ a => match a with
  | [.int i] => some (.bl (i != 0))
  | [.bl b] => some (.bl b)
  | _ => none
def tupleF : FA := fun μ a => match a with
  | [d] => (seqD μ d).map .tup
  | _ => none
def listF : FA := fun μ a => match a with
  | [d] => (seqD μ d).map .lst
  | _ => none
/-- a datum's type -/
def tyD (μ : List SO) : D → Option String
  | .non => some "NoneType"
  | .bl _ => some "bool"
  | .int _ => some "int"
  | .str _ => some "str"
  | .tup _ => some "tuple"
  | .lst _ => some "list"
  | .dic _ => some "dict"
  | .loc l => match μ[l]? with
    | some (.lst _)
          => some "list"
    | some (.dic _) => some "dict"
    | _ => none
  | _ => none
def isaB (a b : String) : Bool := a == b || (a == "bool" && b == "int")
def kinds : List String := ["NoneType", "bool", "int", "str", "tuple", "list", "dict"]
def isaF : FA := fun μ a => match a with
  | [d, .ty n] => (tyD μ d).bind fun t => if kinds.contains n then some (.bl (isaB t n)) else none
  | [d, .tup [.ty n, .ty m]] => (tyD μ d).bind fun t => if kinds.contains n && kinds.contains m then some (.bl (isaB t n || isaB t m)) else none
  | _ => none
section
variable {X : Cx} {u : U} {K : PySem.W.Frag} {Z : Addr → Prop} {as : As} {μ : List SO} {H : Hp}
theorem seqD_of (s : RelS K u Z as μ H) {d : D} {v : V} {xs : List D} (r : RepV K u Z as H d v) (e : seqD μ d = some xs) : ∃ p vs, v = .ref p ∧ (SqL K H p vs ∨ SqT K H p vs) ∧ RepVs K u Z as H xs vs := by
  unfold seqD at e
  split at e
  · cases e
    cases r with
    | tup h r => exact ⟨_, _, rfl, .inr (sqT_of h), r⟩
  · obtain ⟨p, vs, rfl, h, q⟩ := lstD_of s r e
    exact ⟨p, vs, rfl, .inl (.inl h), q⟩
theorem RepVs.one {d : D} {xs : List V} (r : RepVs K u Z as H [d] xs) : ∃ x, xs = [x] ∧ RepV K u Z as H d x := by
  cases r with
  | cons h t => cases t; exact ⟨_, rfl, h⟩
theorem RepVs.two {d e : D} {xs : List V} (r : RepVs K u Z as H [d, e] xs) : ∃ x y, xs = [x, y] ∧ RepV K u Z as H d x ∧ RepV K u Z as H e y := by
  cases r with
  | cons h t => obtain ⟨y, rfl, q⟩ := t.one; exact ⟨_, y, rfl, h, q⟩
theorem bools_of : ∀ {ds : List D} {vs : List V} {bs : List Bool}, RepVs K u Z as H ds vs → boolsD ds = some bs → vs = bs.map V.bl
  | [], _, _, .nil, e => by cases e; rfl
  | d :: ds, _, _, .cons r t, e => by
    unfold boolsD at e
    split at e
    · rename_i h; cases h
    · rename_i h
      cases h
      rw [Option.map_eq_some_iff] at e
      obtain ⟨bs, eb, rfl⟩ := e
      cases r
      rw [bools_of t eb]
      rfl
    · cases e
theorem ints_of : ∀ {ds : List D} {vs : List V} {bs : List Int}, RepVs K u Z as H ds vs → intsD ds = some bs → vs = bs.map V.int
  | [], _, _, .nil, e => by cases e; rfl
  | d :: ds, _, _, .cons r t, e => by
    unfold intsD at e
    split at e
    · rename_i h; cases h
    · rename_i h
      cases h
      rw [Option.map_eq_some_iff] at e
      obtain ⟨bs, eb, rfl⟩ := e
      cases r
      rw [ints_of t eb]
      rfl
    · cases e
theorem maxI_of : ∀ {is : List Int} {m : Int}, maxI is = some m → m ∈ is ∧ ∀ y ∈ is, y ≤ m
  | [], _, e => by cases e
  | i :: is, m, e => by
    unfold maxI at e
    split at e
    · rename_i h
      cases e
      cases is with
      | nil => simp
      | cons j js =>
        unfold maxI at h
        split at h
        · cases h
        · split at h <;> cases h
    · rename_i j h
      obtain ⟨h1, h2⟩ := maxI_of h
      split at e
      · rename_i hj
        cases e
        refine ⟨.head _, fun y hy => ?_⟩
        rcases List.mem_cons.mp
              hy with rfl | hy
        · omega
        · have := h2 y hy
          omega
      · rename_i hj
        cases e
        refine ⟨.tail _ h1, fun y hy => ?_⟩
        rcases List.mem_cons.mp
              hy with rfl | hy
        · omega
        · exact h2 y hy
theorem call_gwk {g : Value} {r : List V → Hp → VK → Prop} {f : FA} (h : CallR X g r) (w : ∀ {Z as μ ds d xs H Q}, RelS X.K u Z as μ H → RepVs X.K u Z as H ds xs → f μ ds = some d → (∀ H' z, Same H H' → RepV X.K u Z as H' d z → Q z H') → r xs H Q) : CallR X g (rAD X.K u f) :=
  h.gwk fun xs H Q ⟨Z, as, μ, ds, d, s, r, e, q⟩ => w s r e q
theorem g_len : CallR X (.builtin "len") (rAD X.K u lenF) := call_gwk call_len fun {Z as μ ds d xs H Q} s r e q => by
  unfold lenF at e
  split at e
  · split at e
    · rename_i hf
      cases e
      obtain ⟨x, rfl, rx⟩ := r.one
      cases rx
      exact ⟨_, _, rfl, ⟨few_line hf, rfl⟩, q H _ (Same.refl H) (.int _)⟩
    · cases e
  · rw [Option.map_eq_some_iff] at e
    obtain ⟨ys, ey, rfl⟩ := e
    obtain ⟨x, rfl, rx⟩ := r.one
    obtain ⟨p, vs, rfl, h, rv⟩ := seqD_of s rx ey
    refine ⟨_, ys.length, rfl, ?_, q H _ (Same.refl H) (.int _)⟩
    rw [rv.length]
    exact h.elim (fun h => .inl ⟨_, h, rfl⟩) fun h => .inr ⟨_, h, rfl⟩
  · cases e
theorem lsts (s : RelS K u Z as μ H) {β : Type} {d : D} {xs : List V} {bs : List β} {c : List D → Option (List β)} {k : β → V} (hc : ∀ {ds vs bs}, RepVs K u Z as H ds vs → c ds = some bs → vs = bs.map k) (r : RepVs K u Z as H [d] xs) (e : (lstD μ d).bind c = some bs) : ∃ a, xs = [V.ref a] ∧ SqL K H a (bs.map k) := by
  rw [Option.bind_eq_some_iff] at e
  obtain ⟨ys, e1, e2⟩ := e
  obtain ⟨x, rfl, rx⟩ := r.one
  obtain ⟨p, vs, rfl, h, rv⟩ := lstD_of s rx e1
  exact ⟨p, rfl, .inl (by rw [← hc rv e2]; exact h)⟩
theorem g_all (hc : X.calm = true) : CallR X (.builtin "all") (rAD X.K u allF) := call_gwk (cr_all hc) fun {Z as μ ds d xs H Q} s r e q => by
  unfold allF at e
  split at e
  · rw [Option.map_eq_some_iff] at e
    obtain ⟨bs, eb, rfl⟩ := e
    obtain ⟨a, rfl, h⟩ := lsts s (k := V.bl) bools_of r eb
    exact ⟨a, bs, rfl, h, q H _ (Same.refl H) (.bl _)⟩
  · cases e
theorem g_any (hc : X.calm = true) : CallR X (.builtin "any") (rAD X.K u anyF) := call_gwk (cr_any hc) fun {Z as μ ds d xs H Q} s r e q => by
  unfold anyF at e
  split at e
  · rw [Option.map_eq_some_iff] at e
    obtain ⟨bs, eb, rfl⟩ := e
    obtain ⟨a, rfl, h⟩ := lsts s (k := V.bl) bools_of r eb
    exact ⟨a, bs, rfl, h, q H _ (Same.refl H) (.bl _)⟩
  · cases e
theorem g_sum (hc : X.calm = true) : CallR X (.builtin "sum") (rAD X.K u sumF) := call_gwk (cr_sum hc) fun {Z as μ ds d xs H Q} s r e q => by
  unfold sumF at e
  split at e
  · rw [Option.map_eq_some_iff] at e
    obtain ⟨bs, eb, rfl⟩ := e
    obtain ⟨a, rfl, h⟩ := lsts s (k := V.int) ints_of r eb
    exact ⟨a, bs, rfl, h, q H _ (Same.refl H) (.int _)⟩
  · cases e
theorem g_max (hc : X.calm = true) : CallR X (.builtin "max") (rAD X.K u maxF) := call_gwk (cr_max hc) fun {Z as μ ds d xs H Q} s r e q => by
  unfold maxF at e
  split at e
  · rw [Option.map_eq_some_iff] at e
    obtain ⟨m, em, rfl⟩ := e
    rw [Option.bind_eq_some_iff] at em
    obtain ⟨bs, eb, em⟩ := em
    obtain ⟨a, rfl, h⟩ := lsts s (k := V.int) ints_of r eb
    obtain ⟨h1, h2⟩ := maxI_of em
    refine ⟨a, bs, rfl, h, List.length_pos_of_mem h1, fun m' k1 k2 => ?_⟩
    have : m' = m := Int.le_antisymm (h2 _ k1) (k2 _ h1)
    subst this
    exact q H _ (Same.refl H) (.int _)
  · cases e
theorem g_max2 (hc : X.calm = true) : CallR X (.builtin "max") (rAD X.K u max2F) := call_gwk (call_max2 hc) fun {Z as μ ds d xs H Q} s r e q => by
  unfold max2F at e
  split at e
  · cases e
    obtain ⟨x, y, rfl, rx, ry⟩ := r.two
    cases rx
    cases ry
    exact ⟨_, _, rfl, q H _ (Same.refl H) (.int _)⟩
  · cases e
theorem g_min2 (hc : X.calm = true) : CallR X (.builtin "min") (rAD X.K u min2F) := call_gwk (call_min2 hc) fun {Z as μ ds d xs H Q} s r e q => by
  unfold min2F at e
  split at e
  · cases e
    obtain ⟨x, y, rfl, rx, ry⟩ := r.two
    cases rx
    cases ry
    exact ⟨_, _, rfl, q H _ (Same.refl H) (.int _)⟩
  · cases e
theorem g_abs : CallR X (.builtin "abs") (rAD X.K u absF) := call_gwk call_abs fun {Z as μ ds d xs H Q} s r e q => by
  unfold absF at e
  split at e
  · cases e
    obtain ⟨x, rfl, rx⟩ := r.one
    cases rx
    exact ⟨_, rfl, q H _ (Same.refl H) (.int _)⟩
  · cases e
theorem g_int : CallR X (.type "int") (rAD X.K u intF) := call_gwk call_int1 fun {Z as μ ds d xs H Q} s r e q => by
  unfold intF at e
  split at e
  · cases e
    obtain ⟨x, rfl, rx⟩ := r.one
    cases rx
    exact .inl ⟨_, rfl, q H _ (Same.refl H) (.int _)⟩
  · cases e
    obtain ⟨x, rfl, rx⟩ := r.one
    cases rx
    exact .inr ⟨_, rfl, q H _ (Same.refl H) (.int _)⟩
  · cases e
theorem g_boolT : CallR X (.type "bool") (rAD X.K u boolF) := call_gwk call_bool1 fun {Z as μ ds d xs H Q} s r e q => by
  unfold boolF at e
  split at e
  · cases e
    obtain ⟨x, rfl, rx⟩ := r.one
    cases rx
    exact .inl ⟨_, rfl, q H _ (Same.refl H) (.bl _)⟩
  · cases e
    obtain ⟨x, rfl, rx⟩ := r.one
    cases rx
    exact .inr ⟨_, rfl, q H _ (Same.refl H) (.bl _)⟩
  · cases e
theorem g_tuple : CallR X (.type "tuple") (rAD X.K u tupleF) := call_gwk call_tuple_of fun {Z as μ ds d xs H Q} s r e q => by
  unfold tupleF at e
  split at e
  · rw [Option.map_eq_some_iff] at e
    obtain ⟨ys, ey, rfl⟩ := e
    obtain ⟨x, rfl, rx⟩ := r.one
    unfold seqD at ey
    split at ey
    · cases ey
      cases rx with
      | tup h r' => exact ⟨_, _, rfl, .inr ⟨sqT_of h, q H _ (Same.refl H) (.tup h r')⟩⟩
    · obtain ⟨p, vs, rfl, h, rv⟩ := lstD_of s rx ey
      exact ⟨p, vs, rfl, .inl ⟨.inl h, fun w hw => q _ _ (up hw) (newTup s hw rv)⟩⟩
  · cases e
theorem g_list : CallR X (.type "list") (rAD X.K u listF) := call_gwk call_list_of fun {Z as μ ds d xs H Q} s r e q => by
  unfold listF at e
  split at e
  · rw [Option.map_eq_some_iff] at e
    obtain ⟨ys, ey, rfl⟩ := e
    obtain ⟨x, rfl, rx⟩ := r.one
    obtain ⟨p, vs, rfl, h, rv⟩ := seqD_of s rx ey
    exact ⟨p, vs, rfl, h, fun w hw => q _ _ (up hw) (newLst s hw rv)⟩
  · cases e
theorem isa_kit {t n : String} (ht : kinds.contains t = true) (hn : kinds.contains n = true) : PySem.W.kitOne K (.type t) (.type n) = some (isaB t n) := by
  have all : ∀ t ∈ kinds, ∀ n ∈ kinds, kitB t n = some (isaB t n) := by decide +kernel
  exact kit_ty (all t (List.contains_iff_mem.mp ht) n (List.contains_iff_mem.mp hn))
theorem tyD_of (s : RelS K u Z as μ H) {d : D} {v : V} {t : String} (r : RepV K u Z as H d v) (e : tyD μ d = some t) : TyX K H v (.type t) ∧ kinds.contains t = true := by
  cases r with
  | non => cases e; exact ⟨.base .non, by decide⟩
  | bl b => cases e; exact ⟨.base (.bl b), by decide⟩
  | int i => cases e; exact ⟨.base (.int i), by decide⟩
  | str x => cases e; exact ⟨.base (.str x), by decide⟩
  | tup h r =>
    cases e
    refine ⟨?_, by decide⟩
    rcases h with ⟨h | ⟨o, h⟩, _⟩ | ⟨o, its, n, h1, h2, _⟩
    · exact .base (.tup h)
    · exact .fTuple h
    · exact .kTuple h1 h2
  | lst h n r =>
    cases e
    refine ⟨?_, by decide⟩
    rcases h with h | ⟨o, h⟩
    · exact .base (.lst h)
    · exact .base (.frz h)
  | dic h n r => cases e; exact ⟨.base (.dK h), by decide⟩
  | loc hl h =>
    simp only [tyD] at e
    split at e
    · rename_i xs em
      cases e
      obtain ⟨p, vs, rfl, _, e2, _⟩ := s.lst (.loc hl h) em
      exact ⟨.base (.lst e2), by decide⟩
    · rename_i xs em
      cases e
      obtain ⟨p, vs, rfl, _, e2, _⟩ := s.dic (.loc hl h) em
      exact ⟨.base (.dK e2), by decide⟩
    · cases e
  | _ => cases e
theorem call_isiF : CallR X (.builtin "isinstance") (fun xs H Q => ∃ (x : V) (tp : Addr) (ob : Obj) (cs : List V) (t : Value) (ws : List Value) (b : Bool), xs = [x, .ref tp] ∧ H tp = some (.frz ob (.tup cs)) ∧ Paired ClsV cs ws ∧ TyX X.K H x t ∧ PySem.W.kitAny X.K t ws = some b ∧ Q (.bl b) H) := by
  intro pins s σ H xs us Q I r ⟨x, tp, ob, cs, t, ws, b, ex, hT, k, ty, e, q⟩
  subst ex
  obtain ⟨a1, a2, ea, r1, r2⟩ := vals2 r
  subst ea
  cases (show a2 = Value.ref tp from r2)
  obtain ⟨P, Z, p, hx⟩
        := kit_of I r1 ty
  obtain ⟨_, _, its, rv, o, h1, h2, n, h3⟩ := (show ObjOk X.prog X.w H s.heap tp (.frz ob (.tup cs)) from I.hok tp _ hT)
  cases ClsV.all k rv
  obtain ⟨oc, od, dt, sl⟩ := o
  simp only at h2 h3
  subst h2 h3
  exact PySem.W.kia_tup Z I.kIn p h1 e hx
        fun tk => ⟨.bl b, H, I.tok tk, rfl, q⟩
theorem tys_vals {n m : String} {us : List Value} (r : Vals [V.ty n, V.ty m] us) : us = [.type n, .type m] := by
  obtain ⟨a1, a2, rfl, r1, r2⟩ := vals2 r
  cases (show a1 = Value.type n from r1)
  cases (show a2 = Value.type m from r2)
  rfl
theorem g_isa : CallR X (.builtin "isinstance") (rAD X.K u isaF) := call_gwk (call_isi.or ((call_isiT.or call_isiF).or call_isiK)) fun {Z as μ ds d xs H Q} s r e q => by
  unfold isaF at e
  split at e
  · rw [Option.bind_eq_some_iff] at e
    obtain ⟨t, et, e⟩ := e
    split at e
    · rename_i hn
      cases e
      obtain ⟨x, y, rfl, rx, ry⟩ := r.two
      cases ry
      obtain ⟨tx, ht⟩ := tyD_of s rx et
      exact .inl ⟨_, _, _, _, _, rfl, .ty _, tx, isa_kit ht hn, q H _ (Same.refl H) (.bl _)⟩
    · cases e
  · rename_i d0 n m
    rw [Option.bind_eq_some_iff] at e
    obtain ⟨t, et, e⟩ := e
    split at e
    · rename_i hn
      rw [Bool.and_eq_true] at hn
      cases e
      obtain ⟨x, y, rfl, rx, ry⟩ := r.two
      obtain ⟨tx, ht⟩ := tyD_of s rx et
      have k2 : PySem.W.kitAny X.K (.type t) [.type m] = some (isaB t m) := by
        cases h : isaB t m with
        | true => exact kitAny_cons (by rw [isa_kit ht hn.2, h]) (fun z => by cases z) (fun _ => rfl)
        | false => exact kitAny_cons (by rw [isa_kit ht hn.2, h]) (fun _ => kitAny_nil) (fun z => z)
      have both : PySem.W.kitAny X.K (.type t) [.type n, .type m] = some (isaB t n || isaB t m) := by
        cases h : isaB t n with
        | true => exact kitAny_cons (by rw [isa_kit ht hn.1, h]) (fun z => by cases z) (fun _ => rfl)
        | false => exact kitAny_cons (by rw [isa_kit ht hn.1, h]) (fun _ => by rw [k2]; rfl) (fun z => by cases z)
      have fin := q H _ (Same.refl H) (.bl _)
      cases ry with
      | tup h r2 =>
        obtain ⟨v1, v2, rfl, q1, q2⟩ := r2.two
        cases q1
        cases q2
        rcases h with ⟨h | ⟨o, h⟩, _⟩ | ⟨⟨oc, od, dt, sl⟩, its, c, h1, h2, h3, _, h4⟩
        · exact .inr (.inl (.inl ⟨_, _, _, _, _, _, rfl, h, .cons (.ty _) (.cons (.ty _) .nil), tx, both, fin⟩))
        · exact .inr (.inl (.inr ⟨_, _, _, _, _, _, _, rfl, h, .cons (.ty _) (.cons (.ty _) .nil), tx, both, fin⟩))
        · simp only at h2 h3
          subst h2 h3
          have e1 := tys_vals h4
          refine .inr (.inr ⟨_, _, od, [.type n, .type m], c, sl, _, _, rfl, ?_, tx, both, fin⟩)
          rw [h1, ← e1]
    · cases e
  · cases e
end
end G

set_option Elab.async false
set_option linter.all false
set_option maxRecDepth 100000
/-! GK: sorted(..) by value, any alike data. -/
namespace G
open PySem PySem.Spec
      PyProof.Rows L2
/-! ### sorting by inserting -/
def ins {α : Type} (le : α → α → Bool) (a : α) : List α → List α
  | [] => [a]
  | b :: bs => if le a b then a :: b :: bs else b :: ins le a bs
def isort {α : Type} (le : α → α → Bool) : List α → List α
  | [] => []
  | a :: as => ins le a (isort le as)
section
variable {α : Type} {le : α → α → Bool}
open PySem.W in
theorem ins_filter (h : TotalLe le) (c a : α) : ∀ bs : List α, (ins le a bs).filter (sameRank le c) = (a :: bs).filter (sameRank le c)
  | [] => rfl
  | b :: bs => by
    unfold ins
    split
    · rfl
    · rename_i hab
      rw [List.filter_cons, ins_filter h c a bs]
      rw [List.filter_cons (xs := bs), List.filter_cons (xs := b :: bs), List.filter_cons (xs := bs)]
      by_cases ha : sameRank le c a = true
      · by_cases hb : sameRank le c b = true
        · exfalso
          unfold sameRank at ha hb
          rw [Bool.and_eq_true]
                at ha hb
          exact hab (h.trans a c b ha.2 hb.1)
        · simp [ha, hb]
      · simp [ha]
open PySem.W in
theorem isort_filter (h : TotalLe le) (c : α) : ∀ bs : List α, (isort le bs).filter (sameRank le c) = bs.filter (sameRank le c)
  | [] => rfl
  | b :: bs => by
    rw [isort, ins_filter h, List.filter_cons, List.filter_cons, isort_filter h c bs]
theorem ins_mem {a x : α} : ∀ {bs : List α}, x ∈ ins le a bs → x = a ∨ x ∈ bs
  | [], h => by simpa [ins] using h
  | b :: bs, h => by
    unfold ins at h
    split at h
    · simpa using h
    · rcases List.mem_cons.mp h with h | h
      · exact .inr (by rw [h]; exact .head _)
      · exact (ins_mem h).imp id fun h => .tail _ h
open PySem.W in
theorem ins_pair (h : TotalLe le) (a : α) : ∀ {bs : List α}, bs.Pairwise (fun a b => le a b = true) → (ins le a bs).Pairwise (fun a b => le a b = true)
  | [], _ => by simp [ins]
  | b :: bs, hp => by
    obtain ⟨h1, h2⟩ :=
          List.pairwise_cons.mp hp
    unfold ins
    split
    · rename_i hab
      refine List.pairwise_cons.mpr ⟨fun x hx => ?_, hp⟩
      rcases List.mem_cons.mp
            hx with rfl | hx
      · exact hab
      · exact h.trans _ _ _ hab (h1 x hx)
    · rename_i hab
      have hba : le b a = true := (h.total a b).resolve_left hab
      refine List.pairwise_cons.mpr ⟨fun x hx => ?_, ins_pair h a h2⟩
      rcases ins_mem hx with rfl | hx
      · exact hba
      · exact h1 x hx
open PySem.W in
theorem isort_eq (h : TotalLe le) (bs : List α) : isort le bs = bs.mergeSort le := by
  refine sort_unique h ?_ fun c => isort_filter h c bs
  induction bs with
  | nil => exact .nil
  | cons b bs ih => exact ins_pair h b ih
end
def dLe (x y : D × PyData) : Bool := !PySem.W.dataLt y.2 x.2
def tup1 : PyData → Bool
  | .tuple (_ :: _) => true
  | _ => false
def noTN : PyData → Bool
  | .tuple _ => false
  | .none => false
  | _ => true
def sortD (μ : List SO) (ds : List D) : Option (List D) := match mapO (pyo μ) ds with
  | some ps => if few ps.length && (ps.all fun x => ps.all fun y => PySem.W.alike x y) && (ps.all tup1 || ps.all noTN) then some ((isort dLe (ds.zip ps)).map (·.1)) else none
  | none => none
def keyD : Key → D
  | .inl i => .int i
  | .inr x => .str x
def sortF : FA := fun μ a => match a with
  | [d] => ((seqD μ d).bind (sortD μ)).map .lst
  | _ => none
section
variable {X : Cx} {u : U} {K : PySem.W.Frag} {Z : Addr → Prop} {as : As} {μ : List SO} {H : Hp}
open PySem.W in
theorem sort_prep {R : Value → (D × PyData) × V → Prop} (hR : ∀ d v w p, RepV K u Z as H d v → RelV v w → pyo μ d = some p → R w ((d, p), v)) : ∀ {ds : List D} {vs : List V} {ws : List Value} {ps : List PyData}, RepVs K u Z as H ds vs → Vals vs ws → mapO (pyo μ) ds = some ps →
    ∃ zs : List ((D × PyData) × V), zs.map (·.1) = ds.zip ps ∧ EachIs R ws zs
  | [], _, _, _, .nil, .nil, e => by cases e; exact ⟨[], rfl, .nil⟩
  | d :: ds, _, _, _, .cons r t, .cons r2 t2, e => by
    unfold mapO at e
    split at e
    · rename_i p ep
      split at e
      · rename_i ps eps
        cases e
        obtain ⟨zs, e1, e2⟩ := sort_prep hR t t2 eps
        exact ⟨((d, p), _) :: zs, by rw [List.map_cons, e1]; rfl, .cons (hR _ _ _ _ r r2 ep) e2⟩
      · cases e
    · cases e
open PySem.W in
theorem sort_back : ∀ {out : List Value} {zs : List ((D × PyData) × V)}, EachIs (fun w z => RepV K u Z as H z.1.1 z.2 ∧ RelV z.2 w ∧ pyo μ z.1.1 = some z.1.2) out zs → Vals (zs.map (·.2)) out ∧ RepVs K u Z as H (zs.map fun z => z.1.1) (zs.map (·.2))
  | _, _, .nil => ⟨.nil, .nil⟩
  | _, _, .cons h t => ⟨.cons h.2.1 (sort_back t).1, .cons h.1 (sort_back t).2⟩
theorem mapO_mem {α β : Type} {f : α → Option β} : ∀ {as : List α} {bs : List β}, mapO f as = some bs → ∀ b ∈ bs, ∃ a ∈ as, f a = some b
  | [], bs, h, b, hb => by cases h; cases hb
  | a :: as, bs, h, b, hb => by
    unfold mapO at h
    split at h
    · rename_i b0 e0
      split at h
      · rename_i bs0 es
        cases h
        rcases List.mem_cons.mp
              hb with rfl | hb
        · exact ⟨a, .head _, e0⟩
        · obtain ⟨a', h1, h2⟩ := mapO_mem es b hb
          exact ⟨a', .tail _ h1, h2⟩
      · cases h
    · cases h
theorem zip_snd {α β : Type} : ∀ {as : List α} {bs : List β} {z : α × β}, z ∈ as.zip bs → z.2 ∈ bs := fun h => (List.of_mem_zip h).2
theorem g_sorted (hu : X.A.units + 67 < cLine) : CallR X (.builtin "sorted") (rAD X.K u sortF) := by
  intro pins s σ H xs us Q I rx ⟨Z, as, μ, ds, d, rs, r, e, q⟩
  unfold sortF at e
  split at e
  · rw [Option.map_eq_some_iff] at e
    obtain ⟨os, e, rfl⟩ := e
    rw [Option.bind_eq_some_iff] at e
    obtain ⟨ys, ey, e⟩ := e
    obtain ⟨x, rfl, rx1⟩ := r.one
    obtain ⟨p, vs, rfl, hp, rv⟩ := seqD_of rs rx1 ey
    obtain ⟨w, rfl, rw'⟩ := vals1 rx
    cases rw'
    unfold sortD at e
    split at e
    · rename_i ps eps
      split at e
      · rename_i hc
        cases e
        rw [Bool.and_eq_true, Bool.and_eq_true, Bool.or_eq_true] at hc
        obtain ⟨⟨hf, hal⟩, hk⟩ := hc
        have I0 := I
        have walk : ∀ (its : List Value) (T : String) (o : Obj) (n : Nat), Vals vs its → (T = "list" ∨ T = "tuple") → s.heap.get? p = some o → o.cls = .type T → o.data = .seq its.toArray n → vs.length ≤ sizeLine →
            wpAny (model X.prog X.w) X.A (call (.builtin "sorted") [.ref p]) (EP X pins σ Q) X.xe s := by
          intro its T o n rvi hT ho hcl hd hz
          have hn : its.length ≤ sizeLine := by rw [← rvi.length]; exact hz
          refine Calls.call_function_entry PyProof.Rows.kind_sorted PyProof.Rows.plain_sorted
                PyProof.Rows.entry_sorted (PyProof.Rows.args_sorted1 _) ?_
          unfold Builtin.«sorted»
          refine wpAny_bind (m := checkCount
                "sorted" 1 1 _) (wpAny_pure ?_)
          refine wpAny_bind (wpAny_collect_seq p hT ho hcl hd (fun h' hkp => ?_) (by rw [List.size_toArray]; exact hn))
          refine wpAny_bind (wpAny_newList ?_ (by simpa using hn))
          have hoL : (h'.push (seqObj "list" its.toArray 0)).get? h'.objs.size = some (seqObj "list" its.toArray 0) := Heap.get?_push_size _ rfl
          show wpAny _ _ _ _ _ { s with heap := h'.push (seqObj "list" its.toArray 0) }
          have I1 : Inv X pins σ H { s with heap := h' } := I.kept (t' := s.toks) hkp
          have I2 : Inv X pins σ H { s with heap := h'.push (seqObj "list" its.toArray 0) } := I1.kept (t' := s.toks) fun b o e => Heap.get?_push_of_some _ e
          obtain ⟨zs, ez, each⟩ := sort_prep (K := X.K) (u := u) (Z := Z) (as := as) (H := H) (μ := μ) (R := fun w z => (RepV X.K u Z as H z.1.1 z.2 ∧ RelV z.2 w ∧ pyo μ z.1.1 = some z.1.2)) (fun d v w p a b c => ⟨a, b, c⟩) rv rvi eps
          have hbs : zs.map (fun z => z.1.2) = ps := by
            have := congrArg (List.map Prod.snd) ez
            rw [List.map_map, List.map_snd_zip (by rw [mapO_len eps]; exact Nat.le_refl _)] at this
            exact this
          have halk : PySem.W.AllAlike (zs.map fun z => z.1.2) := by
            rw [hbs]
            exact fun a ha b hb => List.all_eq_true.mp (List.all_eq_true.mp hal a ha) b hb
          have hsrt : PySem.W.Sortable (zs.map fun z => z.1.2) := by
            rw [hbs]
            rcases hk with hk | hk
            · refine .inl fun a ha => ?_
              have := List.all_eq_true.mp hk a ha
              cases a with
              | tuple l =>
                cases l with
                | nil => cases this
                | cons a b => exact ⟨a, b, rfl⟩
              | _ => cases this
            · refine .inr fun a ha => ?_
              have := List.all_eq_true.mp hk a ha
              cases a <;> first | (cases this; done) | exact ⟨(fun z => by cases z), fun _ z => by cases z⟩
          have shp : ∀ z ∈ zs, SeqAt.shaped z.1.2 = true := fun z hz => by
            have hm : z.1.2 ∈ ps := by rw [← hbs]; exact List.mem_map.mpr ⟨z, hz, rfl⟩
            obtain ⟨a, _, ha⟩ := mapO_mem eps _ hm
            exact (pyo_some ha).2
          have keep : ∀ b ob, h'.get? b = some ob → (PySem.W.sortingHeap (h'.push (seqObj "list" its.toArray 0)) h'.objs.size its).get? b = some ob := fun b ob hb =>
            PySem.W.sortingHeap_old (Nat.ne_of_lt (Heap.lt_size hb)) (Heap.get?_push_of_some _ hb)
          have reads : PySem.W.EachIs (fun w (z : (D × PyData) × V) => ∃ as, Reads (PySem.W.sortingHeap (h'.push (seqObj "list" its.toArray 0)) h'.objs.size its) w z.1.2 as) its zs :=
            each.mono fun w z ⟨c1, c2, c3⟩ => by
              obtain ⟨as', rd⟩ := Dp.reads I1 z.1.2 z.2 w (dp_of rs _ c1 (pyo_some c3).1) c2
              exact ⟨as', PyProof.Rows.Reads.keeps keep rd⟩
          have sorts := PySem.W.SortsAt.data (prog := X.prog) (w := X.w) (A := X.A.in1.in1) (s := { s with heap := PySem.W.sortingHeap (h'.push (seqObj "list" its.toArray 0)) h'.objs.size its })
            (PySem.W.each_map (R := fun v d => ∃ as, Reads (PySem.W.sortingHeap (h'.push (seqObj "list" its.toArray 0)) h'.objs.size its) v d as) (fun z : (D × PyData) × V => z.1.2) reads) halk hsrt
            (PySem.W.bound_map (A := X.A.in1.in1) fun z hz => by
              have h1 := SeqAt.depth_of_shaped (shp z hz)
              show X.A.units + 1 + 1 + z.1.2.depth < cLine
              omega)
          refine wpAny_bind (wpAny_holding (wpAny_call_entry PyProof.Rows.slot_list_sort ⟨_, hoL, rfl⟩ PyProof.Rows.entry_list_sort (PySem.W.list_sort_vals (κ := PySem.W.dataKind (PySem.W.sortingHeap (h'.push (seqObj "list" its.toArray 0)) h'.objs.size its) (zs.map fun z => z.1.2)) hoL sorts hn ⟨.none, rfl, ?_⟩) (PyProof.Rows.args_list_sort _)))
          have out := PySem.W.sortVals_data (R := fun w (z : (D × PyData) × V) => RepV X.K u Z as H z.1.1 z.2 ∧ RelV z.2 w ∧ pyo μ z.1.1 = some z.1.2) (enc := fun z => z.1.2) false each reads halk
          obtain ⟨o1, o2⟩ := sort_back out
          have esort : (zs.mergeSort (PySem.W.dataLe false fun z => z.1.2)).map (fun z => z.1.1) = (isort dLe (ys.zip ps)).map (·.1) := by
            have t1 : (zs.mergeSort (PySem.W.dataLe false fun z => z.1.2)).map (·.1) = (zs.map (·.1)).mergeSort dLe := PySem.W.sort_maps _ fun a _ b _ => rfl
            rw [ez] at t1
            have tot : PySem.W.TotalLe dLe := PySem.W.sortLe_total (PyProof.Rows.listOrd PyProof.Rows.itemOrd) false fun z : D × PyData => PySem.W.keyToks z.2
            rw [isort_eq tot, ← t1, List.map_map]
            rfl
          obtain ⟨ep, hat⟩ := PyProof.Rows.sortedHeap_at (vs := its) (out := (PySem.W.sortVals (PySem.W.dataKind (PySem.W.sortingHeap (h'.push (seqObj "list" its.toArray 0)) h'.objs.size its) (zs.map fun z => z.1.2)) false its its).toArray) hoL
          have old : ∀ b ob, h'.get? b = some ob → (PyProof.Rows.sortedHeap (h'.push (seqObj "list" its.toArray 0)) h'.objs.size its (PySem.W.sortVals (PySem.W.dataKind (PySem.W.sortingHeap (h'.push (seqObj "list" its.toArray 0)) h'.objs.size its) (zs.map fun z => z.1.2)) false its its).toArray).get? b = some ob := fun b ob hb => by
            have hlt := Heap.lt_size hb
            rw [PyProof.Rows.sortedHeap_old (Nat.ne_of_lt hlt) (by rw [Heap.size_push]; exact Nat.lt_succ_of_lt hlt)]
            exact
                  Heap.get?_push_of_some _ hb
          have hlen : ((zs.mergeSort (PySem.W.dataLe false fun z => z.1.2)).map (·.2)).length ≤ sizeLine := by
            rw [List.length_map, (List.mergeSort_perm _ _).length_eq, ← each.length]
            exact hn
          refine wpAny_pure
                ⟨_, rfl, ?_⟩
          refine ⟨.ref h'.objs.size, upd H h'.objs.size (.lst ((zs.mergeSort (PySem.W.dataLe false fun z => z.1.2)).map (·.2))), I1.laid (t' := s.toks) old (Nat.le_refl _) ⟨hlen, _, ep, o1, hat⟩, rfl, ?_⟩
          have hf : H h'.objs.size = none := I1.hok.fresh (Nat.le_refl _)
          refine q _ _ (up hf) ?_
          rw [← esort]
          exact newLst rs hf o2
        rcases hp with hp | hp
        · obtain ⟨its, r', pl, hz⟩ := I.list hp
          obtain ⟨o, ho, hcl, n, hd⟩ := pl.isList
          exact walk its "list" o n r' (.inl rfl) ho hcl hd hz
        · obtain ⟨its, r', pl, hz⟩ := I.tuple hp
          obtain ⟨o, ho, hcl, n, hd⟩ := pl
          exact walk its "tuple" o n r' (.inr rfl) ho hcl hd hz
      · cases e
    · cases e
  · cases e
end
end G

set_option Elab.async false
set_option linter.all false
set_option maxRecDepth 100000
/-! GL: repr; sorted of a dict's keys. -/
namespace G
open PySem PySem.Spec
      PyProof.Rows L2
def reprD (μ : List SO) : D → Option PyData
  | .dic [] => some (.dict [])
  | d => pyo μ d
def reprF : FA := fun μ a => match a with
  | [d] => match reprD μ d with
    | some p => if p.showable && few p.shown.length then some (.str p.shown) else none
    | none => none
  | _ => none
def keyInts : List (Key × D) → Option (List Int)
  | [] => some []
  | (.inl i, _) :: ks => (keyInts ks).map (i :: ·)
  | _ => none
def sortKF : FA := fun _ a => match a with
  | [.dic kd] => match keyInts kd with
    | some is => if decide (is.length < 64) then some (.lst ((isort (fun a b => decide (a ≤ b)) is).map .int)) else none
    | none => none
  | _ => none
section
variable {X : Cx} {u : U} {K : PySem.W.Frag} {Z : Addr → Prop} {as : As} {μ : List SO} {H : Hp}
theorem emptyDict {pins : List (Addr × Obj)} {σ : L2.St} {s : Shared} {a : Addr} (I : Inv X pins σ H s) (h : H a = some (.dK [])) : Reads s.heap (.ref a) (.dict []) [a] ∧ a ≠ sysModules := by
  obtain ⟨_, ns, vs, kv, dd⟩ := dk_rd I.hok (.inl h)
  cases kv
  obtain ⟨ep, hat⟩ := dd.dictAt
  obtain ⟨o, es, ho, hc, hdat, hk, hp, hn⟩ := hat
  refine ⟨?_, fun z => by rw [z] at ns; simp at ns⟩
  have e0 : es.toList = [] := by
    cases hl : es.toList with
    | nil => rfl
    | cons a b => rw [hl] at hp; cases hp
  have h1 : ReadsAll s.heap (es.toList.map (·.key)) (([] : List (PyData × PyData)).map (·.1)) [] := by rw [e0]; exact .nil
  have h2 : ReadsAll s.heap (es.toList.map (·.val)) (([] : List (PyData × PyData)).map (·.2)) [] := by rw [e0]; exact .nil
  exact .dict ho hc.1 hdat h1 h2
theorem reprD_of {pins : List (Addr × Obj)} {σ : L2.St} {s : Shared} (I : Inv X pins σ H s) (rs : RelS X.K u Z as μ H) {d : D} {v : V} {w : Value} {p : PyData} (r : RepV X.K u Z as H d v) (rv : RelV v w) (e : reprD μ d = some p) : ∃ as, Reads s.heap w p as ∧ (p.hasDict = true → sysModules ∉ as) ∧ p.depth ≤ 64 := by
  unfold reprD at e
  split at e
  · cases e
    cases r with
    | dic h n r =>
      cases r
      cases rv
      obtain ⟨h1, h2⟩ := emptyDict I h
      exact ⟨_, h1, fun _ z => h2 (List.mem_singleton.mp z).symm, by decide⟩
  · obtain ⟨e1, e2⟩ := pyo_some e
    obtain ⟨as', h⟩ := Dp.reads I p v w (dp_of rs _ r e1) rv
    refine ⟨as', h, fun z => ?_, SeqAt.depth_of_shaped e2⟩
    rw [PyData.hasDict_of_canLay _ (SeqAt.canLay_of_shaped e2)] at z
    cases z
theorem g_repr (hg : X.A.guards = some []) (hu : X.A.units + 67 < cLine) : CallR X (.builtin "repr") (rAD X.K u reprF) := by
  intro pins s σ H xs us Q I rx ⟨Z, as, μ, ds, d, rs, r, e, q⟩
  unfold reprF at e
  split at e
  · obtain ⟨x, rfl, rx1⟩ := r.one
    obtain ⟨w, rfl, rw'⟩ := vals1 rx
    split at e
    · rename_i p ep
      split at e
      · rename_i hc
        cases e
        rw [Bool.and_eq_true] at hc
        obtain ⟨as', rd, hsm, hd⟩ := reprD_of I rs rx1 rw' ep
        have fin : ∀ (h' : Heap) (t tk : Nat), (∀ b o, s.heap.get? b = some o → h'.get? b = some o) → EP X pins σ Q (.str p.shown t) { s with heap := h', toks := tk } := fun h' t tk hk =>
          ⟨.str p.shown, H, I.kept (t' := tk) hk, ⟨t, rfl⟩, q H _ (Same.refl H) (.str _)⟩
        have sz := few_line hc.2
        cases rd with
        | none => exact P.repr_of_none (fin _ _ _ fun _ _ h => h)
        | bool b => exact P.repr_of_bool (by have := fin s.heap s.toks (s.toks + 1) fun _ _ h => h; simpa [PyData.shown] using this)
        | int i t => exact P.repr_of_int (by have := hc.1; simpa [PyData.showable] using this) (by have := fin s.heap s.toks (s.toks + 1) fun _ _ h => h; simpa [PyData.shown] using this)
        | str y t => exact P.repr_of_str (by have := fin s.heap s.toks (s.toks + 1) fun _ _ h => h; simpa [PyData.shown] using this) (by simpa [PyData.shown] using sz)
        | list h1 h2 h3 h4 => exact repr_of_reads' (.list h1 h2 h3 h4) hc.1 hsm hg (by omega) (fun _ _ h => h) (fun h' t tk hk => fin h' t tk hk) sz
        | tuple h1 h2 h3 h4 => exact repr_of_reads' (.tuple h1 h2 h3 h4) hc.1 hsm hg (by omega) (fun _ _ h => h) (fun h' t tk hk => fin h' t tk hk) sz
        | dict h1 h2 h3 h4 h5 => exact repr_of_reads' (.dict h1 h2 h3 h4 h5) hc.1 hsm hg (by omega) (fun _ _ h => h) (fun h' t tk hk => fin h' t tk hk) sz
      · cases e
    · cases e
  · cases e
theorem keyInts_of : ∀ {kd : List (Key × D)} {kv : List (Key × V)} {is : List Int}, RepKs K u Z as H kd kv → keyInts kd = some is → kv.map (·.1) = is.map Sum.inl
  | [], _, _, .nil, e => by cases e; rfl
  | (k, d) :: kd, _, _, .cons r t, e => by
    cases k with
    | inl i =>
      unfold keyInts at e
      rw [Option.map_eq_some_iff] at e
      obtain ⟨is, ei, rfl⟩ := e
      rw [List.map_cons, List.map_cons, keyInts_of t ei]
    | inr x => cases e
theorem ints_map {H : Hp} : ∀ is : List Int, RepVs K u Z as H (is.map D.int) (is.map V.int)
  | [] => .nil
  | i :: is => .cons (.int i) (ints_map is)
theorem int_le_total : PySem.W.TotalLe (fun a b : Int => decide (a ≤ b)) := ⟨fun a b c h1 h2 => by simp at *; omega, fun a b => by simp; omega⟩
theorem ins_perm {α : Type} {le : α → α → Bool} (a : α) : ∀ bs : List α, (ins le a bs).Perm (a :: bs)
  | [] => .refl _
  | b :: bs => by
    unfold ins
    split
    · exact .refl _
    · exact ((ins_perm a bs).cons b).trans (.swap ..)
theorem isort_perm {α : Type} {le : α → α → Bool} : ∀ bs : List α, (isort le bs).Perm bs
  | [] => .refl _
  | b :: bs => (ins_perm b _).trans ((isort_perm bs).cons b)
theorem int_sorted_one {xs ys : List Int} (hx : xs.Pairwise (· ≤ ·)) (h : ys.Pairwise (· ≤ ·)) (p : xs.Perm ys) : xs = ys := by
  exact p.eq_of_pairwise (fun a b _ _ h1 h2 => Int.le_antisymm h1 h2) hx h
theorem g_sortedK (hc : X.calm = true) : CallR X (.builtin "sorted") (rAD X.K u sortKF) := call_gwk (call_sortedDI hc) fun {Z as μ ds d xs H Q} s r e q => by
  unfold sortKF at e
  split at e
  · rename_i kd
    split at e
    · rename_i is ei
      split at e
      · rename_i h64
        cases e
        obtain ⟨x, rfl, rx⟩ := r.one
        cases rx with
        | dic h n rk =>
          refine ⟨_, _, is, rfl, .inl h, keyInts_of rk ei, of_decide_eq_true h64, fun ys p hp hs hf => ?_⟩
          have e1 : ys = isort (fun a b => decide (a ≤ b)) is := by
            refine int_sorted_one hs ?_ (hp.trans (isort_perm is).symm)
            have : (isort (fun a b : Int => decide (a ≤ b)) is).Pairwise (fun a b => decide (a ≤ b) = true) := by
              rw [isort_eq int_le_total]
              exact PySem.W.sort_pairwise int_le_total is
            exact this.imp fun h => of_decide_eq_true h
          subst e1
          exact q _ _ (up hf) (newLst s hf (ints_map _))
      · cases e
    · cases e
  · cases e
end
end G

set_option Elab.async false
set_option linter.all false
set_option maxRecDepth 100000
/-! GM: what may change: freezing, stores, methods. -/
namespace G
open PySem PySem.Spec
      PyProof.Rows L2
/-- a place's content as a value; the place is no more -/
def frzD (μ : List SO) : D → Option (D × List SO)
  | .loc l => match μ[l]? with
    | some (.lst xs) => some (.lst xs, μ.set l .dead)
    | some (.dic kd) => some (.dic kd, μ.set l .dead)
    | _ => none
  | _ => none
def frzM (m : SE) : SE := fun ρ μ => (m ρ μ).bind fun d μ1 => match frzD μ1 d with
  | some (d', μ') => .ok d' μ'
  | none => .no
/-- slot i's place frozen ahead of m -/
def frzS (i : Nat) (m : SS) : SS := fun ρ μ => match ρ[i]? with
  | some (some d) => match frzD μ d with
    | some (d', μ') => m (ρ.set i (some d')) μ'
    | none => .no
  | _ => .no
section
variable {K : PySem.W.Frag} {u : U} {Z : Addr → Prop} {as : As} {ρ : Env} {μ μ' : List SO} {σ : L2.St} {H : Hp}
theorem RelS.freeze (R : RelS K u Z as μ H) {d d' : D} {v : V} (r : RepV K u Z as H d v) (e : frzD μ d = some (d', μ')) : ∃ as', Later as H as' H ∧ RelS K u Z as' μ' H ∧ RepV K u Z as' H d' v := by
  cases r with
  | loc hl h =>
    rename_i l
    have core : ∀ {p : Addr} {o : SO}, μ[l]? = some o → o ≠ .dead → as[l]? = some (some p) → Later as H (as.set l none) H ∧ RelS K u Z (as.set l none) (μ.set l .dead) H ∧ ¬ Bad Z (as.set l none) p := by
      intro p o em hd ea
      have at_ : ∀ (m : Nat) (q : Addr), (as.set l none)[m]? = some (some q) → m ≠ l ∧ as[m]? = some (some q) := fun m q e => by
        by_cases hm : l = m
        · subst hm
          rw [List.getElem?_set_self hl] at e
          cases e
        · rw [List.getElem?_set_ne hm] at e
          exact ⟨fun z => hm z.symm, e⟩
      have lt : Later as H (as.set l none) H := ⟨by rw [List.length_set]; exact Nat.le_refl _, fun m q hm e => (at_ m q e).2, fun q o e n m => ⟨e, fun k z => m k (at_ k q z).2⟩⟩
      refine ⟨lt, ⟨by rw [List.length_set, List.length_set]; exact R.len, fun m k q e1 e2 => R.inj m k q (at_ m q e1).2 (at_ k q e2).2, fun m a o e1 e2 => ?_, fun q hq => ⟨(R.zok q hq).1, fun k z => (R.zok q hq).2 k (at_ k q z).2⟩, R.tabs⟩, ?_⟩
      · by_cases hm : l = m
        · subst hm
          rw [List.getElem?_set_self hl] at e1
          rw [List.getElem?_set_self (by rw [← R.len]; exact hl)] at e2
          cases e1
          cases e2
          rfl
        · rw [List.getElem?_set_ne hm] at e1 e2
          have q1 := R.obj m a o e1 e2
          cases o with
          | dead => exact q1
          | lst ds => obtain ⟨p', xs, ea, e', q1⟩ := q1; exact ⟨p', xs, ea, e', q1.later lt⟩
          | dic ds => obtain ⟨p', xs, ea, e', q1⟩ := q1; exact ⟨p', xs, ea, e', q1.later lt⟩
          | ins c ds => obtain ⟨p', dx, xs, ea, e', q1⟩ := q1; exact ⟨p', dx, xs, ea, e', q1.later lt⟩
      · rintro (z | ⟨k, z⟩)
        · exact (R.zok p z).2 l ea
        · obtain ⟨h1, h2⟩ := at_ k p z
          exact h1 (R.inj k l p h2 ea)
    simp only [frzD] at e
    split at e
    · rename_i xs em
      cases e
      obtain ⟨p, vs, rfl, ea, e2, q⟩ := R.lst (.loc hl h) em
      obtain ⟨lt, R', nb⟩ := core em (fun z => by cases z) ea
      exact ⟨_, lt, R', .lst (.inl e2) nb (q.later lt)⟩
    · rename_i xs em
      cases e
      obtain ⟨p, vs, rfl, ea, e2, q⟩ := R.dic (.loc hl h) em
      obtain ⟨lt, R', nb⟩ := core em (fun z => by cases z) ea
      exact ⟨_, lt, R', .dic e2 nb (q.later lt)⟩
    · cases e
  | _ => cases e
end
section
variable {X : Cx} {u : U} {W : WX} {e : Expr} {m : SE} {pos : Pos}
theorem ge_frz (h : PE X e (tm X.K u W m)) : PE X e (tm X.K u W (frzM m)) := by
  refine h.gwk fun σ H Q ⟨Z, as, ρ, μ, R, h⟩ => ⟨Z, as, ρ, μ, R, h.bind.mono fun as1 H1 μ1 d lt R1 h1 v q => ?_⟩
  cases ef : frzD μ1 d with
  | none => rw [ef] at h1; exact h1.elim
  | some x =>
    obtain ⟨d', μ'⟩ := x
    rw [ef] at h1
    obtain ⟨as', lt', R', q'⟩ := R1.s.freeze q ef
    exact h1 as' H1 lt' (R1.mono lt' R') v q'
theorem tm_frzS {i : Nat} {m : SS} {Dn : Ends} {σ : L2.St} {H : Hp} (h : tmS X.K u W (frzS i m) Dn σ H) : tmS X.K u W m Dn σ H := by
  obtain ⟨Z, as, ρ, μ, R, h⟩ := h
  unfold frzS at h
  split at h
  · rename_i d e
    split at h
    · rename_i d' μ' ef
      obtain ⟨v, ev, q⟩ := R.env i d e
      obtain ⟨as', lt', R', q'⟩ := R.s.freeze q ef
      have R2 := R.mono lt' R'
      refine ⟨Z, as', ρ.set i (some d'), μ', ⟨R', by rw [List.length_set]; exact R.len, fun j b ej => ?_⟩, h.later lt'⟩
      by_cases hij : i = j
      · subst hij
        have hl : i < ρ.length := (List.getElem?_eq_some_iff.mp e).1
        rw [List.getElem?_set_self hl] at ej
        cases ej
        exact ⟨v, ev, q'⟩
      · rw [List.getElem?_set_ne hij] at ej
        exact R2.env j b ej
    · exact h.elim
  · exact h.elim
theorem gs_frz {i : Nat} {m : SS} {st : Stmt} (h : PS X st (tmS X.K u W m)) : PS X st (tmS X.K u W (frzS i m)) := h.gwk fun _ _ _ h => tm_frzS h
theorem gss_frz {i : Nat} {m : SS} {sts : List Stmt} (h : PSs X sts (tmS X.K u W m)) : PSs X sts (tmS X.K u W (frzS i m)) := h.gwk fun _ _ _ h => tm_frzS h

/-! ### stores -/
/-- o[i] = d of a list's place -/
def putF (μ : List SO) (o i d : D) : Option (List SO) := match o, i with
  | .loc l, .int k => match μ[l]? with
    | some (.lst xs) => (ixN xs.length k).map fun j => μ.set l (.lst (xs.set j d))
    | _ => none
  | _, _ => none
/-- o[i] = v -/
def subS (mo mi mv : SE) : SS := fun ρ μ => (mv ρ μ).sbind ρ fun d μ1 => (mo ρ μ1).sbind ρ fun o μ2 => (mi ρ μ2).sbind ρ fun i μ3 => match putF μ3 o i d with
  | some μ4 => .fl (.nx ρ) μ4
  | none => .no
theorem put_of {Z : Addr → Prop} {as : As} {μ : List SO} {H : Hp} (R : RelS X.K u Z as μ H) {l : Nat} {p : Addr} {xs : List V} {ys : List V} {ds : List D} (ea : as[l]? = some (some p)) (e2 : H p = some (.lst xs)) (q : RepVs X.K u Z as H ds ys) :
    RelS X.K u Z as (μ.set l (.lst ds)) (upd H p (.lst ys)) ∧ Later as H as (upd H p (.lst ys)) := by
  have hl : as.length = as.length := rfl
  refine R.put ea (fun _ z => by cases z) (fun xs z => by rw [e2] at z; cases z) ⟨p, ys, rfl, up_at, q.later ?_⟩
  exact ⟨Nat.le_refl _, fun _ _ _ e => e, fun q o' e1 n1 m1 => ⟨by rw [upd_ne (fun z => m1 l (by rw [z]; exact ea))]; exact e1, m1⟩⟩
theorem gs_sub {o i e : Expr} {mo mi mv : SE} {pos2 : Pos} (he : PE X e (tm X.K u W mv)) (ho : PE X o (tm X.K u W mo)) (hi : PE X i (tm X.K u W mi))
    (ha : ∀ v, assign (.Subscript o i pos2) X.env v = (do
      let ov ← holding
            [v] (eval o X.env)
      let iv ← holding [v,
            ov] (eval i X.env)
      standAt pos2
      holding [v, ov, iv]
            (setItem ov iv v)
      release [v, ov, iv] []) := by intro _; rfl)
    (hs : swapsWithSole [.Subscript o i pos2] e pos.line X.env = pure false := by rfl) (hw : swappedStores [.Subscript o i pos2] e X.env = pure none := by rfl) (h1 : (assignEach [.Subscript o i pos2] X.env).map (·.2) = [assign (.Subscript o i pos2) X.env] := by rfl) :
    PS X (.Assign [.Subscript o i pos2] e pos) (tmS X.K u W (subS mo mi mv)) := by
  refine (ps_asg he (pg_sub ho hi set_list ha) hs hw h1).gwk fun Dn σ H ⟨Z, as, ρ, μ, R, h⟩ => ?_
  refine ⟨Z, as, ρ, μ, R, h.bind.mono fun as1 H1 μ1 d lt1 R1 h1 v qv => ⟨Z, as1, ρ, μ1, R1, h1.bind.mono fun as2 H2 μ2 ov lt2 R2 h2 w qw => ⟨Z, as2, ρ, μ2, R2, h2.bind.mono fun as3 H3 μ3 iv lt3 R3 h3 y qy => ?_⟩⟩⟩
  have qv3 := qv.later (lt2.trans lt3)
  have qw3 := qw.later lt3
  unfold putF at h3
  split at h3
  · rename_i μ4 e4
    split at e4
    · split at e4
      · rename_i l k _ xs em
        rw [Option.map_eq_some_iff] at e4
        obtain ⟨j, ej, rfl⟩ := e4
        obtain ⟨p, ys, rfl, ea, e2, q⟩ := R3.s.lst qw3 em
        cases qy
        obtain ⟨R4, lt4⟩ := put_of R3.s ea e2 (q.set qv3 j)
        exact ⟨p, ys, k, j, rfl, rfl, e2, by rw [← q.length]; exact ej, h3 as3 _ σ lt4 (R3.mono lt4 R4)⟩
      · cases e4
    · cases e4
  · exact h3.elim

/-! ### list methods -/
def isLoc (μ : List SO) : D → Bool
  | .loc l => match μ[l]? with
    | some (.lst _) => true
    | _ => false
  | _ => false
def pushF (μ : List SO) (o : D) (zs : List D) : Option (List SO) := match o with
  | .loc l => match μ[l]? with
    | some (.lst xs) => if few (xs.length + zs.length) then some (μ.set l (.lst (xs ++ zs))) else none
    | _ => none
  | _ => none
/-- o.append(x) -/
def appM (mo : SE) (ma : SM (List D)) : SE := fun ρ μ => (mo ρ μ).bind fun o μ1 => if isLoc μ1 o then (ma ρ μ1).bind fun ds μ2 => match ds with
  | [d] => match pushF μ2 o [d] with
    | some μ3 => .ok .non μ3
    | none => .no
  | _ => .no
  else .no
/-- o.extend(xs), xs a list that stands -/
def extM (mo : SE) (ma : SM (List D)) : SE := fun ρ μ => (mo ρ μ).bind fun o μ1 => if isLoc μ1 o then (ma ρ μ1).bind fun ds μ2 => match ds with
  | [.lst ys] => match pushF μ2 o ys with
    | some μ3 => .ok .non μ3
    | none => .no
  | _ => .no
  else .no
theorem isLoc_of {Z : Addr → Prop} {as : As} {μ : List SO} {H : Hp} (R : RelS X.K u Z as μ H) {d : D} {v : V} (r : RepV X.K u Z as H d v) (e : isLoc μ d = true) : tyV X.K "list" v H := by
  unfold isLoc at e
  split at e
  · split at e
    · rename_i xs em
      obtain ⟨p, ys, rfl, ea, e2, q⟩ := R.lst r em
      exact .inl ⟨rfl, ys, .inl (.inl e2)⟩
    · cases e
  · cases e
theorem push_of {Z : Addr → Prop} {as : As} {μ μ' : List SO} {H : Hp} (R : RelS X.K u Z as μ H) {o : D} {v : V} {zs : List D} {ws : List V} (r : RepV X.K u Z as H o v) (q : RepVs X.K u Z as H zs ws) (e : pushF μ o zs = some μ') :
    ∃ p xs, v = .ref p ∧ H p = some (.lst xs) ∧ xs.length + ws.length ≤ sizeLine ∧ xs.length + ws.length < sizeLine ∧ RelS X.K u Z as μ' (upd H p (.lst (xs ++ ws))) ∧ Later as H as (upd H p (.lst (xs ++ ws))) := by
  unfold pushF at e
  split at e
  · split at e
    · rename_i xs em
      split at e
      · rename_i hf
        cases e
        obtain ⟨p, ys, rfl, ea, e2, q2⟩ := R.lst r em
        obtain ⟨R4, lt4⟩ := put_of R ea e2 (q2.append q)
        exact ⟨p, ys, rfl, e2, by rw [← q2.length, ← q.length]; exact few_line hf, by rw [← q2.length, ← q.length]; exact few_lt hf, R4, lt4⟩
      · cases e
    · cases e
  · cases e
theorem mt_extR : MtR X "list.extend" (fun x vs H Q => ∃ l b xs zs, x = .ref l ∧ vs = [.ref b] ∧ H l = some (.lst xs) ∧ Rd H b (.lst zs) ∧ xs.length + zs.length ≤ sizeLine ∧ Q .non (upd H l (.lst (xs ++ zs)))) := by
  intro pins s σ H x vs v us Q I rx rv ⟨l, b, xs, zs, ex, ev, hH, hB, hz, q⟩
  subst ex ev
  cases rx
  obtain ⟨w, rfl, rw'⟩ := rv.one
  cases rw'
  obtain ⟨-, a1, n, r, e⟩ := I.hok l _ hH
  obtain ⟨-, a2, n2, r2, e2⟩ := hB.ok I.hok
  have l1 := r.length
  have l2 := r2.length
  have fits : a1.toArray.size + a2.toArray.size ≤ sizeLine := by rw [List.size_toArray, List.size_toArray, ← l1, ← l2]; exact hz
  have c : ¬ (!a1.toArray.isEmpty && Builtin.List.listTooLong (a1.toArray.size + a2.toArray.size)) = true := by rw [notLongL fits, Bool.and_false]; decide
  refine call_meets F.slot_list_extend ⟨_, e, rfl⟩ F.entry_list_extend (F.args_list_extend_2 _ _) (AutoSeq1.list_extend_list_list_0 l a1.toArray n b a2.toArray n2 c (by simp only [List.size_toArray]; omega) (by omega)) ⟨e, e2, ?_⟩
  exact ⟨.non, _, I.lset (its' := a1 ++ a2) hH e (by simp) (r.append r2) (by rw [List.length_append]; exact hz), rfl, q⟩
variable {o e2 : Expr} {es : List Expr} {mo : SE} {ma : SM (List D)} {apos cpos : Pos}
theorem ge_app (ho : PE X o (tm X.K u W mo)) (ha : PA X (e2 :: es) (tmA X.K u W ma)) (hbase : attributeBase o "append" X.env (eval o X.env) = eval o X.env := by rfl)
    (hfew : ((backTo cpos (starEach (e2 :: es) X.env)).all (fun x => !x.1) && (backToKw cpos (keywordEach [] X.env)).all (fun x => x.1.isSome) && decide ((e2 :: es).length + ([] : List Keyword).length + (if ([] : List Keyword).isEmpty then 0 else 1) < 30)) = true := by rfl)
    (hline : (apos.endLine == cpos.line) = true := by rfl) (hs : starEach (e2 :: es) X.env = (false, eval e2 X.env) :: starEach es X.env := by rfl) (hplain : (backTo cpos (starEach es X.env)).any (·.1) = false := by rfl) :
    PE X (.Call (.Attribute o "append" apos) (e2 :: es) [] cpos) (tm X.K u W (appM mo ma)) := by
  refine (pe_bm PySem.F.plainAttrs_list PySem.F.slot_list_append PySem.F.type_list_append mt_append ho ha hbase hfew hline hs hplain).gwk fun σ H Q ⟨Z, as, ρ, μ, R, h⟩ => ?_
  refine ⟨Z, as, ρ, μ, R, h.bind.mono fun as1 H1 μ1 d lt1 R1 h1 v qv => ?_⟩
  split at h1
  · rename_i hloc
    refine ⟨isLoc_of R1.s qv hloc, Z, as1, ρ, μ1, R1, h1.bind.mono fun as2 H2 μ2 ds lt2 R2 h2 ws qs => ?_⟩
    split at h2
    · rename_i d2
      obtain ⟨w, rfl, qw⟩ := qs.one
      cases ep : pushF μ2 d [d2] with
      | none => rw [ep] at h2; exact h2.elim
      | some μ3 =>
        rw [ep] at h2
        obtain ⟨p, xs, rfl, g1, g2, g3, R3, lt3⟩ := push_of R2.s (qv.later lt2) (.cons qw .nil) ep
        exact ⟨p, xs, w, rfl, rfl, g1, Nat.lt_of_le_of_lt (Nat.le_add_right _ _) g3, h2 as2 _ lt3 (R2.mono lt3 R3) _ .non⟩
    · exact h2.elim
  · exact h1.elim
theorem ge_ext (ho : PE X o (tm X.K u W mo)) (ha : PA X (e2 :: es) (tmA X.K u W ma)) (hbase : attributeBase o "extend" X.env (eval o X.env) = eval o X.env := by rfl)
    (hfew : ((backTo cpos (starEach (e2 :: es) X.env)).all (fun x => !x.1) && (backToKw cpos (keywordEach [] X.env)).all (fun x => x.1.isSome) && decide ((e2 :: es).length + ([] : List Keyword).length + (if ([] : List Keyword).isEmpty then 0 else 1) < 30)) = true := by rfl)
    (hline : (apos.endLine == cpos.line) = true := by rfl) (hs : starEach (e2 :: es) X.env = (false, eval e2 X.env) :: starEach es X.env := by rfl) (hplain : (backTo cpos (starEach es X.env)).any (·.1) = false := by rfl) :
    PE X (.Call (.Attribute o "extend" apos) (e2 :: es) [] cpos) (tm X.K u W (extM mo ma)) := by
  refine (pe_bm PySem.F.plainAttrs_list PySem.F.slot_list_extend PySem.F.type_list_extend mt_extR ho ha hbase hfew hline hs hplain).gwk fun σ H Q ⟨Z, as, ρ, μ, R, h⟩ => ?_
  refine ⟨Z, as, ρ, μ, R, h.bind.mono fun as1 H1 μ1 d lt1 R1 h1 v qv => ?_⟩
  split at h1
  · rename_i hloc
    refine ⟨isLoc_of R1.s qv hloc, Z, as1, ρ, μ1, R1, h1.bind.mono fun as2 H2 μ2 ds lt2 R2 h2 ws qs => ?_⟩
    split at h2
    · rename_i ys
      obtain ⟨w, rfl, qw⟩ := qs.one
      cases ep : pushF μ2 d ys with
      | none => rw [ep] at h2; exact h2.elim
      | some μ3 =>
        rw [ep] at h2
        cases qw with
        | lst hb nb rb =>
          obtain ⟨p, xs, rfl, g1, g2, g3, R3, lt3⟩ := push_of R2.s (qv.later lt2) rb ep
          exact ⟨p, _, xs, _, rfl, rfl, g1, hb, g2, h2 as2 _ lt3 (R2.mono lt3 R3) _ .non⟩
    · exact h2.elim
  · exact h1.elim
end
end G

set_option Elab.async false
set_option linter.all false
set_option maxRecDepth 100000
/-! GN: enumerate and zip of lists and tuples. -/
namespace PySem
open Sem (wp)
open AutoSeq1
      (wpAny_loadPart')
set_option
      maxHeartbeats 1000000 in
theorem g_meets_enum {v : Value} {o : Obj} {H : Heap → Prop} (B : Begins v o H) :
    Meets (Builtin.«enumerate.__new__» ⟨[.type "enumerate", v], []⟩) (fun _ R s => H s.heap ∧ R (.ok (.ret (.ref (s.heap.push o).objs.size))) { s with heap := (s.heap.push o).push { cls := .type "enumerate", data := .fields #[.none, .bool false, .ref s.heap.objs.size, rawInt 0, .none, .none] } }) :=
  .of_wp fun prog w A R s hR => by
    obtain ⟨hp, g,
          d, tk, os⟩ := s
    obtain ⟨hb, hR⟩ := hR
    have isub := sub_enumerate
    have begin_ : ∀ {A2 : Around} {E2 : Value → Shared → Prop} {Q2 : Value → Shared → Prop}, Q2 (.ref hp.objs.size) ⟨hp.push o, g, d, tk, os⟩ → wpAny (model prog w) A2 (pyIter v) Q2 E2 ⟨hp, g, d, tk, os⟩ := fun z => B.iter prog w _ _ ⟨hp, g, d, tk, os⟩ _ hb z
    wp_walk using begin_
    refine wpAny_stack_any fun stk => wpAny_pure ?_
    split
    · rename_i c _ _ _ _ _
      cases (c == Value.type "enumerate") <;> (wp_walk using begin_; exact ⟨_, rfl, hR⟩)
    · wp_walk using begin_
      exact ⟨_, rfl, hR⟩
end PySem
namespace G
open PySem PySem.Spec
      PyProof.Rows L2
theorem enum_tup {prog : Program} {w : World} {A : Around} {E : Value → Shared → Prop} {s : Shared} {t : Addr} {items : Array Value} {Q : Value → Shared → Prop} (ht : s.heap.IsTuple t items)
    (h : ∀ h', IsEnum h' (s.heap.objs.size + 1) s.heap.objs.size 0 .none → h'.IsTupleIter s.heap.objs.size t 0 → (∀ b o, s.heap.get? b = some o → h'.get? b = some o) → Q (.ref (s.heap.objs.size + 1)) { s with heap := h' }) :
    wpAny (model prog w) A (call (.type "enumerate") [.ref t]) Q E s := by
  refine callType_new F.called_enumerate (by decide) (F.typeCall_enumerate_1 _) (F.newCall_enumerate_1 _) (fun obj => F.args_object_init_2 obj _) F.entry_enumerate_new (g_meets_enum (begins_tuple t items)) ⟨ht, ?_⟩
  have sz : (s.heap.push { cls := .type "tuple_iterator", data := .fields #[.ref t, .int 0 0] }).objs.size = s.heap.objs.size + 1 := Heap.size_push ..
  show _ ∧ _
  rw [sz]
  have at1 := Heap.get?_push_size (s.heap.push { cls := .type "tuple_iterator", data := .fields #[.ref t, .int 0 0] }) (o := { cls := .type "enumerate", data := .fields #[.none, .bool false, .ref s.heap.objs.size, rawInt 0, .none, .none] }) rfl
  rw [sz] at at1
  exact ⟨⟨_, at1, rfl⟩, h _ at1 ⟨_, Heap.get?_push_of_some _ (Heap.get?_push_size _ rfl), rfl, rfl⟩ fun b o x => Heap.get?_push_of_some _ (Heap.get?_push_of_some _ x)⟩
/-- the tuple at a, each item in a new pair with its place -/
def IteT (K : PySem.W.Frag) (a : Addr) : It :=
  ⟨fun i H => ∃ (xs : List V) (x : V), SqT K H a xs ∧ xs[i]? = some x, fun i H v H' => ∃ T x, v = .ref T ∧ H T = none ∧ H' = upd H T (.tup [.int (i : Nat), x]) ∧ ∀ xs, SqT K H a xs → xs[i]? = some x, fun i H => ∃ xs : List V, SqT K H a xs ∧ xs.length = i⟩
theorem turn_enumT {P : Program} {w : World} {K : PySem.W.Frag} {elts : List Expr} {kk : Nat} {tpos : Pos} (a e it : Addr) (hae : a ≠ it) :
    Turn P w K (.Tuple elts kk tpos) (IteT K a) [e, it] e (fun i h => (∃ old, IsEnum h e it ((i : Nat) : Int) old) ∧ h.IsTupleIter it a i ∧ e ≠ it) where
  mem := List.mem_cons_self
  obj := fun i h ⟨⟨old, he⟩, ⟨o, ho, _, hd⟩, _⟩ b hb => by
    rcases List.mem_cons.mp
          hb with rfl | hb
    · exact ⟨_, he, fun v q => nomatch q⟩
    · cases List.mem_singleton.mp hb
      exact ⟨o, ho, fun v q => by rw [hd] at q; cases q⟩
  keep := fun i h h' ⟨⟨old, he⟩, hi, hne⟩ k => ⟨⟨old, k e (by simp) _ he⟩, hi.at fun o q => k it (by simp) o q, hne⟩
  item := by
    intro X hP hw hK hc i pins s σ H E I hf ⟨⟨old, he⟩, hit, hne⟩ ⟨xs, x, hq, hx⟩
    subst hP hw hK
    obtain ⟨us, rv, p, hz⟩ := I.tuple hq
    obtain ⟨y, hu, ru⟩ := rv.get hx
    have le1 : e < s.heap.objs.size := Heap.lt_size he
    have le2 : it < s.heap.objs.size := by obtain ⟨_, q, _⟩ := hit; exact Heap.lt_size q
    have hlt : i < us.toArray.size := by
      have := (List.getElem?_eq_some_iff.mp hu).1
      simpa using this
    have tp : s.heap.IsTuple a us.toArray := p
    by_cases hea : e = a
    · exfalso
      obtain ⟨o, ho, hco, _⟩ := tp
      rw [hea] at he
      rw [he] at ho
      cases ho
      exact absurd hco (by simp)
    · refine wpAny_pyNext_enum_itemD (Draws.tuple (A := X.A.in1) (I.ok.hd hc) it a hae us.toArray) he ⟨hit, tp⟩ hlt hne (by simp [hne, hea]) fun y' h' tk py ho st' hT hsz hk => ?_
      have ey : y' = y := by
        have e1 : us.toArray[i]? = some y := by simpa using hu
        rw [e1] at py
        exact (Option.some.inj py).symm
      subst ey
      refine ⟨_, rfl, wpAny_letOwnedTupleGo_enum (s := { s with heap := h', toks := tk + 1 }) ho fun h2 he2 sb => ?_⟩
      have atT : h2.get? s.heap.objs.size = some { cls := .type "tuple", data := .seq #[.int i tk, y'] } := (sb.2 _ (Nat.ne_of_gt le1)).trans hT
      have I1 : Inv X pins σ (upd H s.heap.objs.size (.tup [.int (i : Nat), x])) { s with heap := h2, toks := tk + 1 } :=
        I.turnedNew (ch := [e, it]) (fun b ob hb q => (sb.2 b (fun z => hb (by simp [z]))).trans (hk b ob (fun z => hb (by simp [z])) (fun z => hb (by simp [z])) q)) hf (Nat.le_refl _)
          ⟨by show 2 ≤ sizeLine; decide, [.int i tk, y'], .cons ⟨_, rfl⟩ (.cons ru .nil), ⟨_, atT, rfl, _, rfl⟩⟩
      refine ⟨.ref s.heap.objs.size, _, I1, rfl, ⟨_, x, rfl, I.hok.fresh (Nat.le_refl _), rfl, fun ys hy => by rw [I.tuple_inj hy hq]; exact hx⟩, ⟨⟨y', ?_⟩, st'.1.at fun o q => (sb.2 it (Ne.symm hne)).trans q, hne⟩, fun b hb => ?_⟩
      · have e1 : ((i + 1 : Nat) :
            Int) = (i : Int) + 1 := by omega
        rw [e1]
        exact he2
      · have lb : b < s.heap.objs.size := by
          rcases List.mem_cons.mp
                hb with rfl | hb
          · exact le1
          · cases List.mem_singleton.mp hb
            exact le2
        rw [upd_ne (Nat.ne_of_lt lb)]
        exact (hf b hb).1
  done := by
    intro X hP hw hK hc i pins s σ H E I hf ⟨⟨old, he⟩, hit, hne⟩ ⟨xs, hq, hx⟩
    subst hP hw hK
    obtain ⟨us, rv, p, hz⟩ := I.tuple hq
    have ln : i = us.toArray.size := by rw [List.size_toArray, ← rv.length]; exact hx.symm
    subst ln
    exact wpAny_pyNext_enum_endD (Draws.tuple (A := X.A.in1) (I.ok.hd hc) it a hae us.toArray) he ⟨hit, p⟩ fun h' eb => by
      obtain ⟨f0, f1, f2, f3,
            f4, f5⟩ := hf it (by simp)
      exact ⟨rfl, I.turned (t' := s.toks) (fun b o hb q => eb b o hb q) f0 f1 f3 f4 f5⟩
  self := fun A i s Q E ⟨⟨_, he⟩, _⟩ h => wpAny_pyIter_enum he h
/-- pairs of places and items -/
def enumD : Nat → List D → List D
  | _, [] => []
  | i, d :: ds => .tup [.int (i : Int), d] :: enumD (i + 1) ds
theorem enumD_get : ∀ {ds : List D} {j i : Nat}, (enumD j ds)[i]? = (ds[i]?).map fun d => .tup [.int ((j + i : Nat) : Int), d]
  | [], j, i => by simp [enumD]
  | d :: ds, j, 0 => by simp [enumD]
  | d :: ds, j, i + 1 => by
    unfold enumD
    rw [List.getElem?_cons_succ, List.getElem?_cons_succ, enumD_get, show j + 1 + i = j + (i + 1) by omega]
theorem enumD_len : ∀ {ds : List D} {j : Nat}, (enumD j ds).length = ds.length
  | [], _ => rfl
  | d :: ds, j => by simp [enumD, enumD_len]
def zipD : List D → List D → List D
  | a :: as, b :: bs => .tup [a, b] :: zipD as bs
  | _, _ => []
theorem zipD_get : ∀ {as bs : List D} {i : Nat} {d : D}, (zipD as bs)[i]? = some d → ∃ a b, as[i]? = some a ∧ bs[i]? = some b ∧ d = .tup [a, b]
  | [], _, i, d, h => by simp [zipD] at h
  | _ :: _, [], i, d, h => by simp [zipD] at h
  | a :: as, b :: bs, 0, d, h => by simp [zipD] at h; exact ⟨a, b, rfl, rfl, h.symm⟩
  | a :: as, b :: bs, i + 1, d, h => by
    unfold zipD at h
    rw [List.getElem?_cons_succ] at h
    obtain ⟨x, y, h1, h2, h3⟩ := zipD_get h
    exact ⟨x, y, by simpa using h1, by simpa using h2, h3⟩
theorem zipD_len : ∀ {as bs : List D}, (zipD as bs).length = min as.length bs.length
  | [], _ => by simp [zipD]
  | _ :: _, [] => by simp [zipD]
  | a :: as, b :: bs => by
    rw [zipD, List.length_cons, List.length_cons, List.length_cons, zipD_len]
    omega
section
variable {K : PySem.W.Frag} {u : U} {Z Z' : Addr → Prop} {as as' : As} {H : Hp}
theorem pair_rep {Hc : Hp} {μ' : List SO} (R : RelS K u Z' as' μ' Hc) {T : Addr} {x y : V} {a b : D} (hT : Hc T = none) (ra : RepV K u Z' as' Hc a x) (rb : RepV K u Z' as' Hc b y) : Same Hc (upd Hc T (.tup [x, y])) ∧ RepV K u Z' as' (upd Hc T (.tup [x, y])) (.tup [a, b]) (.ref T) :=
  ⟨up hT, newTup R hT (.cons ra (.cons rb .nil))⟩
theorem rd_later {p : Addr} {xs : List V} {H' : Hp} (h : (Rd H p (.tup xs) ∧ ¬ Bad Z as p) ∨ KTup K p xs) (hz : ∀ p, Z' p → Z p ∨ H p = none) (lt : LaterB Z' as H as' H') : SqT K H' p xs := h.elim (fun q => .inl (lt.rd q.1 (fun _ z => by cases z) (newZr hz q.1 q.2)).1) .inr
theorem iok_enumT {a : Addr} {xs : List V} {ds : List D} (h : (Rd H a (.tup xs) ∧ ¬ Bad Z as a) ∨ KTup K a xs) (r : RepVs K u Z as H ds xs) : IOk K u Z as H (IteT K a) (enumD 0 ds) := by
  refine ⟨fun H => SqT K H a xs, fun i Hc v H' => ∃ T x, v = .ref T ∧ Hc T = none ∧ H' = upd Hc T (.tup [.int (i : Nat), x]) ∧ xs[i]? = some x, ⟨fun i H hi q => ?_, fun H q => ⟨xs, q, by rw [enumD_len, r.length]⟩, fun i Hc x H' hi q ⟨T, y, h1, h2, h3, h4⟩ => ⟨T, y, h1, h2, h3, h4 xs q⟩⟩, fun Z' as' H' hz lt => rd_later h hz lt, fun i d Z' as' μ' Hc x H' hi lt hz R ⟨T, y, h1, h2, h3, h4⟩ => ?_⟩
  · rw [enumD_len, r.length] at hi
    exact ⟨xs, xs[i], q, by simp [hi]⟩
  · subst h1 h3
    rw [enumD_get, Option.map_eq_some_iff] at hi
    obtain ⟨d', hd, rfl⟩ := hi
    obtain ⟨v, hv, rv⟩ := (r.newZ hz).get hd
    rw [h4] at hv
    cases hv
    rw [Nat.zero_add]
    exact pair_rep R h2 (.int _) (rv.laterB lt)
theorem iok_enumL {a : Addr} {xs : List V} {ds : List D} (h : Rd H a (.lst xs)) (n : ¬ Bad Z as a) (r : RepVs K u Z as H ds xs) : IOk K u Z as H (Ite K a) (enumD 0 ds) := by
  refine ⟨fun H => SqL K H a xs, _, by rw [enumD_len, r.length]; exact walk_enum, fun Z' as' H' hz lt => .inl (lt.rd h (fun _ z => by cases z) (newZr hz h n)).1, fun i d Z' as' μ' Hc x H' hi lt hz R yp => ?_⟩
  obtain ⟨T, x1, y, h1, h2, h3, e1, h4⟩ := yp
  subst h1 h3
  cases e1
  rw [enumD_get, Option.map_eq_some_iff] at hi
  obtain ⟨d', hd, rfl⟩ := hi
  obtain ⟨v, hv, rv⟩ := (r.newZ hz).get hd
  dsimp only at h4
  rw [h4] at hv
  cases hv
  rw [Nat.zero_add]
  exact pair_rep R h2 (.int _) (rv.laterB lt)
theorem iok_zipL {a b : Addr} {xs ys : List V} {ds es : List D} (h : Rd H a (.lst xs)) (n : ¬ Bad Z as a) (r : RepVs K u Z as H ds xs) (h2 : Rd H b (.lst ys)) (n2 : ¬ Bad Z as b) (r2 : RepVs K u Z as H es ys) : IOk K u Z as H (Itz K a b) (zipD ds es) := by
  refine ⟨fun H => SqL K H a xs ∧ SqL K H b ys, _, walk_zip (by rw [zipD_len, r.length, r2.length]), fun Z' as' H' hz lt => ⟨.inl (lt.rd h (fun _ z => by cases z) (newZr hz h n)).1, .inl (lt.rd h2 (fun _ z => by cases z) (newZr hz h2 n2)).1⟩, fun i d Z' as' μ' Hc x H' hi lt hz R yp => ?_⟩
  obtain ⟨T, x1, y1, g1, g2, g3, g4, g5⟩ := yp
  subst g1 g3
  obtain ⟨a', b', ha, hb, rfl⟩ := zipD_get hi
  obtain ⟨v, hv, rv⟩ := (r.newZ hz).get ha
  obtain ⟨v2, hv2, rv2⟩ := (r2.newZ hz).get hb
  dsimp only at g4 g5
  rw [g4] at hv
  rw [g5] at hv2
  cases hv
  cases hv2
  exact pair_rep R g2 (rv.laterB lt) (rv2.laterB lt)
theorem iok_zipT {a b : Addr} {xs ys : List V} {ds es : List D} (h : (Rd H a (.tup xs) ∧ ¬ Bad Z as a) ∨ KTup K a xs) (r : RepVs K u Z as H ds xs) (h2 : (Rd H b (.tup ys) ∧ ¬ Bad Z as b) ∨ KTup K b ys) (r2 : RepVs K u Z as H es ys) : IOk K u Z as H (RZ.ItzT K a b) (zipD ds es) := by
  refine ⟨fun H => SqT K H a xs ∧ SqT K H b ys, fun i Hc v H' => ∃ T x y, v = .ref T ∧ Hc T = none ∧ H' = upd Hc T (.tup [x, y]) ∧ xs[i]? = some x ∧ ys[i]? = some y, ⟨fun i H hi q => ?_, fun H q => ⟨xs, ys, q.1, q.2, by rw [zipD_len, r.length, r2.length]; omega⟩, fun i Hc x H' hi q ⟨T, x1, y1, g1, g2, g3, g4, g5⟩ => ⟨T, x1, y1, g1, g2, g3, g4 xs q.1, g5 ys q.2⟩⟩, fun Z' as' H' hz lt => ⟨rd_later h hz lt, rd_later h2 hz lt⟩, fun i d Z' as' μ' Hc x H' hi lt hz R ⟨T, x1, y1, g1, g2, g3, g4, g5⟩ => ?_⟩
  · rw [zipD_len, r.length, r2.length] at hi
    exact ⟨xs, ys, xs[i]'(by omega), ys[i]'(by omega), q.1, q.2, by simp [show i < xs.length by omega], by simp [show i < ys.length by omega]⟩
  · subst g1 g3
    obtain ⟨a', b', ha, hb, rfl⟩ := zipD_get hi
    obtain ⟨v, hv, rv⟩ := (r.newZ hz).get ha
    obtain ⟨v2, hv2, rv2⟩ := (r2.newZ hz).get hb
    rw [g4] at hv
    rw [g5] at hv2
    cases hv
    cases hv2
    exact pair_rep R g2 (rv.laterB lt) (rv2.laterB lt)
end
def enumM (m : SM (List D)) : SM (List D) := fun ρ μ => (m ρ μ).bind fun ds μ1 => match ds with
  | [.tup xs] => .ok (enumD 0 xs) μ1
  | [.lst xs] => .ok (enumD 0 xs) μ1
  | _ => .no
def zipM (m : SM (List D)) : SM (List D) := fun ρ μ => (m ρ μ).bind fun ds μ1 => match ds with
  | [.tup xs, .tup ys] => .ok (zipD xs ys) μ1
  | [.lst xs, .lst ys] => .ok (zipD xs ys) μ1
  | _ => .no
section
variable {X : Cx} {u : U} {W : WX} {e e2 : Expr} {m : SM (List D)} {p pos tpos : Pos} {elts : List Expr} {kk : Nat}
theorem gi_zip (hm : X.mg "zip" = none) (ha : PA X [e, e2] (tmA X.K u W m)) (hg : Gl X "zip" := by rfl)
    (hs : starEach [e, e2] X.env = (false, eval e X.env) :: starEach [e2] X.env :=
          by rfl) (hpl : (backTo pos (starEach [e2] X.env)).any (·.1) = false := by rfl) :
    PI X (.Tuple elts kk tpos) (.Call (.Name "zip" p) [e, e2] [] pos) (tmI X.K u W (zipM m)) := by
  refine ⟨fun pins s σ H R I ⟨Z, as, ρ, μ, Rl, h⟩ => (RZ.pi_zipA hg hm ha hs hpl).run pins s σ H R I ⟨Z, as, ρ, μ, Rl, h.bind.mono fun as1 H1 μ1 ds lt R1 h1 vs q => ?_⟩⟩
  split at h1
  · obtain ⟨x, y, rfl, rx, ry⟩ := q.two
    cases rx with
    | tup hp r =>
      cases ry with
      | tup hp2 r2 => exact ⟨_, _, _, _, rfl, .inr ⟨sqT_of hp, sqT_of hp2, Post.now (a := _) h1 R1 _ (iok_zipT hp r hp2 r2)⟩⟩
  · obtain ⟨x, y, rfl, rx, ry⟩ := q.two
    cases rx with
    | lst hp n r =>
      cases ry with
      | lst hp2 n2 r2 => exact ⟨_, _, _, _, rfl, .inl ⟨.inl hp, .inl hp2, Post.now (a := _) h1 R1 _ (iok_zipL hp n r hp2 n2 r2)⟩⟩
  · exact h1.elim
theorem gi_enum (hm : X.mg "enumerate" = none) (ha : PA X [e] (tmA X.K u W m)) (hg : Gl X "enumerate" := by rfl) (hs : starEach [e] X.env = [(false, eval e X.env)] := by rfl) :
    PI X (.Tuple elts kk tpos) (.Call (.Name "enumerate" p) [e] [] pos) (tmI X.K u W (enumM m)) := by
  refine ⟨fun pins s σ H R I ⟨Z, as, ρ, μ, Rl, h⟩ => ?_⟩
  refine Call_ (ld_blt I hg hm boot_enumerate (PyProof.Rows.callWith_type1 (thn (ha.run pos pins s σ H (fun vs H1 => ∃ as1 μ1 ds, Rel X.K u Z as1 ρ μ1 σ H1 ∧ RepVs X.K u Z as1 H1 ds vs ∧ Post X.K u W Z ρ σ as1 H1 (match ds with
      | [.tup xs] => .ok (enumD 0 xs) μ1
      | [.lst xs] => .ok (enumD 0 xs) μ1
      | _ => .no) fun as' H' _ ds => ∀ J, IOk X.K u Z as' H' J ds → R J H') I
    ⟨Z, as, ρ, μ, Rl, h.bind.mono fun as1 H1 μ1 d lt R1 h1 v q => ⟨as1, μ1, d, R1, q, h1⟩⟩) fun us s1 ⟨vs, H1, I1, r1, as1, μ1, ds, R1, q, h1⟩ => ?_) hs rfl))
  have fresh2 : ∀ c, c ∈ [s1.heap.objs.size + 1, s1.heap.objs.size] → FpOk X pins H1 c := fun c hc => by
    have hle :
          s1.heap.objs.size ≤ c := by
      rcases List.mem_cons.mp
            hc with rfl | hc
      · exact Nat.le_succ _
      · cases List.mem_singleton.mp hc
        exact Nat.le_refl _
    exact I1.fpOk hle
          (I1.hok.fresh hle)
  split at h1
  · obtain ⟨x, rfl, rx⟩ := q.one
    obtain ⟨w, rfl, rw'⟩ := vals1 r1
    cases rx with
    | tup hp r =>
      cases rw'
      obtain ⟨its, rv, pt, hz⟩ := I1.tuple (sqT_of hp)
      have ptp : s1.heap.IsTuple _ its.toArray := pt
      refine enum_tup ptp fun h' he hit hk => wpAny_pyIter_enum he ?_
      exact ⟨s1.heap.objs.size + 1, _, _, _, H1, rfl, I1.kept (t' := s1.toks) hk, turn_enumT _ (s1.heap.objs.size + 1) s1.heap.objs.size (by obtain ⟨o, ho, _⟩ := ptp; exact Nat.ne_of_lt (Heap.lt_size ho)), ⟨⟨.none, he⟩, hit, Nat.succ_ne_self _⟩, fresh2, Post.now (a := _) h1 R1 _ (iok_enumT hp r)⟩
  · obtain ⟨x, rfl, rx⟩ := q.one
    obtain ⟨w, rfl, rw'⟩ := vals1 r1
    cases rx with
    | lst hp n r =>
      cases rw'
      obtain ⟨its, rv, pt, hz⟩ := I1.list (.inl hp)
      refine call_enumerate_list pt.isList fun h' he hit hsz hk => wpAny_pyIter_enum he ?_
      exact ⟨s1.heap.objs.size + 1, _, _, _, H1, rfl, I1.kept (t' := s1.toks) hk, turn_enum _ (s1.heap.objs.size + 1) s1.heap.objs.size, ⟨⟨.none, he⟩, hit, Nat.succ_ne_self _⟩, fresh2, Post.now (a := _) h1 R1 _ (iok_enumL hp n r)⟩
  · exact h1.elim
end
end G

set_option Elab.async false
set_option linter.all false
set_option maxRecDepth 100000
/-! GO: comprehensions of two clauses; calls by keywords; dicts; list(range(..)). -/
namespace G
open PySem PySem.Spec
      PyProof.Rows L2
/-- both clauses -/
def lc2L (tg : Tg) (mt : SM Bool) (mi1 : SM (List D)) (vs1 : List Nat) (tg1 : Tg) (mt1 : SM Bool) (me : SE) (ρ : Env) : List D → List SO → Res (List D)
  | [], μ => .ok [] μ
  | d :: ds, μ => match assignD tg d ρ with
    | none => .no
    | some ρ2 => (mt ρ2 μ).bind fun b μ1 => if b then (mi1 ρ2 μ1).bind fun ds1 μ2 => (lcL tg1 mt1 me (wipeD ρ2 vs1) ds1 μ2).bind fun L1 μ3 => (lc2L tg mt mi1 vs1 tg1 mt1 me ρ ds μ3).map (L1 ++ ·) else lc2L tg mt mi1 vs1 tg1 mt1 me ρ ds μ1
def lc2M (mi : SM (List D)) (vs : List Nat) (tg : Tg) (mt : SM Bool) (mi1 : SM (List D)) (vs1 : List Nat) (tg1 : Tg) (mt1 : SM Bool) (me : SE) : SE := fun ρ μ => (mi ρ μ).bind fun ds μ1 => match lc2L tg mt mi1 vs1 tg1 mt1 me (wipeD ρ vs) ds μ1 with
  | .ok L μ2 => if few L.length then .ok (.lst L) μ2 else .no
  | _ => .no
theorem walk_in {J : It} {n : Nat} {Gd : Hp → Prop} {Y : Nat → Hp → V → Hp → Prop} (w : Walk J n Gd Y) {g : TG} {tt : TT} {te : TE} {vs : List Nat} {σ : L2.St} {H1 : Hp} {Da : Addr} {Nx : Hp → Prop} (Pv : Nat → Hp → Prop) (h0 : Pv 0 H1) (hG : ∀ i H, i ≤ n → Pv i H → Gd H)
    (hs : ∀ i x H H', i < n → Pv i H → Y i H x H' → g x (L2.wipe σ vs) H' fun σ2 H2 => L2.wipe σ2 vs = L2.wipe σ vs ∧ tt σ2 H2 fun b H3 =>
      if b = true then te σ2 H3 fun y H4 => ∃ acc, H4 Da = some (.lst acc) ∧ acc.length < sizeLine ∧ Pv (i + 1) (upd H4 Da (.lst (acc ++ [y]))) else Pv (i + 1) H3) (hd : ∀ H, Pv n H → Nx H) :
    ∃ W1 : Nat → Nat → Hp → Prop, (∃ m, W1 0 m H1) ∧ ∀ j k H, W1 j k H →
      (J.stop j H ∧ Nx H) ∨ (J.go j H ∧ ∃ Nx1 : Hp → Prop, (∀ H', Nx1 H' → ∃ k', k' < k ∧ W1 (j + 1) k' H') ∧ ∀ x H', J.yld j H x H' → g x (L2.wipe σ vs) H' fun σ3 H5 => L2.wipe σ3 vs = L2.wipe σ vs ∧ tt σ3 H5 fun b H6 =>
        if b = true then te σ3 H6 fun y H7 => ∃ acc, H7 Da = some (.lst acc) ∧ acc.length < sizeLine ∧ Nx1 (upd H7 Da (.lst (acc ++ [y]))) else Nx1 H6) := by
  refine ⟨fun j k H => k = n - j ∧ j ≤ n ∧ Pv j H, ⟨n, by simp, Nat.zero_le _, h0⟩, ?_⟩
  rintro j k H ⟨ek, hj, p⟩
  have q := hG j H hj p
  by_cases hlt : j < n
  · exact .inr ⟨w.goes j H hlt q, Pv (j + 1), fun H' p' => ⟨n - (j + 1), by omega, rfl, hlt, p'⟩, fun x H' y => hs j x H H' hlt p (w.yields j H x H' hlt q y)⟩
  · have e : j = n := by omega
    subst e
    exact .inl ⟨w.stops
          H q, hd H p⟩
section
variable {X : Cx} {u : U} {W : WX} {k : Nat} {tgd tgd1 : Tg} {mi mi1 : SM (List D)} {mt mt1 : SM Bool} {me : SE} {tg iter elt tg1 iter1 : Expr} {ifs ifs1 : List Expr} {scope : Scope} {own : List (Str × Nat)} {vs1 : List Nat} {pos : Pos}
theorem tLc2_of (hown : ∀ i ∈ tgd.slots, i ∈ own.map (·.2)) (hown1 : ∀ i ∈ tgd1.slots, i ∈ vs1) (hsub : ∀ i ∈ vs1, i ∈ own.map (·.2)) {σ : L2.St} {H : Hp} {Q : VK} (h : tm X.K u W (lc2M mi (own.map (·.2)) tgd mt mi1 vs1 tgd1 mt1 me) σ H Q) :
    tLc2 (tmI X.K u W mi) (tmG X.K u tgd) (tmT X.K u W0 mt) (tmI X.K u W0 mi1) (tmG X.K u tgd1) (tmT X.K u W0 mt1) (tm X.K u W0 me) (own.map (·.2)) vs1 σ H Q := by
  obtain ⟨Z, as, ρ, μ, R, h⟩ := h
  refine ⟨Z, as, ρ, μ, R, h.bind.mono fun as1 H1 μ1 ds lt R1 h1 J ok Da hD => ?_⟩
  obtain ⟨Gd, Y, wk, hG, hY⟩ := ok
  cases et : lc2L tgd mt mi1 vs1 tgd1 mt1 me (wipeD ρ (own.map (·.2))) ds μ1 with
  | exc c fs μ2 => rw [et] at h1; exact h1.elim
  | no => rw [et] at h1; exact h1.elim
  | ok L μf =>
    rw [et] at h1
    dsimp only at h1
    split at h1
    · rename_i hf
      have hz : ∀ p, ZD Z Da p → Z p ∨ H1 p = none := fun p z => z.imp id fun e => by rw [e]; exact hD
      have zd : ∀ as', Bad (ZD Z Da) as' Da := fun as' => .inl (.inr rfl)
      -- the outer turn
      let Pv : Nat → Hp → Prop := fun i H' => ∃ as' μ' accd accv rest, Later as1 H1 as' H' ∧ Rel X.K u (ZD Z Da) as' (wipeD ρ (own.map (·.2))) μ' (L2.wipe σ (own.map (·.2))) H' ∧ H' Da = some (.lst accv) ∧ RepVs X.K u (ZD Z Da) as' H' accd accv ∧
          lc2L tgd mt mi1 vs1 tgd1 mt1 me (wipeD ρ (own.map (·.2))) (ds.drop i) μ' = .ok rest μf ∧ accd ++ rest = L
      have hP0 : Pv 0 (upd H1 Da (.lst [])) := ⟨as1, μ1, [], [], L, Later.new hD, (R1.wipe _).own hD (fun _ z => by cases z), upd_same, .nil, et, rfl⟩
      refine ⟨fun i m H => m = ds.length - i ∧ i ≤ ds.length ∧ Pv i H, ⟨ds.length, by simp, Nat.zero_le _, hP0⟩, ?_⟩
      rintro i m Hi ⟨em, hi, as', μ', accd, accv, rest, lt', R', hDa, qa, hL, hacc⟩
      have gi := hG (ZD Z Da) as' Hi hz lt'.b
      by_cases hlt : i < ds.length
      · refine .inr ⟨wk.goes i Hi hlt gi, Pv (i + 1), fun H' p' => ⟨ds.length - (i + 1), by omega, rfl, hlt, p'⟩, fun x H' y => ?_⟩
        have ed : ds.drop i = ds[i] :: ds.drop (i + 1) := List.drop_eq_getElem_cons hlt
        obtain ⟨sm, q⟩ := hY i ds[i] (ZD Z Da) as' μ' Hi x H' (by simp [hlt]) lt'.b hz R'.s (wk.yields i Hi x H' hlt gi y)
        obtain ⟨R2, lt2⟩ := R'.same sm
        rw [ed] at hL
        unfold lc2L at hL
        cases ea : assignD tgd ds[i] (wipeD ρ (own.map (·.2))) with
        | none => rw [ea] at hL; cases hL
        | some ρ2 =>
          rw [ea] at hL
          obtain ⟨kb, μ3, e3, hL⟩ := Res.bind_ok hL
          refine assignD_ok ea R2 q fun σ2 R3 on => ?_
          have hw2 := wipe_only hown on
          refine ⟨hw2, ZD Z Da, as', ρ2, μ', R3, ?_⟩
          rw [e3]
          intro as4 H4 lt4 R4
          have lt5 := (lt'.trans lt2).trans lt4
          have Rw : ∀ {as5 : As} {μ5 : List SO} {H5 : Hp}, Later as' H' as5 H5 → RelS X.K u (ZD Z Da) as5 μ5 H5 → Rel X.K u (ZD Z Da) as5 (wipeD ρ (own.map (·.2))) μ5 (L2.wipe σ (own.map (·.2))) H5 := fun l s => R2.mono l s
          have hd4 : H4 Da = some (.lst accv) := (lt4.keep _ _ (sm _ _ hDa) (fun _ z => by cases z) (R2.s.zok Da (.inr rfl)).2).1
          cases kb with
          | false =>
            simp only [Bool.false_eq_true, if_false] at hL ⊢
            exact ⟨as4, μ3, accd, accv, rest, lt5, Rw lt4 R4.s, hd4, (qa.later lt2).later lt4, hL, hacc⟩
          | true =>
            simp only [if_true] at hL ⊢
            obtain ⟨ds1, μ6, e6, hL⟩ := Res.bind_ok hL
            obtain ⟨L1, μ7, e7, hL⟩ := Res.bind_ok hL
            obtain ⟨rest2, e8, er⟩ := Res.map_ok hL
            refine ⟨ZD Z Da, as4, ρ2, μ3, R4, ?_⟩
            rw [e6]
            intro as8 H8 lt8 R8 J1 ok1
            obtain ⟨Gd1, Y1, wk1, hG1, hY1⟩ := ok1
            have hd8 : H8 Da = some (.lst accv) := (lt8.keep _ _ hd4 (fun _ z => by cases z) (R4.s.zok Da (.inr rfl)).2).1
            have lt9 : Later as' H' as8 H8 := lt4.trans lt8
            -- the inner turn
            have bD : ∀ as', Bad (ZD Z Da) as' Da := fun as' => .inl (.inr rfl)
            refine walk_in wk1 (fun j H' => ∃ as' μ' accd' accv' rest1, LaterB (ZD Z Da) as8 H8 as' H' ∧ Later as1 H1 as' H' ∧ Rel X.K u (ZD Z Da) as' (wipeD ρ2 vs1) μ' (L2.wipe σ2 vs1) H' ∧ Rel X.K u (ZD Z Da) as' (wipeD ρ (own.map (·.2))) μ' (L2.wipe σ (own.map (·.2))) H' ∧ H' Da = some (.lst accv') ∧ RepVs X.K u (ZD Z Da) as' H' accd' accv' ∧
              lcL tgd1 mt1 me (wipeD ρ2 vs1) (ds1.drop j) μ' = .ok rest1 μ7 ∧ accd' ++ (rest1 ++ rest2) = L)
              ⟨as8, μ6, accd, accv, L1, (Later.refl _ _).b, lt'.trans (lt2.trans (lt4.trans lt8)), R8.wipe _, Rw (lt4.trans lt8) R8.s, hd8, ((qa.later lt2).later lt4).later lt8, e7, by rw [← er]; exact hacc⟩
              (fun j H' _ ⟨as', _, _, _, _, lt', _⟩ => hG1 (ZD Z Da) as' H' (fun p z => .inl z) lt') ?_ ?_
            · rintro j x1 Hc Hx hj ⟨as', μ', accd', accv', rest1, ltb, ltl, Ri, Ro, hDi, qi, hLi, hai⟩ y1
              have ed1 : ds1.drop j = ds1[j] :: ds1.drop (j + 1) := List.drop_eq_getElem_cons hj
              obtain ⟨sm1, q1⟩ := hY1 j ds1[j] (ZD Z Da) as' μ' Hc x1 Hx (by simp [hj]) ltb (fun p z => .inl z) Ri.s y1
              obtain ⟨Ri2, lti2⟩ := Ri.same sm1
              obtain ⟨Ro2, _⟩ := Ro.same sm1
              rw [ed1] at hLi
              unfold lcL at hLi
              cases ea1 : assignD tgd1 ds1[j] (wipeD ρ2 vs1) with
              | none => rw [ea1] at hLi; cases hLi
              | some ρ3 =>
                rw [ea1] at hLi
                obtain ⟨kb1, μ8, f3, hLi⟩ := Res.bind_ok hLi
                refine assignD_ok ea1 Ri2 q1 fun σ3 R9 on1 => ⟨wipe_only hown1 on1, ZD Z Da, as', ρ3, μ', R9, ?_⟩
                rw [f3]
                intro as10 H10 lt10 R10
                have hd10 : H10 Da = some (.lst accv') := (lt10.keep _ _ (sm1 _ _ hDi) (fun _ z => by cases z) (Ri2.s.zok Da (.inr rfl)).2).1
                have ltb10 : LaterB (ZD Z Da) as8 H8 as10 H10 := (ltb.trans lti2.b).trans lt10.b
                have ltl10 := (ltl.trans lti2).trans lt10
                cases kb1 with
                | false =>
                  simp only [Bool.false_eq_true, if_false] at hLi ⊢
                  exact ⟨as10, μ8, accd', accv', rest1, ltb10, ltl10, Ri2.mono lt10 R10.s, Ro2.mono lt10 R10.s, hd10, (qi.later lti2).later lt10, hLi, hai⟩
                | true =>
                  simp only [if_true] at hLi ⊢
                  obtain ⟨xd, μ9, f6, hLi⟩ := Res.bind_ok hLi
                  obtain ⟨rest', f7, fr⟩ := Res.map_ok hLi
                  refine ⟨ZD Z Da, as10, ρ3, μ8, R10, ?_⟩
                  rw [f6]
                  intro as11 H11 lt11 R11 v qv
                  have hd11 : H11 Da = some (.lst accv') := (lt11.keep _ _ hd10 (fun _ z => by cases z) (R10.s.zok Da (.inr rfl)).2).1
                  have q11 := ((qi.later lti2).later lt10).later lt11
                  have hlen : accv'.length < sizeLine := by
                    have h1 : accd'.length < L.length := by
                      rw [← hai, fr]
                      simp
                    rw [← q11.length]
                    exact Nat.lt_of_lt_of_le h1 (few_line hf)
                  exact ⟨accv', hd11, hlen, as11, μ9, accd' ++ [xd], accv' ++ [v], rest', (ltb10.trans lt11.b).upd (bD _), (ltl10.trans lt11).updN hD, (Ri2.mono (lt10.trans lt11) R11.s).updZ (.inr rfl) hd11, (Ro2.mono (lt10.trans lt11) R11.s).updZ (.inr rfl) hd11, upd_same, (q11.append (.cons qv .nil)).updZ (bD _), f7, by rw [← hai, fr]; simp⟩
            · rintro H' ⟨as', μ', accd', accv', rest1, ltb, ltl, Ri, Ro, hDi, qi, hLi, hai⟩
              rw [List.drop_length] at hLi
              unfold lcL at hLi
              cases hLi
              exact ⟨as', _, accd', accv', rest2, ltl, Ro, hDi, qi, e8, hai⟩
      · have e : i = ds.length := by omega
        subst e
        refine .inl ⟨wk.stops Hi gi, ?_⟩
        rw [List.drop_length] at hL
        unfold lc2L at hL
        cases hL
        rw [List.append_nil] at hacc
        subst hacc
        have less : ∀ p, Z p → ZD Z Da p := fun p z => .inl z
        refine h1 as' Hi lt' (R1.mono lt' (R'.s.lessZ less)) _ (.lst (.inl hDa) ?_ (qa.lessZ less))
        rintro (z | ⟨l, e⟩)
        · exact R1.s.fresh hD (.inl z)
        · exact (R'.s.zok Da (.inr rfl)).2 l e
    · exact h1.elim
theorem ge_lc2 (g : Go X u W k) (hi : PI X tg iter (tmI X.K u W mi)) (ok : BlkOk X.N X.env.scope scope own) (hown : ∀ i ∈ tgd.slots, i ∈ own.map (·.2)) (hown1 : ∀ i ∈ tgd1.slots, i ∈ vs1) (hsub : ∀ i ∈ vs1, i ∈ own.map (·.2))
    (hg : ∀ (s : Shared) (H : Hp) (C : Addr) (cl : List (Str × Addr)) (fp : List Addr), PG (X.blk s H scope (compEnvC scope cl C X.env) fp) tg (tmG X.K u tgd)) (ht : ∀ (s : Shared) (H : Hp) (C : Addr) (cl : List (Str × Addr)) (fp : List Addr), PTs (X.blk s H scope (compEnvC scope cl C X.env) fp) ifs (tmT X.K u W0 mt))
    (hi1 : ∀ (s : Shared) (H : Hp) (C : Addr) (cl : List (Str × Addr)) (fp : List Addr), PI (X.blk s H scope (compEnvC scope cl C X.env) fp) tg1 iter1 (tmI X.K u W0 mi1))
    (hg1 : ∀ (s : Shared) (H : Hp) (C : Addr) (cl : List (Str × Addr)) (fp : List Addr), PG (X.blk s H scope (compEnvC scope cl C X.env) fp) tg1 (tmG X.K u tgd1)) (ht1 : ∀ (s : Shared) (H : Hp) (C : Addr) (cl : List (Str × Addr)) (fp : List Addr), PTs (X.blk s H scope (compEnvC scope cl C X.env) fp) ifs1 (tmT X.K u W0 mt1))
    (he : ∀ (s : Shared) (H : Hp) (C : Addr) (cl : List (Str × Addr)) (fp : List Addr), Go (X.blk s H scope (compEnvC scope cl C X.env) fp) u W0 k → PE (X.blk s H scope (compEnvC scope cl C X.env) fp) elt (tm X.K u W0 me))
    (hs : ∀ x, foldedSetIterable iter X.env x = pure x := by intro _; rfl) (hs1 : ∀ env x, foldedSetIterable iter1 env x = pure x := by intro _ _; rfl) :
    PE X (.ListComp elt [⟨tg, iter, ifs, 0⟩, ⟨tg1, iter1, ifs1, 0⟩] scope pos) (tm X.K u W (lc2M mi (own.map (·.2)) tgd mt mi1 vs1 tgd1 mt1 me)) :=
  (pe_lc2 g.calm g.nd hi ok hsub hg ht hi1 hg1 ht1 (fun s H C cl fp => he s H C cl fp (go_blk g s H _ fp)) hs hs1).gwk fun σ H Q h => tLc2_of hown hown1 hsub h
end
/-! ### calls by keywords -/
def pick {α : Type} (idx : List Nat) (xs : List α) : List α := idx.filterMap fun i => xs[i]?
/-- how a call with nu values and the keywords ks binds -/
structure KB (K : PySem.W.Frag) (fd : FuncData) (ps ks : List Str) (nu : Nat) (idx : List Nat) : Prop where
  to : ∀ us ws : List Value, us.length = nu → ws.length = ks.length → bindArgs fd ⟨us, ks.zip ws⟩ = pure (ps.zip (pick idx (us ++ ws)))
theorem vals_pick {xs : List V} {us : List Value} (r : Vals xs us) : ∀ idx : List Nat, Vals (pick idx xs) (pick idx us)
  | [] => .nil
  | i :: idx => by
    unfold pick
    rw [List.filterMap_cons, List.filterMap_cons]
    cases h : xs[i]? with
    | none =>
      have h2 : us[i]? = none := by
        rw [List.getElem?_eq_none_iff] at h ⊢
        rw [← r.length]
        exact h
      rw [h2]
      exact vals_pick r idx
    | some x =>
      obtain ⟨w, e, rw'⟩ := r.get h
      rw [e]
      exact .cons rw' (vals_pick r idx)
theorem reps_pick {K : PySem.W.Frag} {u : U} {Z : Addr → Prop} {as : As} {H : Hp} {ds : List D} {vs : List V} (r : RepVs K u Z as H ds vs) : ∀ idx : List Nat, RepVs K u Z as H (pick idx ds) (pick idx vs)
  | [] => .nil
  | i :: idx => by
    unfold pick
    rw [List.filterMap_cons, List.filterMap_cons]
    cases h : ds[i]? with
    | none =>
      have h2 : vs[i]? = none := by
        rw [List.getElem?_eq_none_iff] at h ⊢
        rw [← r.length]
        exact h
      rw [h2]
      exact reps_pick r idx
    | some x =>
      obtain ⟨w, e, rw'⟩ := r.get h
      rw [e]
      exact .cons rw' (reps_pick r idx)
/-- first the values, then the keywords' values -/
def kwM (nu nk : Nat) (idx : List Nat) (a b : SM (List D)) : SM (List D) := fun ρ μ => (a ρ μ).bind fun xs μ1 => (b ρ μ1).bind fun ys μ2 => if xs.length = nu ∧ ys.length = nk then .ok (pick idx (xs ++ ys)) μ2 else .no
section
variable {X : Cx} {u : U} {W : WX} {j k : Nat} {f : Addr} {fd : FuncData} {ps ks : List Str} {sp : Sp} {x : Str} {p pos kpos : Pos} {e : Expr} {es : List Expr} {kws : List Keyword} {nm : Option Str} {m n : SM (List D)} {me : SE} {nu : Nat} {idx : List Nat}
theorem _root_.L2.PK.gwk {e : List Keyword} {t t' : TA} (h : PK X e t) (w : ∀ σ H Q, t' σ H Q → t σ H Q) : PK X e t' := ⟨fun pos pins s σ H Q I hq => h.run pos pins s σ H Q I (w σ H Q hq)⟩
theorem gk_nil : PK X [] (tmA X.K u W nilM) := pk_nil.gwk fun σ H Q ⟨Z, as, ρ, μ, R, h⟩ => h.now R [] .nil
theorem gk_cons (ha : PE X e (tm X.K u W me)) (hr : PK X kws (tmA X.K u W n)) : PK X (⟨nm, e, kpos⟩ :: kws) (tmA X.K u W (consM me n)) := by
  refine (pk_cons ha hr).gwk fun σ H Q ⟨Z, as, ρ, μ, R, h⟩ => ⟨Z, as, ρ, μ, R, h.bind.mono fun as1 H1 μ1 d lt R1 h1 v q => ⟨Z, as1, ρ, μ1, R1, h1.map.mono fun as2 H2 μ2 ds lt2 R2 h2 vs qs => h2 (v :: vs) (.cons (q.later lt2) qs)⟩⟩
theorem run_fnGK {pins : List (Addr × Obj)} {σ : L2.St} {H : Hp} {s : Shared} {Q : VK} {us ws : List Value} {vs zs : List V} (F : FnG X.prog X.w X.K X.mg X.base j f fd ps sp) (g : Go X u W k) (hj : j ≤ k) (hb : KB X.K fd ps ks nu idx)
    (I : Inv X pins σ H s) (r : Vals vs us) (rz : Vals zs ws) (hn : vs.length = nu) (hk : zs.length = ks.length) (h : sp (pick idx (vs ++ zs)) H Q (WE W σ)) : wpAny (model X.prog X.w) X.A (call (.ref f) us (ks.zip ws)) (EP X pins σ Q) X.xe s := by
  have b := BindsTo.of_eq (s := s) (hb.to us ws (by rw [← r.length]; exact hn) (by rw [← rz.length]; exact hk))
  refine wpAny_call (codeAny_mono (F.run X.A X.stack s H ⟨us, ks.zip ws⟩ _ _ Q (WE W σ) (g.room.mono hj) g.guards I.env0 b (vals_pick (r.append rz) idx) h) fun r s' hq => ?_)
  cases r with
  | error e => exact passAt g.takes σ pins H s e s' I hq
  | ok fl =>
    cases fl with
    | ret u => exact I.after hq
    | next => exact False.elim hq
    | brk => exact False.elim hq
    | cont => exact False.elim hq
def tCallGK (idx : List Nat) (nu nk : Nat) (sp : Sp) (W : WX) (t tk : TA) : TE := fun σ H Q => t σ H fun vs H1 => tk σ H1 fun zs H2 => vs.length = nu ∧ zs.length = nk ∧ sp (pick idx (vs ++ zs)) H2 Q (WE W σ)
theorem pe_callGK {t tk : TA} (F : FnG X.prog X.w X.K X.mg X.base j f fd ps sp) (g : Go X u W k) (hj : j ≤ k) (hg : Gl X x) (hm : X.mg x = some (.ref f)) (hk : PySem.W.keepIn X.K (.ref f) = true) (hb : KB X.K fd ps ks nu idx)
    (ha : PA X (e :: es) t) (hkw : PK X kws tk) (hall : (backToKw pos (keywordEach kws X.env)).all (·.1.isSome)
          = true := by rfl) (hks : (backToKw pos (keywordEach kws X.env)).filterMap (·.1) = ks := by rfl)
    (hdb : (x == ("__debug__" : Str)) = false :=
          by decide) (he : starEach (e :: es) X.env = (false, eval e X.env) :: starEach es X.env := by rfl)
    (hpl : ((backTo pos (starEach (e :: es) X.env)).any (·.1) || (backToKw
          pos (keywordEach kws X.env)).any (·.1.isNone)) = false := by rfl) :
    PE X (.Call (.Name x p) (e :: es) kws pos) (tCallGK idx nu ks.length sp W t tk) := by
  refine ⟨fun pins s σ H Q I h => wpAny_Call_Name_kw (ld_glob I hg hm ?_ hdb)⟩
  refine PySem.W.callWith_KW (h₀ := X.base) I.ok.mod.kin hk hall (thn (ha.run pos pins s σ H _ I h) fun us s1 ⟨vs, H1, I1, r, q⟩ => thn (hkw.run pos pins s1 σ H1 _ I1 q) fun ws s2 ⟨zs, H2, I2, rz, h1, h2, q2⟩ => ⟨I2.kIn, ?_⟩) hpl he
  rw [hks]
  exact run_fnGK F g hj hb I2 r rz h1 h2 q2
theorem pe_callGK0 {tk : TA} (F : FnG X.prog X.w X.K X.mg X.base j f fd ps sp) (g : Go X u W k) (hj : j ≤ k) (hg : Gl X x) (hm : X.mg x = some (.ref f)) (hk : PySem.W.keepIn X.K (.ref f) = true) (hb : KB X.K fd ps ks 0 idx)
    (hkw : PK X kws tk) (hall : (backToKw pos (keywordEach kws X.env)).all (·.1.isSome) = true := by rfl) (hks : (backToKw pos (keywordEach kws X.env)).filterMap (·.1) = ks := by rfl)
    (hdb : (x == ("__debug__" : Str)) = false := by decide)
    (hpl : ((backTo pos (starEach [] X.env)).any (·.1) || (backToKw
          pos (keywordEach kws X.env)).any (·.1.isNone)) = false := by rfl) :
    PE X (.Call (.Name x p) [] kws pos) (tCallGK idx 0 ks.length sp W tNil tk) := by
  refine ⟨fun pins s σ H Q I h => wpAny_Call_Name_kw (ld_glob I hg hm ?_ hdb)⟩
  refine PySem.W.callWith_KW0 (h₀ := X.base) I.ok.mod.kin hk hall (thn (hkw.run pos pins s σ H _ I h) fun ws s2 ⟨zs, H2, I2, rz, h1, h2, q2⟩ => ⟨I2.kIn, ?_⟩) hpl
  rw [hks]
  exact run_fnGK (us := []) F g hj hb I2 .nil rz h1 h2 q2
theorem tm_kw {σ : L2.St} {H : Hp} {nk : Nat} {Fk : SM (List D) → SE} {Q : VK} {T : List V → Hp → VK → Prop} {a b : SM (List D)}
    (hF : ∀ Z as ρ μ, Rel X.K u Z as ρ μ σ H → Post X.K u W Z ρ σ as H (Fk (kwM nu nk idx a b) ρ μ) (PV X.K u Z Q) → Post X.K u W Z ρ σ as H (kwM nu nk idx a b ρ μ) fun as' H' μ' ds => ∀ vs, RepVs X.K u Z as' H' ds vs → T vs H' Q)
    (h : tm X.K u W (Fk (kwM nu nk idx a b)) σ H Q) : tmA X.K u W a σ H fun vs H1 => tmA X.K u W b σ H1 fun zs H2 => vs.length = nu ∧ zs.length = nk ∧ T (pick idx (vs ++ zs)) H2 Q := by
  obtain ⟨Z, as, ρ, μ, R, h⟩ := h
  refine ⟨Z, as, ρ, μ, R, (Post.bind (hF Z as ρ μ R h)).mono fun as1 H1 μ1 ds lt R1 h1 vs q => ⟨Z, as1, ρ, μ1, R1, h1.bind.mono fun as2 H2 μ2 es lt2 R2 h2 zs q2 => ?_⟩⟩
  split at h2
  · rename_i hl
    exact ⟨by rw [← q.length]; exact hl.1, by rw [← q2.length]; exact hl.2, Post.now (a := _) h2 R2 _ (reps_pick ((q.later lt2).append q2) idx)⟩
  · exact h2.elim
theorem post_callP {F : List D → PR} {nn : Nat} {mm : SM (List D)} {Z : Addr → Prop} {as : As} {ρ : Env} {μ : List SO} {σ : L2.St} {H : Hp} {Q : VK} (h : Post X.K u W Z ρ σ as H (callPM F (argN nn mm) ρ μ) (PV X.K u Z Q)) :
    Post X.K u W Z ρ σ as H (mm ρ μ) fun as' H' μ' ds => ∀ vs, RepVs X.K u Z as' H' ds vs → ∀ R : Rel X.K u Z as' ρ μ' σ H', SpP X.K u nn F vs H' Q (WE W σ) := h.bind.bind.mono fun as1 H1 μ1 ds lt R1 h1 vs q R => by
  split at h1
  · rename_i hl
    exact spP_call R q (by rw [← q.length]; exact hl) (Post.now (a := ds) h1 R)
  · exact h1.elim
theorem ge_callPK {F : List D → PR} {nn : Nat} (Fn : FnG X.prog X.w X.K X.mg X.base j f fd ps (SpP X.K u nn F)) (g : Go X u W k) (hj : j ≤ k) (hm : X.mg x = some (.ref f)) (hk : PySem.W.keepIn X.K (.ref f) = true) (hb : KB X.K fd ps ks nu idx)
    (ha : PA X (e :: es) (tmA X.K u W m)) (hkw : PK X kws (tmA X.K u W n)) (hg : Gl X x := by rfl) (hall : (backToKw pos (keywordEach kws X.env)).all (·.1.isSome) = true := by rfl) (hks : (backToKw pos (keywordEach kws X.env)).filterMap (·.1) = ks := by rfl)
    (hdb : (x == ("__debug__" : Str)) = false :=
          by decide) (he : starEach (e :: es) X.env = (false, eval e X.env) :: starEach es X.env := by rfl)
    (hpl : ((backTo pos (starEach (e :: es) X.env)).any (·.1) || (backToKw
          pos (keywordEach kws X.env)).any (·.1.isNone)) = false := by rfl) :
    PE X (.Call (.Name x p) (e :: es) kws pos) (tm X.K u W (callPM F (argN nn (kwM nu ks.length idx m n)))) := by
  refine (pe_callGK Fn g hj hg hm hk hb ha hkw hall hks hdb he hpl).gwk fun σ H Q h => tm_kw (Fk := fun a => callPM F (argN nn a)) (T := fun vs H Q => SpP X.K u nn F vs H Q (WE W σ)) (fun Z as ρ μ R h => (post_callP h).mono fun _ _ _ _ _ R1 h1 vs q => h1 vs q R1) h
theorem ge_callPK0 {F : List D → PR} {nn : Nat} (Fn : FnG X.prog X.w X.K X.mg X.base j f fd ps (SpP X.K u nn F)) (g : Go X u W k) (hj : j ≤ k) (hm : X.mg x = some (.ref f)) (hk : PySem.W.keepIn X.K (.ref f) = true) (hb : KB X.K fd ps ks 0 idx)
    (hkw : PK X kws (tmA X.K u W n)) (hg : Gl X x := by rfl) (hall : (backToKw pos (keywordEach kws X.env)).all (·.1.isSome) = true := by rfl) (hks : (backToKw pos (keywordEach kws X.env)).filterMap (·.1) = ks := by rfl)
    (hdb : (x == ("__debug__" : Str)) = false := by decide)
    (hpl : ((backTo pos (starEach [] X.env)).any (·.1) || (backToKw
          pos (keywordEach kws X.env)).any (·.1.isNone)) = false := by rfl) :
    PE X (.Call (.Name x p) [] kws pos) (tm X.K u W (callPM F (argN nn (kwM 0 ks.length idx nilM n)))) := by
  refine (pe_callGK0 Fn g hj hg hm hk hb hkw hall hks hdb hpl).gwk fun σ H Q h => ?_
  have := tm_kw (X := X) (Fk := fun a => callPM F (argN nn a)) (T := fun vs H Q => SpP X.K u nn F vs H Q (WE W σ)) (fun Z as ρ μ R h => (post_callP h).mono fun _ _ _ _ _ R1 h1 vs q => h1 vs q R1) h
  obtain ⟨Z, as, ρ, μ, R, h⟩ := this
  exact Post.now (a := []) h R [] .nil
end
end G

set_option Elab.async false
set_option linter.all false
set_option maxRecDepth 100000
/-! GP: dicts; list(range(..)). -/
namespace G
open PySem PySem.Spec
      PyProof.Rows L2
def valD (kd : List (Key × D)) (k : Key) : Option D := (kd.find? fun kv => decide (kv.1 = k)).map (·.2)
def setD (kd : List (Key × D)) (k : Key) (d : D) : List (Key × D) := if (kd.any fun kv => decide (kv.1 = k)) = true then kd.map (fun kv => if kv.1 = k then (kv.1, d) else kv) else kd ++ [(k, d)]
def keyOf : D → Option Key
  | .int i => some (.inl i)
  | .str x => some (.inr x)
  | _ => none
def dicD (μ : List SO) : D → Option (List (Key × D))
  | .dic kd => some kd
  | .loc l => match μ[l]? with
    | some (.dic kd) => some kd
    | _ => none
  | _ => none
section
variable {K : PySem.W.Frag} {u : U} {Z : Addr → Prop} {as : As} {μ : List SO} {H : Hp}
theorem dicD_of (s : RelS K u Z as μ H) {d : D} {v : V} {kd : List (Key × D)} (r : RepV K u Z as H d v) (e : dicD μ d = some kd) : ∃ p kv, v = .ref p ∧ H p = some (.dK kv) ∧ RepKs K u Z as H kd kv := by
  cases r with
  | dic h n r => cases e; exact ⟨_, _, rfl, h, r⟩
  | loc hl h =>
    simp only [dicD] at e
    split at e
    · rename_i ys em
      cases e
      obtain ⟨p, vs, rfl, _, e2, q⟩ := s.dic (.loc hl h) em
      exact ⟨p, vs, rfl, e2, q⟩
    · cases e
  | _ => cases e
theorem keyOf_of {d : D} {v : V} {k : Key} (r : RepV K u Z as H d v) (e : keyOf d = some k) : v = kV k := by
  cases r <;> cases e <;> rfl
theorem val_rep {k : Key} : ∀ {kd : List (Key × D)} {kv : List (Key × V)}, RepKs K u Z as H kd kv → (∀ d, valD kd k = some d → ∃ v, valV kv k = some v ∧ RepV K u Z as H d v) ∧ (valD kd k = none → valV kv k = none)
  | _, _, .nil => ⟨fun d e => by simp [valD] at e, fun _ => rfl⟩
  | _, _, .cons (k := k') h t => by
    by_cases hk : k' = k
    · subst hk
      exact ⟨fun d e => by
        simp [valD] at e
        subst e
        exact ⟨_, by simp [valV], h⟩, fun e => by simp [valD] at e⟩
    · have q := val_rep (k := k) t
      have e1 : ∀ {α : Type} (x : α) (r : List (Key × α)), (((k', x) :: r).find? fun kv => decide (kv.1 = k)) = r.find? fun kv => decide (kv.1 = k) := fun x r => by simp [List.find?_cons, hk]
      unfold valD valV
      rw [e1, e1]
      exact q
theorem any_rep {k : Key} : ∀ {kd : List (Key × D)} {kv : List (Key × V)}, RepKs K u Z as H kd kv → (kd.any fun kv => decide (kv.1 = k)) = kv.any fun kv => decide (kv.1 = k)
  | _, _, .nil => rfl
  | _, _, .cons h t => by rw [List.any_cons, List.any_cons, any_rep t]
theorem map_rep {k : Key} {d : D} {v : V} (q : RepV K u Z as H d v) : ∀ {kd : List (Key × D)} {kv : List (Key × V)}, RepKs K u Z as H kd kv → RepKs K u Z as H (kd.map fun kv => if kv.1 = k then (kv.1, d) else kv) (kv.map fun kv => if kv.1 = k then (kv.1, v) else kv)
  | _, _, .nil => .nil
  | _, _, .cons (k := k') h t => by
    rw [List.map_cons,
          List.map_cons]
    by_cases hk : k' = k
    · rw [if_pos hk, if_pos hk]
      exact .cons q (map_rep q t)
    · rw [if_neg hk, if_neg hk]
      exact .cons h (map_rep q t)
theorem RepKs.append : ∀ {ds es : List (Key × D)} {vs ws : List (Key × V)}, RepKs K u Z as H ds vs → RepKs K u Z as H es ws → RepKs K u Z as H (ds ++ es) (vs ++ ws)
  | _, _, _, _, .nil, s => s
  | _, _, _, _, .cons h t, s => .cons h (RepKs.append t s)
theorem RepKs.length : ∀ {ds : List (Key × D)} {vs : List (Key × V)}, RepKs K u Z as H ds vs → ds.length = vs.length
  | _, _, .nil => rfl
  | _, _, .cons _ t => by rw [List.length_cons, List.length_cons, RepKs.length t]
theorem set_rep {k : Key} {d : D} {v : V} (q : RepV K u Z as H d v) {kd : List (Key × D)} {kv : List (Key × V)} (r : RepKs K u Z as H kd kv) : RepKs K u Z as H (setD kd k d) (putK kv k v) := by
  unfold setD putK
  rw [any_rep r]
  split
  · exact map_rep q r
  · exact r.append (.cons q .nil)
end
def dixF : F2 := fun μ a b => match dicD μ a, keyOf b with
  | some kd, some k => valD kd k
  | _, _ => none
def dinF : F2 := fun μ a b => match dicD μ b, keyOf a with
  | some kd, some k => some (.bl (valD kd k).isSome)
  | _, _ => none
def dnotInF : F2 := fun μ a b => match dicD μ b, keyOf a with
  | some kd, some k => some (.bl (!(valD kd k).isSome))
  | _, _ => none
def isDic (μ : List SO) (d : D) : Bool := (dicD μ d).isSome
def dget2M (mo mi mx : SE) : SE := fun ρ μ => (mo ρ μ).bind fun o μ1 => if isDic μ1 o then (mi ρ μ1).bind fun i μ2 => (mx ρ μ2).bind fun x μ3 => match dicD μ3 o, keyOf i with
  | some kd, some k => .ok ((valD kd k).getD x) μ3
  | _, _ => .no
  else .no
def dputF (μ : List SO) (o i d : D) : Option (List SO) := match o, keyOf i with
  | .loc l, some k => match μ[l]? with
    | some (.dic kd) => if few (kd.length + 1) then some (μ.set l (.dic (setD kd k d))) else none
    | _ => none
  | _, _ => none
def dputS (mo mi mv : SE) : SS := fun ρ μ => (mv ρ μ).sbind ρ fun d μ1 => (mo ρ μ1).sbind ρ fun o μ2 => (mi ρ μ2).sbind ρ fun i μ3 => match dputF μ3 o i d with
  | some μ4 => .fl (.nx ρ) μ4
  | none => .no
/-- list(range(j)), list(range(i, j)) -/
def listRgM (m : SM (Int × Int)) : SE := fun ρ μ => (m ρ μ).bind fun x μ1 => if decide (0 ≤ x.1) && decide (x.1 ≤ 16777216) && decide (x.2 ≤ 16777216) && decide (0 ≤ x.2) then .ok (.lst (rangeD x.1 (x.2 - x.1).toNat)) μ1 else .no
def rg1M (m : SE) : SM (Int × Int) := fun ρ μ => (m ρ μ).bind fun d μ1 => match d with
  | .int j => .ok (0, j) μ1
  | _ => .no
section
variable {X : Cx} {u : U} {W : WX} {o i e x : Expr} {mo mi mv mx : SE} {pos pos' apos cpos p p2 : Pos}
theorem ge_dix (hu : X.A.units + 1 < cLine) (ho : PE X o (tm X.K u W mo)) (hi : PE X i (tm X.K u W mi)) (hs : NoSl i) : PE X (.Subscript o i pos) (tm X.K u W (op2M dixF mo mi)) := by
  refine (pe_dget hu ho hi hs).gwk fun σ H Q ⟨Z, as, ρ, μ, R, h⟩ => ⟨Z, as, ρ, μ, R, h.bind.mono fun as1 H1 μ1 d lt R1 h1 v q => ⟨Z, as1, ρ, μ1, R1, h1.bind.mono fun as2 H2 μ2 y lt2 R2 h2 w qw => ?_⟩⟩
  obtain ⟨z, ez, k⟩ := h2.opt R2
  unfold dixF at ez
  split at ez
  · rename_i kd k0 e1 e2
    obtain ⟨a, kv, rfl, ha, rk⟩ := dicD_of R2.s (q.later lt2) e1
    obtain ⟨v, hv, rv⟩ := (val_rep rk).1 z ez
    have := keyOf_of qw e2
    subst this
    exact ⟨a, v, rfl, by rw [← hv]; exact DGet.k ha, k H2 v (Same.refl _) rv⟩
  · cases ez
theorem ge_dget2 (hu : X.A.units + 1 < cLine) (ho : PE X o (tm X.K u W mo)) (hi : PE X i (tm X.K u W mi)) (hx : PE X x (tm X.K u W mx)) (m : M2 X o "get" apos i x cpos) : PE X (.Call (.Attribute o "get" apos) [i, x] [] cpos) (tm X.K u W (dget2M mo mi mx)) := by
  refine (pe_dget2 hu ho hi hx m).gwk fun σ H Q ⟨Z, as, ρ, μ, R, h⟩ => ⟨Z, as, ρ, μ, R, h.bind.mono fun as1 H1 μ1 d lt R1 h1 v q => ?_⟩
  split at h1
  · rename_i hd
    unfold isDic at hd
    obtain ⟨kd1, e0⟩ := Option.isSome_iff_exists.mp hd
    obtain ⟨a, kv1, rfl, ha1, _⟩ := dicD_of R1.s q e0
    refine ⟨a, rfl, .inl ⟨_, .inl ha1⟩, Z, as1, ρ, μ1, R1, h1.bind.mono fun as2 H2 μ2 y lt2 R2 h2 w qw => ⟨Z, as2, ρ, μ2, R2, h2.bind.mono fun as3 H3 μ3 z lt3 R3 h3 w3 q3 => ?_⟩⟩
    split at h3
    · rename_i kd k0 e1 e2
      obtain ⟨a', kv, ea, ha, rk⟩ := dicD_of R3.s (q.later (lt2.trans lt3)) e1
      cases ea
      have := keyOf_of qw e2
      subst this
      refine ⟨_, DGet.k ha, ?_⟩
      cases ev : valD kd k0 with
      | none =>
        rw [(val_rep rk).2 ev]
        rw [ev] at h3
        exact Post.now (a := z) h3 R3 _ q3
      | some dv =>
        obtain ⟨v, hv, rv⟩ := (val_rep rk).1 dv ev
        rw [hv]
        rw [ev] at h3
        exact Post.now (a := dv) h3 R3 _ rv
    · exact h3.elim
  · exact h1.elim
theorem gs_dput (hu : X.A.units + 1 < cLine) (he : PE X e (tm X.K u W mv)) (ho : PE X o (tm X.K u W mo)) (hi : PE X i (tm X.K u W mi)) (hs : swapsWith e (some (.Subscript o i pos')) pos.line X.env = pure false := by rfl) :
    PS X (.Assign [.Subscript o i pos'] e pos) (tmS X.K u W (dputS mo mi mv)) := by
  refine (ps_dput hu ho hi he hs).gwk fun Dn σ H ⟨Z, as, ρ, μ, R, h⟩ => ?_
  refine ⟨Z, as, ρ, μ, R, h.bind.mono fun as1 H1 μ1 d lt1 R1 h1 v qv => ⟨Z, as1, ρ, μ1, R1, h1.bind.mono fun as2 H2 μ2 ov lt2 R2 h2 w qw => ⟨Z, as2, ρ, μ2, R2, h2.bind.mono fun as3 H3 μ3 iv lt3 R3 h3 y qy => ?_⟩⟩⟩
  have qv3 := qv.later (lt2.trans lt3)
  have qw3 := qw.later lt3
  unfold dputF at h3
  split at h3
  · rename_i μ4 e4
    split at e4
    · rename_i l k0 ek
      split at e4
      · rename_i kd em
        split at e4
        · rename_i hf
          cases e4
          obtain ⟨p, kv, rfl, ea, e2, q⟩ := R3.s.dic qw3 em
          have := keyOf_of qy ek
          subst this
          obtain ⟨R4, lt4⟩ := R3.s.put (o := .dic (setD kd k0 d)) (ho := .dK (putK kv k0 v)) ea (fun _ z => by cases z) (fun xs z => by rw [e2] at z; cases z) ⟨p, _, rfl, up_at, (set_rep qv3 q).later ⟨Nat.le_refl _, fun _ _ _ e => e, fun q o' e1 n1 m1 => ⟨by rw [upd_ne (fun z => m1 l (by rw [z]; exact ea))]; exact e1, m1⟩⟩⟩
          exact ⟨p, _, rfl, DPut.k e2 (by rw [← q.length]; exact Nat.lt_of_lt_of_le (Nat.lt_succ_self _) (few_line hf)), h3 as3 _ σ lt4 (R3.mono lt4 R4)⟩
        · cases e4
      · cases e4
    · cases e4
  · exact h3.elim
theorem ge_listRg (hc : X.calm = true) (hm : X.mg "list" = none) (hm2 : X.mg "range" = none) (he : PE X e (tm X.K u W mx)) (hg : Gl X "list" := by rfl) (hg2 : Gl X "range" := by rfl) (na2 : starEach [e] X.env = (false, eval e X.env) :: starEach [] X.env := by rfl)
    (na : starEach [.Call (.Name "range" p2) [e] [] pos'] X.env = (false, eval (.Call (.Name "range" p2) [e] [] pos') X.env) :: starEach [] X.env := by rfl) :
    PE X (.Call (.Name "list" p) [.Call (.Name "range" p2) [e] [] pos'] [] pos) (tm X.K u W (listRgM (rg1M mx))) := by
  refine (pe_listRg hc hg hm (prg_1 hg2 hm2 he na2) na).gwk fun σ H Q ⟨Z, as, ρ, μ, R, h⟩ => ⟨Z, as, ρ, μ, R, h.bind.bind.mono fun as1 H1 μ1 d lt R1 h1 v q => ?_⟩
  split at h1
  · rename_i j
    have h2 := Post.now (a := ((0 : Int), j)) h1 R1
    split at h2
    · rename_i hb
      simp only [Bool.and_eq_true, decide_eq_true_eq] at hb
      cases q
      refine ⟨j, rfl, RgOk.of_le (by omega) hb.1.2 (by omega) hb.2, fun w hw => ?_⟩
      refine h2 as1 _ (.new hw) (R1.new hw) _ ?_
      have er : rangeD 0 (j - 0).toNat = (List.range (j - 0).toNat).map fun (i : Nat) => D.int (0 + (i : Int)) := rfl
      have : ∀ is : List Nat, RepVs X.K u Z as1 H1 (is.map fun (i : Nat) => D.int (0 + (i : Int))) (is.map fun i => V.int (0 + (i : Nat))) := fun is => by
        induction is with
        | nil => exact .nil
        | cons a b ih => exact .cons (.int _) ih
      exact newLst R1.s hw (this _)
    · exact h2.elim
  · exact h1.elim
end
end G

set_option Elab.async false
set_option linter.all false
set_option maxRecDepth 100000
/-! GQ: try: body / except x as n: y = n. -/
namespace G
open PySem PySem.Spec
      PyProof.Rows L2
/-- an object of ours that was not tracked is so now -/
theorem inv_track {X : Cx} {pins : List (Addr × Obj)} {σ : L2.St} {H : Hp} {s : Shared} {a : Addr} {oe : Obj} {o : HO} (I : Inv X pins σ H s) (ha : s.heap.get? a = some oe) (na : H a = none) (n0 : X.s_0.heap.get? a = none) (nL : a ≠ X.env.locals)
    (nC : ∀ x c, X.env.cells.lookup x = some c → c ≠ a) (nP : ∀ p ∈ X.pn ++ pins, p.1 ≠ a) (new : ObjOk X.prog X.w (upd H a o) s.heap a o) : Inv X pins σ (upd H a o) s := by
  have ne : ∀ {b : Addr} {x : HO}, H b = some x → b ≠ a := fun e z => by rw [z, na] at e; cases e
  have ne0 : ∀ {b : Addr} {x : Obj}, X.s_0.heap.get? b = some x → b ≠ a := fun e z => by rw [z, n0] at e; cases e
  refine ⟨I.ok, I.os, I.bare, ⟨I.base.keep, I.base.slot, fun b ob e n hx => ?_, I.base.there, fun b xs e => ?_, fun b ob xs e => ?_, fun b ps e => ?_⟩, I.loc, I.cell, ?_, fun x c e => ?_, fun p hp => ?_, fun b x e => ?_, I.len⟩
  · rw [upd_ne (ne0 e)]
    exact I.base.free b ob e n hx
  · have q :=
        I.base.tups b xs e
    rw [upd_ne (ne q)]
    exact q
  · have q := I.base.frzs b ob xs e
    rw [upd_ne (ne q)]
    exact q
  · obtain ⟨more, q⟩ := I.base.tbls b ps e
    exact ⟨more, by rw [upd_ne (ne q)]; exact q⟩
  · rw [upd_ne (Ne.symm nL)]
    exact I.free
  · rw [upd_ne (nC x c e)]
    exact I.freeC x c e
  · obtain ⟨h1, h2, h3, h4, h5⟩ := I.pin p hp
    exact ⟨h1, by rw [upd_ne (nP p hp)]; exact h2, h3, h4, h5⟩
  · by_cases hb : b = a
    · subst hb
      rw [upd_same] at e
      cases e
      exact new
    · rw [upd_ne hb] at e
      exact (I.hok b x e).stay (fun _ _ _ q => q) (fun c q => by rw [upd_ne (ne q)]; exact q) fun c xs q => by rw [upd_ne (ne q)]; exact q
theorem exF_ok {P : Program} {w : World} {H : Hp} {h : Heap} {a : Addr} {oe : Obj} {cls : Value} {d : Option Addr} {vs : Array Value} (e : h.get? a = some oe) (z : Zc cls d oe) (hd : oe.data = .fields vs) : ObjOk P w H h a (ExF a cls d) :=
  ⟨⟨oe, vs, e, z, hd⟩, ⟨_, e⟩, fun h1 h2 ⟨oe1, vs1, e1, z1, d1⟩ k => ⟨oe1, vs1, k _ e1, z1, d1⟩⟩
/-- what the clause 'except x as n: y = n' wishes of an exception of the body: slot i is n's, slot j is y's -/
def wKeep (K : PySem.W.Frag) (c : Value) (i j : Nat) (Wout : WX) (D : Ends) : WX := fun cls d σ H =>
  ∃ b, PySem.W.exmOne K cls c = some b ∧ (b = true → ∀ a, H a = none → D.nx (((σ.set i (some (.ref a))).set j (some (.ref a))).set i none) (upd H a (ExF a cls d))) ∧ (b = false → Wout cls d σ H)
section
variable {X : Cx} {x n y : Str} {c : Value} {i j : Nat} {body : List Stmt} {np np2 np3 pos pos' pos2 : Pos} {tb : WX → TS} {Wout : WX}
theorem ps_try_keep (hx : X.ex = []) (hs : X.stack = X.env :: X.outer) (hf : X.env.frame = some X.env.locals) (hN : X.N.Nodup) (hij : i ≠ j) (hi : X.N[i]? = some n) (hj : X.N[j]? = some y) (hln : X.env.kindOf n = some .local) (hly : X.env.kindOf y = some .local) (hc : Names X x c) (tk : Takes X Wout)
    (hdn : (n == ("__debug__" : Str)) = false) (hcn : (n == ("__classdict__" : Str)) = false)
    (hsw : swapsWith (.Name n np2) (some (.Name y np3)) pos2.line X.env = pure false)
    (hb : ∀ (W : WX) (pn : List (Addr × Obj)) (xe : Value → Shared → Prop), Takes (X.tr pn xe) W → PassesOwn (model X.prog X.w) X.A X.env xe → PSs (X.tr pn xe) body (tb W)) :
    PS X (.Try body [.ExceptHandler (some (.Name x np)) (some n) [.Assign [.Name y np3] (.Name n np2) pos2] pos'] [] [] pos) (fun D σ H => tb (wKeep X.K c i j Wout D) D σ H) := by
  refine ⟨fun pins s σ H D I start => ?_⟩
  have okX := I.ok
  have frX : X.A.frames = some (X.env :: X.outer) := by rw [okX.frames, hs]
  have locn : Loc X.env.scope n := .inl hln
  have locy : Loc X.env.scope y := .inl hly
  refine wpAny_Try_except ?_
  refine wpAny_mono ((hb (wKeep X.K c i j Wout D) (X.pn ++ pins) (fun ev sv => wpAny (model X.prog X.w) X.A (noteFrame ev X.env) (fun _ st => wpAny (model X.prog X.w) X.A (setFlight ev none) (fun _ su =>
    wpAny (model X.prog X.w) X.A (handleBy ev X.env [.ExceptHandler (some (.Name x np)) (some n) [.Assign [.Name y np3] (.Name n np2) pos2] pos']) (SP X pins D) X.xe su) X.xe st) X.xe sv) (fun ev se air => ?_) PassesOwn.looking).run [] s σ H D (I.toTry _) start) (fun f sf done => ?_) (fun _ _ w => w)
  · -- what was raised is caught
    obtain ⟨a, B, sI, pinsR, σR, HR, cls, d, eR, JR, nb, up, sky, na, os, ag, b, hb1, hyes, hno⟩ := air
    subst eR
    have J : Inv X pins σR HR sI := JR.ofTry okX
    have skyX : Sky B (X.env :: X.outer) a (Zc cls d) X.env.locals se.heap := by rw [← hs]; exact sky
    show wpAny (model X.prog X.w) X.A
          (noteFrame (.ref a) X.env) _ _ _
    refine Sky.land Zc.steady frX hf skyX fun g1 f1 u1 => ?_
    have J1 : Inv X pins σR HR { se with heap := g1 } := J.landed nb f1.1 (up.trans u1) os ag
    obtain ⟨o1, v1, at1, z1, d1⟩ := f1.there
    have off : a ∉ frs (X.env :: X.outer) := fun hm => by
      obtain ⟨_, o', e', hnf⟩ := f1.2.2.1.mem hm
      rw [at1] at e'
      cases e'
      exact hnf _ d1
    have aL : a ≠ X.env.locals := fun z => off (List.mem_filterMap.mpr ⟨X.env, List.mem_cons_self, by rw [hf, z]⟩)
    have aF : a ∉ X.fs := fun hm => by
      obtain ⟨e, he, q⟩ :=
            List.mem_filterMap.mp hm
      exact off (List.mem_filterMap.mpr ⟨e, List.mem_cons_of_mem _ he, q⟩)
    have gI : sI.heap.get? a = none := by
      cases e : sI.heap.get? a with
      | none => rfl
      | some ob =>
        have q := nb a ob e (by rw [hs]; exact off)
        rw [f1.2.1] at q
        cases q
    have g0 : X.s_0.heap.get? a = none := by
      cases e :
            X.s_0.heap.get? a with
      | none => rfl
      | some ob =>
        obtain ⟨o', q⟩ := J.base.there a ob e (by rw [hx]; exact fun z => nomatch z)
        rw [gI] at q
        cases q
    have aP : ∀ p ∈ X.pn ++ pins, p.1 ≠ a := fun p hp z => by
      have q := (J.pin p hp).1
      rw [z, gI] at q
      cases q
    have S1 := J1.suite at1 d1 na aL aF
    refine wpAny_handleBy_cons
          (codeAny_handlers_test ?_) (by intro q; cases q)
    have typ : PySem.W.Looks (model X.prog X.w) g1 (typeOf (.ref a)) cls := fun A Q E st k q => wpAny_typeOf_ref (k _ _ at1) (by rw [z1.1]; exact q)
    have fits := PySem.W.exm_one (M := model X.prog X.w) (J1.kIn) typ hb1
    have named : ∀ {Q : Value → Shared → Prop} {E : Value → Shared → Prop}, Q c { se with heap := g1 } → wpAny (model X.prog X.w) (X.A.mark (some (.ref a))) (eval (.Name x np) X.env) Q E { se with heap := g1 } := fun {Q E} q => by
      obtain ⟨hgl, hdb, hm | ⟨hm, hv, hnn⟩⟩ := hc
      · exact ld_glob (X := X.suite a ((a, o1) :: (X.pn ++ pins))) S1 hgl hm q hdb
      · exact ld_blt (X := X.suite a ((a, o1) :: (X.pn ++ pins))) S1 hgl hm hv q hnn hdb
    refine named (fits.here ?_)
    cases b with
    | true =>
      refine
            codeAny_handlers_suite_as ?_
      refine HandSPX.lands_againZ f1 fun g2 f2 u2 => ?_
      have J2 : Inv X pins σR HR { se with heap := g2 } := J.landed nb f2.1 ((up.trans u1).trans u2) os ag
      obtain ⟨o2, v2, at2, z2, d2⟩ := f2.there
      have S2 := J2.suite at2 d2 na aL aF
      refine store_ok (X := X.suite a ((a, o2) :: (X.pn ++ pins))) (v := .ref a) S2 hN hi locn rfl (fun s5 S5 => ?_) (.inr hln)
      have suite : PSs (X.suite a ((a, o2) :: (X.pn ++ pins))) [.Assign [.Name y np3] (.Name n np2) pos2] (tAsg (tVar i) (gName j)) := pss_one (ps_set (X := X.suite a ((a, o2) :: (X.pn ++ pins))) hN hj locy (pe_var (X := X.suite a ((a, o2) :: (X.pn ++ pins))) hi (.inl hln) hdn hcn) hsw (.inr hly))
      have il : i < (σR.set i (some (V.ref a))).length := by rw [List.length_set, J.len]; exact (List.getElem?_eq_some_iff.mp hi).1
      have got : (σR.set i (some (V.ref a)))[i]? = some (some (.ref a)) := List.getElem?_set_self (by rw [List.length_set] at il; exact il)
      refine wpAny_mono (suite.run [] s5 _ HR { nx := fun σ6 H6 => σ6 = (σR.set i (some (.ref a))).set j (some (.ref a)) ∧ H6 = HR, rt := fun _ _ => False, bk := fun _ _ => False, ct := fun _ _ => False } S5 ⟨_, got, rfl, rfl⟩) (fun f s6 q6 => ?_) (fun _ _ z => False.elim z)
      cases f with
      | next =>
        obtain ⟨σ6, H6, S6, e6, eH⟩ := q6
        subst e6 eH
        refine gone_ok (X := X.suite a ((a, o2) :: (X.pn ++ pins))) S6 hN hi hln fun s7 S7 => ?_
        obtain ⟨p1, p2, p3, p4, p5⟩ := S7.pin (a, o2) (by simp)
        have J7 : Inv X pins _ H6 s7 := S7.unsuite okX
        have nC : ∀ k c, X.env.cells.lookup k = some c → c ≠ a := fun k c' e z => by
          obtain ⟨w, oc, hoc, hdc⟩ := J7.cell k c' e
          rw [z, p1] at hoc
          cases hoc
          rw [d2] at hdc
          cases hdc
        exact ⟨_, _, inv_track J7 p1 p2 g0 aL nC aP (exF_ok p1 z2 d2), hyes rfl a na⟩
      | brk => obtain ⟨_, _, _, q⟩ := q6; exact q.elim
      | cont => obtain ⟨_, _, _, q⟩ := q6; exact q.elim
      | ret w => obtain ⟨_, _, _, _, _, q⟩ := q6; exact q.elim
    | false =>
      show wpAny _ X.A (handleBy
            (.ref a) X.env []) _ _ _
      refine wpAny_handleBy_nil ?_
      obtain ⟨k1, k2, k3, oe, vs, T, oT, ts', he, hz, hd, h1, hr⟩ := id f1
      unfold PySem.passOn
      refine wpAny_bind
            (wpAny_field he hd h1 ?_)
      rw [if_neg (show ¬ ((Value.ref T ==
            Value.none) = true) from by simp)]
      have last : wpAny (model X.prog X.w) X.A (setFlight (.ref a) X.env.frame) (fun _ s4 => wpAny (model X.prog X.w) X.A (throw (.ref a) : Sem Flow) (SP X pins D) X.xe s4) X.xe { se with heap := g1 } := by
        rw [hf]
        refine HandSPX.setFlight_upZ f1 fun g4 hh4 u4 => wpAny_throw (tk _ _ ?_)
        exact ⟨a, B, sI, pins, σR, HR, cls, d, rfl, J, nb, (up.trans u1).trans u4, .inr (.inr (by rw [hs]; exact hh4)), na, os, ag, hno rfl⟩
      first
        | exact wpAny_bind (wpAny_pure (wpAny_bind last))
        | exact wpAny_bind last
  · cases f with
    | next => obtain ⟨a1, a2, a3, q⟩ := done; exact wpAny_execs_nil ⟨a1, a2, a3.ofTry okX, q⟩
    | brk => obtain ⟨a1, a2, a3, q⟩ := done; exact ⟨a1, a2, a3.ofTry okX, q⟩
    | cont => obtain ⟨a1, a2, a3, q⟩ := done; exact ⟨a1, a2, a3.ofTry okX, q⟩
    | ret w => obtain ⟨a0, a1, a2, a3, r, q⟩ := done; exact ⟨a0, a1, a2, a3.ofTry okX, r, q⟩
end
end G

set_option Elab.async false
set_option linter.all false
set_option maxRecDepth 100000
/-! GR: exceptions of own classes: raised, asked for their class, read. -/
namespace G
open PySem PySem.Spec
      PyProof.Rows L2
/-- the kinds of an exception datum: sub tells subclasses -/
def isxF (ok ok2 : Nat → Bool) (sub : Nat → Nat → Bool) : FA := fun _ a => match a with
  | [.exn c _, .cls c'] => if ok c && ok2 c' then some (.bl (sub c c')) else none
  | _ => none
def xfF (ok : Nat → Bool) (f : Str) : F1 := fun _ a => match a with
  | .exn c fs => if ok c then fs.lookup f else none
  | _ => none
/-- raise C(..) -/
def raiseS (c : Nat) (names : List Str) (m : SM (List D)) : SS := fun ρ μ => (m ρ μ).sbind ρ fun ds μ1 => if ds.length = names.length ∧ names.length ≤ 900 then .exc c (names.zip ds).reverse ρ μ1 else .no
section
variable {X : Cx} {u : U} {K : PySem.W.Frag} {Z : Addr → Prop} {as : As} {μ : List SO} {H : Hp}
theorem fs_lookup {f : Str} {d : D} : ∀ {fs : List (Str × D)} {fv : List (Str × V)}, RepFs K u Z as H fs fv → fs.lookup f = some d → ∃ v, fv.lookup f = some v ∧ RepV K u Z as H d v
  | _, _, .nil, e => by cases e
  | _, _, .cons (k := k) h t, e => by
    rw [List.lookup_cons] at e ⊢
    cases hk : f == k with
    | true => rw [hk] at e; cases e; exact ⟨_, rfl, h⟩
    | false => rw [hk] at e; exact fs_lookup t e
/-- a kept exception, as the library's rules see it -/
theorem exn_inst {pins : List (Addr × Obj)} {σ : L2.St} {s : Shared} {p C : Addr} {d : Option Addr} {fs : List (Str × D)} (I : Inv X pins σ H s) (h : H p = some (ExF p (.ref C) d)) (r : RepX X.K u Z as H fs d) :
    ∃ oe od, PySem.W.InstAt s.heap p oe C od ∧ ∀ f dd, fs.lookup f = some dd → ∃ v w o, RepV X.K u Z as H dd v ∧ RelV v w ∧ od = some o ∧ PySem.W.lookIn f o = some (some w) := by
  have tr : ObjOk X.prog X.w H s.heap p (.ext fun h => ∃ (oe : Obj) (vs : Array Value), h.get? p = some oe ∧ Zc (.ref C) d oe ∧ oe.data = .fields vs) := I.hok p _ h
  obtain ⟨⟨oe, vs, he, hz, hd⟩, _⟩ := tr
  have notc : PySem.W.notCls oe = true := by unfold PySem.W.notCls; rw [hd] <;> rfl
  cases r with
  | nil => exact ⟨oe, none, ⟨he, hz.1, notc, by rw [hz.2]; trivial⟩, fun f dd e => by cases e⟩
  | dict hx n rf =>
    have tx : ObjOk X.prog X.w H s.heap _ (.xd _) := I.hok _ _ hx
    obtain ⟨mA, hns, hr⟩ := tx
    obtain ⟨od, ho, hl⟩
          := lookIn_ns hns
    refine ⟨oe, some od, ⟨he, hz.1, notc, by rw [hz.2]; exact ho⟩, fun f dd e => ?_⟩
    obtain ⟨v, ev, rv⟩ := fs_lookup rf e
    obtain ⟨w, hw, rw'⟩ := RelO.some_of (v := v) (o := mA f) (by rw [← ev]; exact hr f)
    exact ⟨v, w, od, rv, rw', rfl, by rw [hl, hw]⟩
variable {ok ok2 : Nat → Bool} {sub : Nat → Nat → Bool} {W : WX}
theorem g_isx (hx : ∀ c, ok c = true → ExcC X.K (u.ct c)) (hk : ∀ c c', ok c = true → ok2 c' = true → PySem.W.kitOne X.K (.ref (u.ct c)) (.ref (u.ct c')) = some (sub c c')) : CallR X (.builtin "isinstance") (rAD X.K u (isxF ok ok2 sub)) := by
  intro pins s σ H xs us Q I rx ⟨Z, as, μ, ds, d, rs, r, e, q⟩
  unfold isxF at e
  split at e
  · split at e
    · rename_i hc
      cases e
      rw [Bool.and_eq_true] at hc
      obtain ⟨x, y, rfl, r1, r2⟩ := r.two
      obtain ⟨w1, w2, rfl, v1, v2⟩ := vals2 rx
      cases r2
      cases v2
      cases r1 with
      | exn h n rf =>
        cases v1
        obtain ⟨oe, od, J, _⟩ := exn_inst I h rf
        have C := hx _ hc.1
        obtain ⟨cd, hcd, _⟩ := PySem.W.any_some C.hd
        exact PySem.W.kia_one (PySem.W.kitx_exc (by rw [hcd]; rfl) C.hg C.hk C.hs C.ha C.hn C.ht C.hm) I.kIn J (hk _ _ hc.1 hc.2) (fun z => nomatch z) fun tk => ⟨.bl _, H, I.tok tk, rfl, q H _ (Same.refl H) (.bl _)⟩
    · cases e
  · cases e
theorem ge_xf {e : Expr} {m : SE} {n : Str} {pos : Pos} (hx : ∀ c, ok c = true → ExcC X.K (u.ct c) ∧ PySem.W.findIn X.K (.ref (u.ct c)) n = some none) (he : PE X e (tm X.K u W m)) (hb : attributeBase e n X.env (eval e X.env) = eval e X.env := by rfl) : PE X (.Attribute e n pos) (tm X.K u W (op1M (xfF ok n) m)) := by
  refine ⟨fun pins s σ H Q I ⟨Z, as, ρ, μ, R, h⟩ => ?_⟩
  refine attr_of hb (thn (he.run pins s σ H (fun v H1 => ∃ as1 μ1 d dd, Rel X.K u Z as1 ρ μ1 σ H1 ∧ RepV X.K u Z as1 H1 d v ∧ xfF ok n μ1 d = some dd ∧ ∀ H' z, Same H1 H' → RepV X.K u Z as1 H' dd z → Q z H') I
    ⟨Z, as, ρ, μ, R, h.bind.mono fun as1 H1 μ1 d lt R1 h1 v q => ?_⟩) fun w s1 hh => ?_)
  · obtain ⟨dd, e1, k⟩ := h1.opt R1
    exact ⟨as1, μ1, d, dd, R1, q, e1, k⟩
  · obtain ⟨x, H1, I1, rx, as1, μ1, d, dd, R1, q, e1, k⟩ := hh
    unfold xfF at e1
    split at e1
    · split at e1
      · rename_i hc
        obtain ⟨C, hno⟩ := hx _ hc
        cases q with
        | exn h1 n1 rf =>
          obtain rfl : w = Value.ref _ := rx
          obtain ⟨oe, od, J, lk⟩ := exn_inst I1 h1 rf
          obtain ⟨v, wv, o, rv, rw', eo, el⟩ := lk _ _ e1
          subst eo
          exact HandSPX.exc_get I1.kIn J C.hg C.hk C.hs (PySem.W.findObj_own C.hd hno rfl el) (handed_of rw') ⟨v, H1, I1.tok _, rw', k H1 v (Same.refl _) rv⟩
      · cases e1
    · cases e1
/-- what __init__ promises: the fields fs are set, in this order -/
def spI (K : PySem.W.Frag) (C : Addr) (names : List Str) : Sp := fun vs H Q _ => ∃ (a : Addr) (ws : List V), vs = .ref a :: ws ∧ ws.length = names.length ∧ H a = some (exo a C none) ∧
  ∀ (dx : Addr) (H' : Hp), H dx = none → dx ≠ a → H' a = some (exo a C (some dx)) → H' dx = some (exd dx (names.zip ws).reverse) → (∀ b o, b ≠ a → H b = some o → H' b = some o) → Q .non H'
theorem zip_reps : ∀ {names : List Str} {ds : List D} {vs : List V}, RepVs K u Z as H ds vs → RepFs K u Z as H (names.zip ds) (names.zip vs)
  | [], _, _, _ => by simpa using RepFs.nil
  | _ :: _, _, _, .nil => .nil
  | n :: ns, _, _, .cons h t => .cons h (zip_reps t)
theorem RepFs.append : ∀ {ds es : List (Str × D)} {vs ws : List (Str × V)}, RepFs K u Z as H ds vs → RepFs K u Z as H es ws → RepFs K u Z as H (ds ++ es) (vs ++ ws)
  | _, _, _, _, .nil, s => s
  | _, _, _, _, .cons h t, s => .cons h (RepFs.append t s)
theorem RepFs.reverse : ∀ {ds : List (Str × D)} {vs : List (Str × V)}, RepFs K u Z as H ds vs → RepFs K u Z as H ds.reverse vs.reverse
  | _, _, .nil => .nil
  | _, _, .cons h t => by
    rw [List.reverse_cons,
          List.reverse_cons]
    exact t.reverse.append (.cons h .nil)
theorem gs_raise {j k c : Nat} {fI : Addr} {fd : FuncData} {ps : List Str} {x : Str} {names : List Str} {e : Expr} {es : List Expr} {m : SM (List D)} {p pos rpos : Pos} (g : Go X u W k) (T : OexC X.K (u.ct c)) (iC : PySem.W.findIn X.K (.ref (u.ct c)) "__init__" = some (some (.ref fI))) (tI : PySem.W.typeIn X.K (.ref fI) = some (.type "function"))
    (F1 : FnOk X.prog X.w X.K X.mg X.base C8.CX0 j fI fd ps (spI X.K (u.ct c) names)) (hj : j + 1 ≤ k) (hb : Binds X.K fd ps []) (hm : X.mg x = some (.ref (u.ct c))) (ha : PA X (e :: es) (tmA X.K u W m)) (hg : Gl X x := by rfl)
    (hdb : (x == ("__debug__" : Str)) = false :=
          by decide) (he : starEach (e :: es) X.env = (false, eval e X.env) :: starEach es X.env := by rfl) (hpl : (backTo pos (starEach es X.env)).any (·.1) = false := by rfl) :
    PS X (.Raise (some (.Call (.Name x p) (e :: es) [] pos)) none rpos) (tmS X.K u W (raiseS c names m)) := by
  refine (ps_raise g.calm g.takes (pmk_oex T iC tI F1 (g.room.mono hj) hb .nil (fun _ _ _ _ _ _ _ z => z.elim) hg hm ha hdb he hpl)).gwk fun Dn σ H ⟨Z, as, ρ, μ, R, h⟩ => ?_
  refine ⟨Z, as, ρ, μ, R, h.bind.mono fun as1 H1 μ1 ds lt R1 h1 vs q => ?_⟩
  split at h1
  · rename_i hl
    have hlv : vs.length = names.length := by rw [← q.length]; exact hl.1
    refine ⟨by rw [hlv]; omega, fun a na => ⟨a, vs ++ [], rfl, by rw [List.append_nil]; exact hlv, upd_same, fun dx H2 ndx nea ea ed kp => ⟨rfl, dx, _, ea, ed, by rw [upd_ne nea] at ndx; exact ndx, ?_⟩⟩⟩
    rw [List.append_nil]
    rw [upd_ne nea] at ndx
    have still : ∀ b o, H1 b = some o → (upd (del H2 a) dx (.xd (names.zip vs).reverse)) b = some o := fun b o eb => by
      have nb : b ≠ a := ne_of_none eb na
      rw [upd_ne (ne_of_none eb ndx), del_ne nb]
      exact kp b o nb (by rw [upd_ne nb]; exact eb)
    have R2 := R1.still (fun b o eb _ => still b o eb) (R1.s.tabs.ext still)
    exact h1 as1 _ σ (some dx) (.of fun b o eb _ => still b o eb) R2 (.dict upd_same (R1.s.fresh ndx) ((zip_reps q).reverse.later (.of fun b o eb _ => still b o eb)))
  · exact h1.elim
end
end G

set_option Elab.async false
set_option linter.all false
set_option maxRecDepth 100000
/-! GS: a def that calls the lambda it got and keeps what this raises. -/
namespace G
open PySem PySem.Spec
      PyProof.Rows L2 LamX
section
variable {X : Cx} {pins : List (Addr ×
      Obj)} {σ : L2.St} {H : Hp} {s : Shared}
/-- the context of the def that got the lambda -/
abbrev askCx (X : Cx) (Ng : List Str) (qg : Str) (sg : Scope) (g : Addr) (cdg : Value) (s : Shared) (H : Hp) : Cx := cxOf C8.CX0 X.prog X.w X.K X.mg X.base Ng qg sg g cdg X.A X.stack s H C8.E0
theorem act_ok {Ng : List Str} {qg : Str} {sg : Scope} {g f c' : Addr} {cdg pm ctv : Value} {params : Arguments} {body : Expr} {scope : Scope} {k i : Nat} {a : Str} {pn : List (Addr × Obj)} {xe : Value → Shared → Prop} {W : WX} {tb : XK → TE} {p1 p2 : Pos}
    (I : Inv X pins σ H s) (L : LamS X.env.scope scope) (hf : s.heap.get? f = some (PySem.W.kla_obj "<lambda>" (X.env.qual ++
          "<lambda>") params body scope (cloFrom X.env.cells scope.names []) pm c' ctv)) (hfn : H f = none) (hfr : f ∉ frs X.stack)
    (hbind : bindArgs (PySem.W.kla_fn "<lambda>" (X.env.qual ++ "<lambda>") params body
          scope (cloFrom X.env.cells scope.names []) pm (.ref c') ctv) ⟨[], []⟩ = pure [])
    (tk : Takes ((askCx X Ng qg sg g cdg s H).tr pn xe) W) (hr : Room (k + 1) (X.A.deeper (envOfC qg sg s.heap.objs.size g cdg)))
    (hbody : ∀ (A : Around) (outer : List PySem.Env) (s : Shared) (H : Hp) (E : XK), Room k (A.deeper (lamEnv X scope s.heap.objs.size f c')) → A.guards = X.A.guards → PE (lamCx X A outer s H E scope f c') body (tb E))
    (hN : Ng[i]? = some a) (hv : Vis sg a) (hd : (a == ("__debug__" : Str)) = false) (hcd : (a == ("__classdict__" : Str)) = false) :
    PE ((askCx X Ng qg sg g cdg s H).tr pn xe) (.Call (.Name a p1) [] [] p2) (fun σZ HZ Q => σZ[i]? = some (some (.ref f)) ∧ HZ c' = some (CodeO c' (X.env.qual ++ "<lambda>")) ∧ tb (WE W σZ) σ HZ Q) := by
  refine ⟨fun pinsZ sZ σZ HZ Q IZ ⟨slot, code, rd⟩ => ?_⟩
  refine wpAny_Call_Name_kw (thn ((pe_var (pos := p1) (i := i) hN hv hd hcd).run pinsZ sZ σZ HZ (fun v Hv => v = .ref f ∧ Hv = HZ) IZ ⟨.ref f, slot, rfl, rfl⟩) fun w sA ⟨v, Hv, IA, rv, ev, eH⟩ => ?_)
  subst ev
  rw [eH] at IA
  obtain rfl : w = Value.ref f := rv
  have fA : sA.heap.get? f = some (PySem.W.kla_obj "<lambda>" (X.env.qual ++ "<lambda>") params body scope (cloFrom X.env.cells scope.names []) pm c' ctv) := IA.base.keep f _ hf hfn hfr (fun z => nomatch (show f ∈ ([] : List Addr) from z))
  refine PySem.W.callWith_F0 ⟨_, _, _, _, fA⟩ ?_
  have unA : Un (frs X.stack) [] H HZ s.heap sA.heap := IA.base
  obtain ⟨⟨oc, vs, t, c1, c2, c3⟩, _, _⟩ := IA.hok c' _ code
  have ran : codeAny (model X.prog X.w) (X.A.deeper (envOfC qg sg s.heap.objs.size g cdg)) (.call (.ref f) ⟨[], []⟩) (CR (L2.CX X.prog X.w) (envOfC qg sg s.heap.objs.size g cdg :: X.stack) X.prog X.w HZ sA Q (WE W σZ)) sA := by
    refine PySem.W.kla_callFunE hr.depth fA rfl L.co L.gen rfl ⟨c', oc, vs, t, rfl, c1, c2, c3⟩ ?_
    rw [hbind]
    refine wpAny_pure (wpAny_newFunctionEnv (fun y hy => (L.own y hy).2) (fun y hy => absurd hy (by simp)) (fun hE hns sbE => ⟨IA.nolimit.fresh _ sbE, ?_⟩) L.kind)
    show codeAny _ _ (.expr body (lamEnv X scope sA.heap.objs.size f c')) _ _
    have kept : ∀ b o, sA.heap.get? b = some o → hE.get? b = some o := fun b o e => sbE.extBut b o (Nat.ne_of_lt (Heap.lt_size e)) (Heap.get?_push_of_some _ e)
    have IL : Inv (lamCx X (X.A.deeper (envOfC qg sg s.heap.objs.size g cdg)) (envOfC qg sg s.heap.objs.size g cdg :: X.stack) sA HZ (WE W σZ) scope f c') [] σ HZ { sA with heap := hE, toks := sA.toks + ([] : List (Str × Value)).length } := lam_start2 I L IA.env0 hr.hd unA hns kept
    refine PySem.W.kla_codeExpr (wpAny_mono ((hbody _ _ sA HZ _ (hr.deeper _) rfl).run [] _ _ HZ Q IL rd) (fun v sB ⟨x, HB, IB, rx, qx⟩ => ⟨x, HB, IB.os, IB.bare, IB.base, IB.hok, rx, qx⟩) fun e sB q => q)
  refine wpAny_call (codeAny_mono ran fun r sB q => ?_)
  cases r with
  | error e => exact L2.passAt tk σZ pinsZ HZ sA e sB IA q
  | ok fl =>
    cases fl with
    | ret w => exact IA.after q
    | next => exact False.elim q
    | brk => exact False.elim q
    | cont => exact False.elim q
end
/-- what the def makes of the lambda's end: n slots, i the kept exception's, j the list's -/
def askEnv (n i j : Nat) (cv : D) (l : Nat) : Env := (((List.replicate n none).set i (some cv)).set j (some (.loc l)))
def finR (r : SR) : Res D := match r with
  | .fl (.rt d) μ => .ok d μ
  | .fl (.nx _) μ => .ok .non μ
  | _ => .no
def heardM (n i j : Nat) (give : Nat → Bool) (mrest : SS) (mb : SE) : SE := fun ρ μ => match mb ρ (μ ++ [.lst []]) with
  | .ok _ μ1 => finR (mrest (askEnv n i j .non μ.length) μ1)
  | .exc c fs μ1 => if give c then finR (mrest (askEnv n i j (.exn c fs) μ.length) μ1) else .no
  | .no => .no
section
variable {K : PySem.W.Frag} {u : U} {Z : Addr → Prop} {as : As} {μ : List SO} {H : Hp}
theorem ask_rel {n i j l : Nat} {cv : D} {σ : L2.St} {v w : V} (R : RelS K u Z as μ H) (hn : σ.length = n) (hij : i ≠ j) (hi : σ[i]? = some (some v)) (hj : σ[j]? = some (some w)) (qv : RepV K u Z as H cv v) (qw : RepV K u Z as H (.loc l) w) : Rel K u Z as (askEnv n i j cv l) μ σ H := by
  refine ⟨R, by unfold askEnv; simp [hn], fun k d e => ?_⟩
  unfold askEnv at e
  by_cases hk : j = k
  · subst hk
    by_cases hl : j < ((List.replicate n none).set i (some cv)).length
    · rw [List.getElem?_set_self hl] at e
      cases e
      exact ⟨w, hj, qw⟩
    · rw [List.getElem?_eq_none (by rw [List.length_set]; omega)] at e
      cases e
  · rw [List.getElem?_set_ne hk] at e
    by_cases hk2 : i = k
    · subst hk2
      by_cases hl : i < (List.replicate n (none : Option D)).length
      · rw [List.getElem?_set_self hl] at e
        cases e
        exact ⟨v, hi, qv⟩
      · rw [List.getElem?_eq_none (by rw [List.length_set]; omega)] at e
        cases e
    · rw [List.getElem?_set_ne hk2, List.getElem?_replicate] at e
      split at e <;> cases e
end
section
variable {X : Cx} {u : U} {W : WX}
theorem post_fin {Z : Addr → Prop} {ρ : Env} {σ : L2.St} {as : As} {H : Hp} {r : SR} {Q : VK} (h : Post X.K u W Z ρ σ as H (finR r) (PV X.K u Z Q)) (env : ∀ as' H' μ', Later as H as' H' → RelS X.K u Z as' μ' H' → Rel X.K u Z as' ρ μ' σ H') : PostS X.K u W0 Z as H r { nx := fun _ H' => Q .non H', rt := Q } := by
  cases r with
  | fl f μ' =>
    cases f with
    | nx ρ' => exact fun as' H' σ' lt rl => h as' H' lt (env as' H' _ lt rl.s) _ .non
    | rt d => exact fun as' H' v lt rl q => h as' H' lt (env as' H' _ lt rl) v q
    | bk ρ' => exact h.elim
    | ct ρ' => exact h.elim
  | exc c fs ρ' μ' => exact h.elim
  | no => exact h.elim
/-- x(lambda: body), x such a def -/
theorem ge_heard {k0 k i j e : Nat} {x a : Str} {g CS cP P : Addr} {st : Stmt} {fd : FuncData} {Ng : List Str} {mrest : SS} {mb : SE} {give : Nat → Bool} {params : Arguments} {body : Expr} {scope : Scope} {p lpos pos : Pos} (g0 : Go X u W k0) (F : Fun X.K x x st g fd) (Sg : FnScope Ng [a] (defScope st)) (hb : L2.Binds X.K fd [a] [])
    (hm : X.mg x = some (.ref g)) (hij : i ≠ j ∧ i ≠ e ∧ j ≠ e ∧ 0 ≠ i ∧ 0 ≠ j ∧ i < Ng.length ∧ j < Ng.length) (h0 : Ng[0]? = some a) (hva : Vis (defScope st) a)
    (hG : ∀ (cdv : Value) (s : Shared) (H : Hp) (tact : WX → TE), Go (askCx X Ng x (defScope st) g cdv s H).nox u W0 (k + 1) →
      (∀ (W : WX) (pn : List (Addr × Obj)) (xe : Value → Shared → Prop) (p1 p2 : Pos), Takes ((askCx X Ng x (defScope st) g cdv s H).nox.tr pn xe) W → PE ((askCx X Ng x (defScope st) g cdv s H).nox.tr pn xe) (.Call (.Name a p1) [] [] p2) (tact W)) →
      PSs (askCx X Ng x (defScope st) g cdv s H).nox (defBody st) (tSeq (tPar i j (tCons (tC .non) (tCons (tLst tNil) tNil))) (tSeq (fun D σ H => tDrop (tact (wKeep X.K (.ref CS) e i W0 D)) D σ H) (tmS X.K u W0 mrest))))
    (hgive : ∀ c, give c = true → PySem.W.exmOne X.K (.ref (u.ct c)) (.ref CS) = some true)
    (TB : TabB X.base X.mg cP P) (hcode : X.env.code = .ref cP) (hmT : (P, X.env.qual ++ "<lambda>") ∈ u.T) (hu : ∀ p ∈ u.T, p.1 = P → p.2 = X.env.qual ++ "<lambda>") (hk : k + 2 ≤ k0) (L : LamS X.env.scope scope)
    (hbody : ∀ (A : Around) (outer : List PySem.Env) (s : Shared) (H : Hp) (E : XK) (f c' : Addr), Go (lamCx X A outer s H E scope f c') u (fun cls d _ H => E cls d H) k → PE (lamCx X A outer s H E scope f c') body (tm X.K u (fun cls d _ H => E cls d H) mb))
    (hdef : defaultsOf params X.env = ([], []) := by rfl) (hbind : ∀ (q : Str) (cl : List (Str × Addr)) (pm cv ctv : Value), bindArgs (PySem.W.kla_fn "<lambda>" q params body scope cl pm cv ctv) ⟨[], []⟩ = pure [] := by intro _ _ _ _ _; rfl)
    (hg : Gl X x := by rfl) (hdb : (x == ("__debug__" : Str)) = false := by decide) (hd : (a == ("__debug__" : Str)) = false := by decide) (hcd : (a == ("__classdict__" : Str)) = false := by decide) :
    PE X (.Call (.Name x p) [.Lambda params body scope lpos] [] pos) (tm X.K u W (heardM Ng.length i j give mrest mb)) := by
  refine ⟨fun pins s σ H Q I ⟨Z, as, ρ, μ, R, h⟩ => ?_⟩
  obtain ⟨oc, od, kV, doc, pm, an, cdv, ct, osl, efd, lk, hcg⟩ := F.ex
  subst efd
  refine wpAny_Call_Name_kw
        (ld_glob I hg hm ?_ hdb)
  refine PySem.W.callWith_K (h₀ := X.base) I.ok.mod.kin F.kp ?_ (by rfl) (by rfl)
  show wpAny _ _ (spliced ((false, eval (.Lambda params body
        scope lpos) X.env) :: backTo pos (starEach [] X.env))) _ _ s
  refine Calls.spliced_cons (lam_make2 I TB hcode hmT hu R.s.tabs hdef (L.has I.ok) fun f c' pm' ctv H1 s1 I1 ext T1 hf hfn hfr hco => ?_)
  refine Calls.spliced_nil
        ⟨I1.kIn, ?_⟩
  have R1 : Rel X.K u Z as ρ μ σ H1 := R.still (fun p o e n => ext p o e n) T1
  have lt1 : Later as H as H1 := .of fun p o e n => ext p o e n
  have room := g0.room.mono (show k + 2 ≤ k0 from hk)
  have ran : codeAny (model X.prog X.w) X.A (.call (.ref g) ⟨[.ref f], []⟩) (CR C8.CX0 X.stack X.prog X.w H1 s1 Q C8.E0) s1 := by
    refine LamX.run_ofS (N := Ng) (ps := [a]) (us := [.ref f]) (vs := [.ref f]) lk hcg Sg room I1.env0 (hb s1 [.ref f] I1.kIn rfl) (.cons rfl .nil) rfl fun hr' => ?_
    have goG : Go (askCx X Ng x (defScope st) g cdv s1 H1).nox u W0 (k + 1) := ⟨hr', g0.guards, rfl, Sg.nd, LamX.takes0, PassesOwn.never⟩
    refine ⟨_, (hG cdv s1 H1 (fun W σZ HZ Q => σZ[0]? = some (some (.ref f)) ∧ HZ c' = some (CodeO c' (X.env.qual ++ "<lambda>")) ∧ tm X.K u (fun cls d _ H => WE W σZ cls d H) mb σ HZ Q) goG fun W pn xe p1 p2 tk => ?_).nox, ?_⟩
    · exact act_ok (i := 0) (tb := fun E => tm X.K u (fun cls d _ H => E cls d H) mb) I1 L hf hfn hfr (hbind _ _ _ _ _) tk hr' (fun A outer s H E hr2 hgd => hbody A outer s H E f c' ⟨hr2, by show (A.deeper _).guards = _; exact hgd.trans g0.guards, rfl, g0.nd, takes_of rfl rfl rfl rfl, passes_of rfl⟩) h0 hva hd hcd
    · refine ⟨Nat.zero_le _, fun pl hpl => ⟨_, _, rfl, ?_⟩⟩
      obtain ⟨h1, h2, h3, h4, h5, hi, hj⟩ := hij
      have sl : (L2.start Ng [V.ref f]).length = Ng.length := by
        have : 0 < Ng.length := Nat.lt_of_le_of_lt (Nat.zero_le _) hi
        unfold L2.start
        simp
        omega
      obtain ⟨R2, lt2, rl⟩ := growL R1 (o := .lst []) (ho := .lst []) hpl ⟨pl, [], rfl, up_at, .nil⟩ (fun z => by cases z)
      have s0 : (((L2.start Ng [V.ref f]).set i (some .non)).set j (some (.ref pl)))[0]? = some (some (.ref f)) := by
        rw [List.getElem?_set_ne (Ne.symm h5), List.getElem?_set_ne (Ne.symm h4)]
        rfl
      have code2 : (upd H1 pl (.lst [])) c' = some (CodeO c' (X.env.qual ++ "<lambda>")) := by
        rw [upd_ne (ne_of_none hco hpl)]
        exact hco
      refine ⟨s0, code2, Z, as ++ [some pl], ρ, μ ++ [.lst []], R2, ?_⟩
      have h' : Post X.K u W Z ρ σ (as ++ [some pl]) (upd H1 pl (.lst [])) (heardM Ng.length i j give mrest mb ρ μ) (PV X.K u Z Q) := h.later (lt1.trans lt2)
      unfold heardM at h'
      cases em : mb ρ (μ ++ [.lst []]) with
      | ok d μ1 =>
        rw [em] at h'
        intro as' H' lt rel v qv
        refine ⟨Z, as', _, μ1, ask_rel rel.s (by simp [sl]) h1 ?_ ?_ .non (rl.later lt), post_fin (h'.later lt) fun as2 H2 μ2 lt3 rs => (R2.mono (lt.trans lt3) rs)⟩
        · rw [List.getElem?_set_ne (Ne.symm h1), List.getElem?_set_self (by rw [sl]; exact hi)]
        · rw [List.getElem?_set_self (by rw [List.length_set, sl]; exact hj)]
      | exc c fs μ1 =>
        rw [em] at h'
        dsimp only at h'
        split at h'
        · rename_i hc
          intro as' H' d lt rel qx
          refine ⟨true, hgive c hc, fun _ aE na => ?_, fun z => by cases z⟩
          have ltE : Later as' H' as' (upd H' aE (ExF aE (.ref (u.ct c)) d)) := .new na
          have relE := rel.new (o := ExF aE (.ref (u.ct c)) d) na
          refine ⟨Z, as', _, μ1, ask_rel relE.s (by simp [sl]) h1 ?_ ?_ (.exn up_at (rel.s.fresh na) (qx.later ltE)) ((rl.later lt).later ltE), post_fin (h'.later (lt.trans ltE)) fun as2 H2 μ2 lt3 rs => (R2.mono ((lt.trans ltE).trans lt3) rs)⟩
          · rw [List.getElem?_set_ne (Ne.symm h2), List.getElem?_set_self (by simp [sl]; exact hi)]
          · rw [List.getElem?_set_ne (Ne.symm h3), List.getElem?_set_ne h1, List.getElem?_set_ne (Ne.symm h3), List.getElem?_set_self (by simp [sl]; exact hj)]
        · exact h'.elim
      | no => rw [em] at h'; exact h'.elim
  refine wpAny_call (codeAny_mono ran fun r s2 q => ?_)
  cases r with
  | error e => exact (show False from q).elim
  | ok fl =>
    cases fl with
    | ret w => exact I1.after q
    | next => exact False.elim q
    | brk => exact False.elim q
    | cont => exact False.elim q
end
end G

set_option Elab.async false
set_option linter.all false
set_option maxRecDepth 100000
/-! GT: the end: from the law's def to the row. -/
namespace G
open PySem PySem.Spec
      PyProof.Rows L2 LamX
/-- the heap as it is told at the law's beginning: the script (where it is not written) and the tables -/
def H0 (T : List Addr) (sc : Option (Addr × HO)) : Hp := fun b => if b ∈ T then some (.tbl #[]) else match sc with
  | some (a, o) => if b = a then some o else none
  | none => none
theorem law_end {P : Program} {w : World} {K : PySem.W.Frag} {mg mb : Str → Option Value} {k : Nat} {fa a : Addr} {cs : List (Addr × Addr)} {fd : FuncData} {x : Str} {sp : Sp} {s1 : Shared} {vs : List Value} {ns : List Int}
    (kIn : K.In s1.heap) (gl : s1.heap.Ns mainGlobals mg) (bl : s1.heap.Ns builtinsNs mb) (bb : ∀ y : Str, y ≠ "__name__" → mb y = bootBuiltins y) (nl : s1.heap.NoLimit) (ng : s1.gens = #[])
    (tabs : ∀ p ∈ cs, s1.heap.get? p.2 = some { cls := .none, data := .fields #[] }) (tabK : ∀ p ∈ cs, K.lookup p.2 = none) (codes : ∀ p ∈ cs, PySem.W.CodeHd s1.heap p.1 p.2)
    (bmain : ∃ (bm : Addr) (ob : Obj), mg "__builtins__" = some (.ref bm) ∧ bm ≠ builtinsNs ∧ s1.heap.get? bm = some ob ∧ ob.cls = .type "module" ∧ ob.dict = some builtinsNs ∧ ob.data = .plain)
    (ha : s1.heap.get? a = some { cls := .type "list", data := .seq vs.toArray }) (hi : IntsAre vs ns) (hl : ns.length ≤ sizeLine) (room : Room k callerA)
    (F : ∀ base : Heap, K.In base → base.Ns mainGlobals mg → (∀ p ∈ cs, TabB base mg p.1 p.2) → FnG P w K mg base k fa fd [x] sp) (hbind : ∀ (s : Shared) (v : Value), BindsTo s fd ⟨[v], []⟩ [(x, v)])
    (hsp : ∀ H : Hp, (∀ p ∈ cs, H p.2 = some (.tbl #[])) → (Rd H a (.lst (ns.map V.int)) ∨ KLst K a (ns.map V.int)) → sp [.ref a] H (fun v _ => v = .bl true) fun _ _ _ => False) :
    codeAny (model P w) callerA (.call (.ref fa) ⟨[.ref a], []⟩) (fun r s' => r = .ok (.ret (.bool true)) ∧ OldK s1.heap s'.heap ∧ s'.os = s1.os ∧ AllBare s'.gens) s1 := by
  have rv := vals_ints hi
  have T_at : ∀ b, b ∈ cs.map (·.2) → s1.heap.get? b = some { cls := .none, data := .fields #[] } := fun b hb => let ⟨p, hp, e⟩ := List.mem_map.mp hb; e ▸ tabs p hp
  have a_T : a ∉ cs.map (·.2) := fun z => by
    have q := (T_at a z).symm.trans ha
    cases q
  -- the heap as it is told
  obtain ⟨sc, hsc, hrd⟩ : ∃ sc : Option (Addr × HO), (∀ b o, sc = some (b, o) → b = a ∧ o = .frz { cls := .type "list", data := .seq vs.toArray } (.lst (ns.map V.int)) ∧ K.lookup a = none) ∧ (Rd (H0 (cs.map (·.2)) sc) a (.lst (ns.map V.int)) ∨ KLst K a (ns.map V.int)) := by
    cases hk : K.lookup a with
    | some o =>
      have e := (kIn a o hk).symm.trans ha
      cases e
      exact ⟨none, (fun _ _ z => by cases z), .inr ⟨_, vs.toArray, _, hk, rfl, rfl, rfl, by rw [List.size_toArray, hi.length]; exact hl, by simpa using rv⟩⟩
    | none => exact ⟨some (a, .frz { cls := .type "list", data := .seq vs.toArray } (.lst (ns.map V.int))), (fun b o z => by cases z; exact ⟨rfl, rfl, rfl⟩), .inl (.inr ⟨{ cls := .type "list", data := .seq vs.toArray }, by unfold H0; rw [if_neg a_T]; exact if_pos rfl⟩)⟩
  generalize hH : H0 (cs.map (·.2)) sc = H at hrd
  have atT : ∀ b, b ∈ cs.map (·.2) → H b = some (.tbl #[]) := fun b hb => by rw [← hH]; exact if_pos hb
  have offT : ∀ b o, b ∉ cs.map (·.2) → H b = some o → b = a ∧ o = .frz { cls := .type "list", data := .seq vs.toArray } (.lst (ns.map V.int)) ∧ K.lookup a = none := fun b o hb e => by
    rw [← hH] at e
    unfold H0 at e
    rw [if_neg hb] at e
    cases hs : sc with
    | none => rw [hs] at e; cases e
    | some z =>
      obtain ⟨b', o'⟩ := z
      rw [hs] at e
      dsimp only at e
      split at e
      · rename_i hb'
        cases e
        subst hb'
        exact hsc _ _ hs
      · cases e
  have clear : ∀ {b : Addr} {o : Obj}, s1.heap.get? b = some o → (∀ us n, o.data ≠ .seq us n) → o.data ≠ .fields #[] → H b = none := fun {b o} e h1 h2 => by
    cases q : H b with
    | none => rfl
    | some y =>
      by_cases hb : b ∈ cs.map (·.2)
      · rw [T_at b hb] at e
        cases e
        exact absurd rfl h2
      · rw [(offT b y hb q).1, ha] at e
        cases e
        exact absurd rfl (h1 _ _)
  have isK : ∀ b o, K.lookup b = some o → H b = none := fun b o e => by
    cases q : H b with
    | none => rfl
    | some y =>
      by_cases hb : b ∈ cs.map (·.2)
      · obtain ⟨p, hp, ep⟩
            := List.mem_map.mp hb
        rw [← ep, tabK p hp] at e
        cases e
      · obtain ⟨h1, _, h3⟩ := offT b y hb q
        rw [h1, h3] at e
        cases e
  have under : ∀ {b : Addr} {m : Str → Option Value}, s1.heap.Ns b m → (hidT s1.heap H).Ns b m := fun ⟨o, es, ep, e, d, r⟩ =>
    ⟨o, es, ep, hidT_get e (clear e (fun us n z => by rw [d] at z; cases z) fun z => by rw [d] at z; cases z), d, r⟩
  have modl : L2.Mod K mg (hidT s1.heap H) := ⟨fun b o e => hidT_get (kIn b o e) (isK b o e), under gl, ⟨mb, under bl, bb⟩, let ⟨mc, h1, h2⟩ := nl; ⟨mc, under h1, h2⟩⟩
  have hok : HOk P w H s1.heap := fun b o e => by
    by_cases hb : b ∈ cs.map (·.2)
    · rw [atT b hb] at e
      cases e
      exact T_at b hb
    · obtain ⟨h1, h2, _⟩ := offT b o hb e
      rw [h1, h2]
      exact ⟨ha,
            by rw [List.length_map]; exact hl, vs, _, rv, ha⟩
  have notG : ∀ {b : Addr} {o : Obj}, s1.heap.get? b = some o → (∀ es ep, o.data ≠ .dict es ep) → b ≠ mainGlobals := fun e n z => by
    obtain ⟨o', es, ep, e', hd, _⟩ := gl
    rw [z, e'] at e
    cases e
    exact n _ _ hd
  have tb : ∀ p ∈ cs, TabB (hidT s1.heap H) mg p.1 p.2 := fun p hp => by
    obtain ⟨o, us, file, tf, flags, tg, inF, text, tt, e1, r1, r2, r3, r4, r5, r6, r7, r8, hne⟩ := codes p hp
    obtain ⟨bm, ob, b1, b2, b3, b4, b5, b6⟩ := bmain
    refine ⟨⟨o, us, file, tf, flags, tg, inF, text, tt, hidT_get e1 (clear e1 (fun _ _ z => by rw [r2] at z; cases z) fun z => ?_), r1, r2, r3, r4, r5, r6, r7, r8, hne⟩,
      ⟨bm, ob, b1, b2, notG b3 (fun _ _ z => by rw [b6] at z; cases z), fun z => ?_, hidT_get b3 (clear b3 (fun _ _ z => by rw [b6] at z; cases z) fun z => by rw [b6] at z; cases z), b4, b5, b6⟩,
      fun z => notG (tabs p hp) (fun _ _ z => by cases z) z.symm⟩
    · rw [r2] at z
      cases z
      simp at r3
    · rw [z, tabs p hp] at b3
      cases b3
      cases b6
  have entry : Env0 P w K mg (hidT s1.heap H) callerA [] s1 H := ⟨rfl, modl, (fun b o e => of_hidT e), Nat.le_of_eq (hidT_size _ _), trivial, (fun b hb => nomatch (show b ∈ ([] : List Addr) from hb)), hok, .of_eq ng⟩
  refine codeAny_mono ((F _ modl.kin (under gl) tb).run callerA [] s1 H ⟨[.ref a], []⟩ [.ref a] [.ref a] _ _ room rfl entry (hbind s1 (.ref a)) (.cons rfl .nil) (hsp H (fun p hp => atT _ (List.mem_map.mpr ⟨p, hp, rfl⟩)) hrd)) fun r s' end_ => ?_
  cases r with
  | error e =>
    obtain ⟨_, _, _, _, _, _, _, _, _, _, _, _, z⟩ := end_
    exact z.elim
  | ok fl =>
    cases fl with
    | next => exact end_.elim
    | brk => exact end_.elim
    | cont => exact end_.elim
    | ret y =>
      obtain ⟨v, H', os, bare, un, hok', ry, q⟩ := end_
      cases (show v = .bl true from q)
      obtain rfl : y = Value.bool true := ry
      have grew : ∀ b, b ∈ cs.map (·.2) → ∃ more : Array Value, s'.heap.get? b = some { cls := .none, data := .fields more } := fun b hb => by
        obtain ⟨more, z⟩ := un.tbls b #[] (atT b hb)
        exact ⟨_, hok' b _ z⟩
      have kept : ∀ b o, b ∉ cs.map (·.2) → s1.heap.get? b = some o → s'.heap.get? b = some o := fun b o hb e => by
        cases hq : H b with
        | none => exact un.keep b o e hq (fun z => nomatch (show b ∈ ([] : List Addr) from z)) (by simp)
        | some y =>
          obtain ⟨h1, h2, _⟩ := offT b y hb hq
          rw [h1, ha] at e
          cases e
          rw [h2] at hq
          obtain ⟨z, _⟩ := hok' b _ (un.frzs b _ _ hq)
          exact z
      refine ⟨rfl, ⟨fun b o e => ?_,
            fun b o e => ?_⟩, os, bare⟩
      · by_cases hb :
            b ∈ cs.map (·.2)
        · obtain ⟨p, hp, ep⟩
              := List.mem_map.mp hb
          subst ep
          obtain ⟨more, hm⟩ := grew p.2 hb
          rw [tabs p hp] at e
          cases e
          exact .inr (.inl ⟨((codes p hp).tab (tabs p hp)).isCodeTable, rfl, #[], more, rfl, by rw [Array.empty_append]; exact hm⟩)
        · exact .inl (kept b o hb e)
      · by_cases hb :
            b ∈ cs.map (·.2)
        · obtain ⟨more, hm⟩ := grew b hb
          exact ⟨_, hm⟩
        · exact ⟨o, kept b o hb e⟩
end G

set_option Elab.async false
set_option linter.all false
set_option maxRecDepth 100000
/-! GU: what the printed walks lean on. -/
namespace G
open PySem PySem.Spec
      PyProof.Rows L2
theorem Go.u {X : Cx} {u : U} {W : WX} {k : Nat} (g : Go X u W k) : X.A.units + 67 < cLine := by have := g.room.un; omega
theorem Go.u65 {X : Cx} {u : U} {W : WX} {k : Nat} (g : Go X u W k) : X.A.units + 65 < cLine := by have := g.room.un; omega
theorem Go.u64 {X : Cx} {u : U} {W : WX} {k : Nat} (g : Go X u W k) : X.A.units + 64 < cLine := by have := g.room.un; omega
theorem Go.u1 {X : Cx} {u : U} {W : WX} {k : Nat} (g : Go X u W k) : X.A.units + 1 < cLine := by have := g.room.un; omega
/-- freeze slot i's place if it holds one -/
def sfrS (i : Nat) (m : SS) : SS := fun ρ μ => match ρ[i]? with
  | some (some d) => match frzD μ d with
    | some (d', μ') => m (ρ.set i (some d')) μ'
    | none => m ρ μ
  | _ => m ρ μ
section
variable {X : Cx} {u : U} {W : WX}
theorem tm_sfrS {i : Nat} {m : SS} {Dn : Ends} {σ : L2.St} {H : Hp} (h : tmS X.K u W (sfrS i m) Dn σ H) : tmS X.K u W m Dn σ H := by
  obtain ⟨Z, as, ρ, μ, R, h⟩ := h
  cases e : ρ[i]? with
  | none => unfold sfrS at h; rw [e] at h; exact ⟨Z, as, ρ, μ, R, h⟩
  | some o =>
    cases o with
    | none => unfold sfrS at h; rw [e] at h; exact ⟨Z, as, ρ, μ, R, h⟩
    | some d =>
      cases ef : frzD μ d with
      | none => unfold sfrS at h; rw [e] at h; dsimp only at h; rw [ef] at h; exact ⟨Z, as, ρ, μ, R, h⟩
      | some x =>
        refine tm_frzS (i := i) ⟨Z, as, ρ, μ, R, ?_⟩
        unfold frzS
        unfold sfrS at h
        rw [e] at h ⊢
        dsimp only at h ⊢
        rw [ef] at h ⊢
        exact h
theorem gs_sfr {i : Nat} {m : SS} {st : Stmt} (h : PS X st (tmS X.K u W m)) : PS X st (tmS X.K u W (sfrS i m)) := h.gwk fun _ _ _ h => tm_sfrS h
/-- the store is as long as it was -/
def trimM (m : SE) : SE := fun ρ μ => trim (m ρ μ) μ.length
theorem ge_trim {e : Expr} {m : SE} (h : PE X e (tm X.K u W m)) : PE X e (tm X.K u W (trimM m)) := by
  refine h.gwk fun σ H Q ⟨Z, as, ρ, μ, R, h⟩ => ⟨Z, as, ρ, μ, R, ?_⟩
  unfold trimM at h
  cases e : m ρ μ with
  | ok d μ' =>
    rw [e] at h
    unfold trim at h
    intro as' H' lt rl v q
    dsimp only at h
    split at h
    · rename_i hc
      simp only
            [Bool.and_eq_true] at hc
      obtain ⟨⟨c1, c2⟩, c3⟩ := hc
      have c3 : μ.length ≤ μ'.length := Nat.le_of_ble_eq_true c3
      have l1 : (as'.take μ.length).length = μ.length := by rw [List.length_take, rl.s.len]; omega
      have l2 : (μ'.take μ.length).length = μ.length := by rw [List.length_take]; omega
      have fw := fewer_take (as := as') (n := μ.length) (by rw [rl.s.len]; exact c3)
      have lt2 : Later as H (as'.take μ.length) H' := later_take lt (by rw [R.s.len]; exact Nat.le_refl _)
      exact h (as'.take μ.length) H' lt2 (R.mono lt2 (rl.s.fewer fw (by rw [l1, l2]) (by rw [l2]) (by rw [l2]; exact c2))) v (q.fewer fw (by rw [l1]; exact c1))
    · exact h.elim
  | exc c fs μ' =>
    rw [e] at h
    unfold trim at h
    intro as' H' d lt rl q
    dsimp only at h
    split at h
    · rename_i hc
      simp only
            [Bool.and_eq_true] at hc
      obtain ⟨⟨c1, c2⟩, c3⟩ := hc
      have c3 : μ.length ≤ μ'.length := Nat.le_of_ble_eq_true c3
      have l1 : (as'.take μ.length).length = μ.length := by rw [List.length_take, rl.s.len]; omega
      have l2 : (μ'.take μ.length).length = μ.length := by rw [List.length_take]; omega
      have fw := fewer_take (as := as') (n := μ.length) (by rw [rl.s.len]; exact c3)
      have lt2 : Later as H (as'.take μ.length) H' := later_take lt (by rw [R.s.len]; exact Nat.le_refl _)
      exact h (as'.take μ.length) H' d lt2 (R.mono lt2 (rl.s.fewer fw (by rw [l1, l2]) (by rw [l2]) (by rw [l2]; exact c2))) (q.fewer fw (by rw [l1]; exact c1))
    · exact h.elim
  | no => rw [e] at h; exact h.elim
/-- a, b = e with any targets -/
def tgtS (tg : Tg) (m : SE) : SS := fun ρ μ => (m ρ μ).sbind ρ fun d μ1 => match assignD tg d ρ with
  | some ρ' => .fl (.nx ρ') μ1
  | none => .no
theorem gs_tgt {t e : Expr} {m : SE} {tg : Tg} {pos : Pos} (he : PE X e (tm X.K u W m)) (hg : PG X t (tmG X.K u tg)) (hs : swapsWithSole [t] e pos.line X.env = pure false := by rfl) (hw : swappedStores [t] e X.env = pure none := by rfl)
    (h1 : (assignEach [t] X.env).map (·.2) = [assign t X.env] := by rfl) : PS X (.Assign [t] e pos) (tmS X.K u W (tgtS tg m)) := by
  refine (ps_asg he hg hs hw h1).gwk fun Dn σ H ⟨Z, as, ρ, μ, R, h⟩ => ⟨Z, as, ρ, μ, R, h.bind.mono fun as1 H1 μ1 d lt R1 h1 v q => ?_⟩
  refine ⟨Z, as1, ρ, μ1, d, R1, q, ?_⟩
  cases e : assignD tg d ρ with
  | none => rw [e] at h1; exact h1.elim
  | some ρ' => rw [e] at h1; exact fun σ' R' _ => h1.nx R'
end
/-! ### defs with their code object -/
section
variable {P : Program} {w : World} {K : PySem.W.Frag} {mg : Str → Option Value} {base : Heap} {u : U}
theorem FnG.codeOf {x qual : Str} {st : Stmt} {f : Addr} {fd : FuncData} {N ps : List Str} {k : Nat} {sp : Sp} {cP : Addr} (Fn : Fun K x qual st f fd) (hc : fd.code = .ref cP) (S : FnScope N ps (defScope st)) (len : ∀ vs H Q E, sp vs H Q E → vs.length = ps.length)
    (hbody : ∀ (A : Around) (outer : List PySem.Env) (s : Shared) (H : Hp) (vs : List V) (Q : VK) (E : XK), Room k (A.deeper (envOfC qual (defScope st) s.heap.objs.size f (.ref cP))) → A.guards = some [] → sp vs H Q E →
      ∃ t, PSs (cxOf (L2.CX P w) P w K mg base N qual (defScope st) f (.ref cP) A outer s H E) (defBody st) t ∧ t { nx := fun _ H' => Q .non H', rt := Q } (L2.start N vs) H) : FnG P w K mg base (k + 1) f fd ps sp := by
  obtain ⟨oc, od, kV, doc, pm, an, cdv, ct, osl, rfl, lk, hcd⟩ := Fn.ex
  cases (show cdv = .ref cP from hc)
  refine ⟨len, fun A outer s H args us vs Q E hr hg e0 hb r hsp => ?_⟩
  exact LamX.run_ofS lk hcd S hr e0 hb r (len _ _ _ _ hsp) fun hr' => hbody A outer s H vs Q E hr' hg hsp
theorem FnG.stateC {x qual : Str} {st : Stmt} {f : Addr} {fd : FuncData} {N ps : List Str} {k : Nat} {m : SS} {cP : Addr} (Fn : Fun K x qual st f fd) (hc : fd.code = .ref cP) (S : FnScope N ps (defScope st))
    (hbody : ∀ (A : Around) (outer : List PySem.Env) (s : Shared) (H : Hp) (E : XK), Go (cxOf (L2.CX P w) P w K mg base N qual (defScope st) f (.ref cP) A outer s H E) u (fun cls d _ H => E cls d H) k →
      PSs (cxOf (L2.CX P w) P w K mg base N qual (defScope st) f (.ref cP) A outer s H E) (defBody st) (tmS K u (fun cls d _ H => E cls d H) m)) : FnG P w K mg base (k + 1) f fd ps (SpS K u ps.length (runS N.length m)) := by
  refine FnG.codeOf Fn hc S (fun _ _ _ _ h => h.1) fun A outer s H vs Q E hr hg ⟨hl, Z, as, μ, ds, R, r, q⟩ => ⟨_, hbody A outer s H E (go_cx hr hg S.nd), Z, as, _, μ, Rel.start R r, ?_⟩
  unfold runS at q
  cases e : m (startD N.length ds) μ with
  | fl fl μ' =>
    rw [e] at q
    cases fl with
    | nx ρ' => exact fun as' H' σ' lt rl => q as' H' .non lt rl.s .non
    | rt d => exact fun as' H' v lt rl qv => q as' H' v lt rl qv
    | bk ρ' => exact q.elim
    | ct ρ' => exact q.elim
  | exc c fs ρ' μ' =>
    rw [e] at q
    exact fun as' H' σ' d lt rl qx => q as' H' d lt rl.s qx
  | no => rw [e] at q; exact q.elim
theorem _root_.L2.Fun.kb {x qual : Str} {st : Stmt} {f : Addr} {fd : FuncData} {ps ks : List Str} {nu : Nat} {idx : List Nat} (F : Fun K x qual st f fd)
    (h : ∀ (kV doc pm : Value) (an : Option Addr) (cdv ct : Value) (us ws : List Value), us.length = nu → ws.length = ks.length → bindArgs (PySem.W.fnOf x qual (defArgs st) (defBody st) (defScope st) .none kV doc pm an cdv ct) ⟨us, ks.zip ws⟩ = pure (ps.zip (pick idx (us ++ ws)))) : KB K fd ps ks nu idx := by
  obtain ⟨oc, od, kV, doc, pm, an,
        cdv, ct, osl, rfl, lk, hcd⟩ := F.ex
  exact ⟨h kV doc pm an cdv ct⟩
end
/-! ### an __init__ that sets fields -/
theorem init_ok {P : Program} {w : World} {K : PySem.W.Frag} {mg : Str → Option Value} {base : Heap} {C f : Addr} {fd : FuncData} {qual a : Str} {st : Stmt} {N : List Str} {x : Str} (Fn : Fun K "__init__" qual st f fd) (S : FnScope N ["self", a] (defScope st)) (T : OexC K C) (hno : PySem.W.findIn K (.ref C) x = some none)
    (hb : ∀ (cdv : Value) (A : Around) (outer : List PySem.Env) (s : Shared) (H : Hp) (E : XK), PSs (cxOf CX0 P w K mg base N qual (defScope st) f cdv A outer s H E).nox (defBody st) (tOst K x (tVar 0) (tVar 1))) (hN : N.length = 2) : FnOk P w K mg base CX0 1 f fd ["self", a] (spI K C [x]) := by
  refine Fn.ok S (fun vs H Q E ⟨_, ws, e, h, _⟩ => by rw [e, List.length_cons, h]; rfl) fun cdv A outer s H vs Q E hr ⟨o, ws, ev, hl, ho, q⟩ => ⟨_, hb cdv A outer s H E, ?_⟩
  subst ev
  match ws, hl with
  | [y], _ =>
    have e0 : (L2.start N [V.ref o, y])[0]? = some (some (V.ref o)) := rfl
    have e1 : (L2.start N [V.ref o, y])[1]? = some (some y) := rfl
    refine ⟨y, e1, .ref o, e0, o, C, rfl, T, hno, .inl ⟨ho, fun dx hd ne => q dx _ hd ne upd_same (by rw [upd_ne ne, upd_same]; rfl) fun b ob nb e => ?_⟩⟩
    rw [upd_ne nb, upd_ne (ne_of_none e hd)]
    exact e
theorem init2_ok {P : Program} {w : World} {K : PySem.W.Frag} {mg : Str → Option Value} {base : Heap} {C f : Addr} {fd : FuncData} {qual a b : Str} {st : Stmt} {N : List Str} {x z : Str} (Fn : Fun K "__init__" qual st f fd) (S : FnScope N ["self", a, b] (defScope st)) (T : OexC K C) (hno : PySem.W.findIn K (.ref C) x = some none) (hno2 : PySem.W.findIn K (.ref C) z = some none)
    (hb : ∀ (cdv : Value) (A : Around) (outer : List PySem.Env) (s : Shared) (H : Hp) (E : XK), PSs (cxOf CX0 P w K mg base N qual (defScope st) f cdv A outer s H E).nox (defBody st) (tSeq (tOst K x (tVar 0) (tVar 1)) (tOst K z (tVar 0) (tVar 2)))) : FnOk P w K mg base CX0 1 f fd ["self", a, b] (spI K C [x, z]) := by
  refine Fn.ok S (fun vs H Q E ⟨_, ws, e, h, _⟩ => by rw [e, List.length_cons, h]; rfl) fun cdv A outer s H vs Q E hr ⟨o, ws, ev, hl, ho, q⟩ => ⟨_, hb cdv A outer s H E, ?_⟩
  subst ev
  match ws, hl with
  | [y, y2], _ =>
    have e0 : (L2.start N [V.ref o, y, y2])[0]? = some (some (V.ref o)) := rfl
    have e1 : (L2.start N [V.ref o, y, y2])[1]? = some (some y) := rfl
    have e2 : (L2.start N [V.ref o, y, y2])[2]? = some (some y2) := rfl
    refine ⟨y, e1, .ref o, e0, o, C, rfl, T, hno, .inl ⟨ho, fun dx hd ne => ⟨y2, e2, .ref o, e0, o, C, rfl, T, hno2, .inr ⟨dx, _, upd_same, by rw [upd_ne ne, upd_same], by simp, q dx _ hd ne (by rw [upd_ne (Ne.symm ne), upd_same]) (by rw [upd_same]; rfl) fun b ob nb e => ?_⟩⟩⟩⟩
    have nd : b ≠ dx := ne_of_none e hd
    rw [upd_ne nd, upd_ne nb, upd_ne nd]
    exact e
end G

set_option Elab.async false
set_option linter.all false
set_option maxRecDepth 100000
/-! GV: the row from the law's promise. -/
namespace G
open PySem PySem.Spec
      PyProof.Rows L2 LamX
/-- the tables of the defs are empty at the end of the top -/
def TabsOf (q : Program) (K : PySem.W.Frag) (mg : Str → Option Value) (h : Heap) : Prop := ∀ (nm : Str) (f c P : Addr) (o : Obj) (fd : FuncData) (e : Value) (dd : Option Addr) (vs : Array Value) (sl : Array (Option Value)), ((recsOf q).any fun e => e.name == nm) = true → mg nm = some (.ref f) → K.lookup f = some o → o.data = .func fd → fd.code = .ref c →
  K.lookup c = some ⟨e, dd, .fields vs, sl⟩ → vs[11]? = some (.ref P) → h.get? P = some { cls := .none, data := .fields #[] } ∧ PySem.W.CodeHd h c P
def LawG (l : PySem.W.OpenLaw) (w : World) (K : PySem.W.Frag) (k n : Nat) (x : Str) (mg : Str → Option Value) (fa : Addr) (h : Heap) : Prop :=
  ∃ (fd : FuncData) (cs : List (Addr × Addr)) (sp : Sp), (∀ p ∈ cs, h.get? p.2 = some { cls := .none, data := .fields #[] }) ∧ (∀ p ∈ cs, K.lookup p.2 = none) ∧ (∀ p ∈ cs, PySem.W.CodeHd h p.1 p.2) ∧ (∀ (s : Shared) (v : Value), BindsTo s fd ⟨[v], []⟩ [(x, v)]) ∧
    (∀ (H : Hp) (a : Addr) (ns : List Int), ns.length ≤ n → (∀ z ∈ ns, Builtin.Int.intBits z ≤ 1048576) → (∀ p ∈ cs, H p.2 = some (.tbl #[])) → (Rd H a (.lst (ns.map V.int)) ∨ KLst K a (ns.map V.int)) → sp [.ref a] H (fun v _ => v = .bl true) fun _ _ _ => False) ∧
    ∀ base : Heap, K.In base → base.Ns mainGlobals mg → (∀ p ∈ cs, TabB base mg p.1 p.2) → FnG l.prog w K mg base k fa fd [x] sp
theorem walk_ofG {l : PySem.W.OpenLaw} {n k : Nat} {q : Program} {loose : List Str} {XP : (Str → Option Value) → Heap → Prop} {YP : World → Heap → Prop} {d : DefRec} {K : Params → PySem.W.Frag} {x : Str}
    (hn : l.most = some n) (hn2 : n ≤ sizeLine) (hdf : d.params.defaults = []) (room : Room k callerA) (hY : ∀ (w : World) (h : Heap), YP w h → (K w.params).In h)
    (F : ∀ (w : World) (mg : Str → Option Value) (fa : Addr) (h : Heap), YP w h → (K w.params).In h → h.Ns mainGlobals mg → mg d.name = some (.ref fa) → TabsOf q (K w.params) mg h → LawG l w (K w.params) k n x mg fa h) :
    PySem.W.WalkO q loose XP YP l.row.toRowW
          d [] (fun f vs => PySem.call f vs) := by
  refine Att.attach_callB hn hdf fun w s0 s1 mg mb fa o pm cd doc a vs ns G Y ho hd hcd hmg hobj hints hlen hbits hg => ?_
  have kin := hY w _ Y
  obtain ⟨fd, cs, sp, hT, nT, C, hb, hsp, hF⟩ := F w mg fa _ Y kin G.T.g hmg fun nm f c P o1 fd1 e dd us sl hr hm k1 k2 k3 k4 k5 => by
    obtain ⟨dr, hdr, hnm⟩ := List.any_eq_true.mp hr
    obtain ⟨a2, o2, fd2, c2, P2, t1, t2, t3, t4, t5, t6⟩ := G.T.tab dr hdr
    rw [beq_iff_eq.mp hnm, hm] at t1
    cases t1
    have g1 := kin _ _ k1
    rw [g1] at t2
    cases t2
    rw [k2] at t3
    cases t3
    rw [k3] at t4
    cases t4
    have hcode := PySem.W.CodeHd.of t5 t6
    obtain ⟨⟨oc, vc, e1, e2, e3, e4⟩, e5⟩ := t6
    have g2 := kin _ _ k4
    rw [g2] at e1
    cases e1
    cases e3
    rw [k5] at e4
    cases e4
    exact ⟨e5, hcode⟩
  exact law_end kin G.T.g G.T.b G.T.builtins G.T.nolimit hg hT nT C G.T.bmain hobj hints (Nat.le_trans hlen hn2) room hF hb fun H hH hS => hsp H a ns hlen hbits hH hS
/-- the law's def, where its mirror says True -/
theorem sp_law {K : PySem.W.Frag} {u : U} {H : Hp} {a : Addr} {ns : List Int} {F : List D → List SO → Res D} {μ : List SO} (hF : F [.scr (ns.map .int)] [] = .ok (.bl true) μ) (hT : ∀ p ∈ u.T, H p.1 = some (.tbl #[])) (hS : Rd H a (.lst (ns.map V.int)) ∨ KLst K a (ns.map V.int)) :
    SpS K u 1 F [.ref a] H (fun v _ => v = .bl true) fun _ _ _ => False := by
  have reps : ∀ is : List Int, RepVs K u (fun _ => False) [] H (is.map .int) (is.map V.int) := fun is => by
    induction is with
    | nil => exact .nil
    | cons i is ih => exact .cons (.int i) ih
  refine ⟨rfl, fun _ => False, [], [], [.scr (ns.map .int)], ⟨rfl, fun l m p e => by simp at e, fun l x o e => by simp at e, fun p hp => hp.elim, fun p hp => TabS.nil (hT p hp)⟩, .cons (.scr (hS.imp (fun h => ⟨h, fun z => z.elim id fun ⟨l, e⟩ => by simp at e⟩) id) (reps ns)) .nil, ?_⟩
  rw [hF]
  intro as' H' v lt rl q
  cases q
  rfl
end G

set_option Elab.async false
set_option linter.all false
set_option maxRecDepth 100000
set_option maxHeartbeats 0
/-! The walk of givesway_k65_groupings_of_places: mirrors and derivations, printed. -/
namespace K65
open PySem PySem.Spec PyProof.Rows L2 G
def top (i : Nat) : Stmt := PySem.Challenge.pw_givesway_k65_groupings_of_places.main.body.getD i (.Pass ⟨0, 0, 0, 0⟩)
abbrev s_is_integer : Stmt := top 1
abbrev s_is_within : Stmt := top 2
abbrev s_is_list : Stmt := top 3
abbrev s_are_places : Stmt := top 14
abbrev s_ordered : Stmt := top 15
abbrev s_grown : Stmt := top 16
abbrev s_all_groupings : Stmt := top 17
abbrev s_is_grouping_of : Stmt := top 18
abbrev s_border_groupings : Stmt := top 19
abbrev s_is_border_grouping : Stmt := top 20
abbrev s_is_finer : Stmt := top 21
abbrev s_is_some_grouping : Stmt := top 22
abbrev s_law_bag : Stmt := top 24
abbrev s_law_draw : Stmt := top 25
abbrev s_law_pick : Stmt := top 26
abbrev s_law_splits : Stmt := top 27
abbrev s_law_grouping : Stmt := top 28
abbrev s_law_states : Stmt := top 29
abbrev s_law_heard : Stmt := top 30
abbrev s_law_any_groups : Stmt := top 31
abbrev s_law_is_grouping : Stmt := top 32
abbrev s_law_is_finer : Stmt := top 33
abbrev s_law_finer_right : Stmt := top 34
abbrev s_law : Stmt := top 35
abbrev si_BadBorder : Stmt := inClass (top 9) 0
abbrev si_BadNumber : Stmt := inClass (top 10) 0
theorem bt_abs : bootBuiltins "abs" = some (.builtin "abs") := by decide +kernel
theorem bt_all : bootBuiltins "all" = some (.builtin "all") := by decide +kernel
theorem bt_any : bootBuiltins "any" = some (.builtin "any") := by decide +kernel
theorem bt_bool : bootBuiltins "bool" = some (.type "bool") := by decide +kernel
theorem bt_int : bootBuiltins "int" = some (.type "int") := by decide +kernel
theorem bt_isinstance : bootBuiltins "isinstance" = some (.builtin "isinstance") := by decide +kernel
theorem bt_len : bootBuiltins "len" = some (.builtin "len") := by decide +kernel
theorem bt_list : bootBuiltins "list" = some (.type "list") := by decide +kernel
theorem bt_max : bootBuiltins "max" = some (.builtin "max") := by decide +kernel
theorem bt_repr : bootBuiltins "repr" = some (.builtin "repr") := by decide +kernel
theorem bt_sorted : bootBuiltins "sorted" = some (.builtin "sorted") := by decide +kernel
theorem bt_sum : bootBuiltins "sum" = some (.builtin "sum") := by decide +kernel
theorem bt_tuple : bootBuiltins "tuple" = some (.type "tuple") := by decide +kernel
def okX (c : Nat) : Bool := c == 4 || c == 5
def okY (c : Nat) : Bool := c == 1 || c == 2 || c == 3 || c == 4 || c == 5 || c == 6
def subX (c d : Nat) : Bool := c == d
def okG (c : Nat) : Bool := okX c
/-- what the top has made -/
structure Tx (K : PySem.W.Frag) (mg : Str → Option Value) (u : U) (fa : Nat → Addr) (fdd : Nat → FuncData) (fi : Nat → Addr) (fdi : Nat → FuncData) (cs : List (Addr × Addr)) (cP : Nat → Addr × Addr) : Prop where
  fn_is_integer : Fun K "is_integer" "is_integer" s_is_integer (fa 0) (fdd 0)
  mg_is_integer : mg "is_integer" = some (.ref (fa 0))
  fn_is_within : Fun K "is_within" "is_within" s_is_within (fa 1) (fdd 1)
  mg_is_within : mg "is_within" = some (.ref (fa 1))
  fn_is_list : Fun K "is_list" "is_list" s_is_list (fa 2) (fdd 2)
  mg_is_list : mg "is_list" = some (.ref (fa 2))
  fn_are_places : Fun K "are_places" "are_places" s_are_places (fa 3) (fdd 3)
  mg_are_places : mg "are_places" = some (.ref (fa 3))
  fn_ordered : Fun K "ordered" "ordered" s_ordered (fa 4) (fdd 4)
  mg_ordered : mg "ordered" = some (.ref (fa 4))
  fn_grown : Fun K "grown" "grown" s_grown (fa 5) (fdd 5)
  mg_grown : mg "grown" = some (.ref (fa 5))
  fn_all_groupings : Fun K "all_groupings" "all_groupings" s_all_groupings (fa 6) (fdd 6)
  mg_all_groupings : mg "all_groupings" = some (.ref (fa 6))
  fn_is_grouping_of : Fun K "is_grouping_of" "is_grouping_of" s_is_grouping_of (fa 7) (fdd 7)
  mg_is_grouping_of : mg "is_grouping_of" = some (.ref (fa 7))
  fn_border_groupings : Fun K "border_groupings" "border_groupings" s_border_groupings (fa 8) (fdd 8)
  mg_border_groupings : mg "border_groupings" = some (.ref (fa 8))
  fn_is_border_grouping : Fun K "is_border_grouping" "is_border_grouping" s_is_border_grouping (fa 9) (fdd 9)
  mg_is_border_grouping : mg "is_border_grouping" = some (.ref (fa 9))
  fn_is_finer : Fun K "is_finer" "is_finer" s_is_finer (fa 10) (fdd 10)
  mg_is_finer : mg "is_finer" = some (.ref (fa 10))
  fn_is_some_grouping : Fun K "is_some_grouping" "is_some_grouping" s_is_some_grouping (fa 11) (fdd 11)
  mg_is_some_grouping : mg "is_some_grouping" = some (.ref (fa 11))
  fn_law_bag : Fun K "_law_bag" "_law_bag" s_law_bag (fa 12) (fdd 12)
  mg_law_bag : mg "_law_bag" = some (.ref (fa 12))
  fn_law_draw : Fun K "_law_draw" "_law_draw" s_law_draw (fa 13) (fdd 13)
  mg_law_draw : mg "_law_draw" = some (.ref (fa 13))
  fn_law_pick : Fun K "_law_pick" "_law_pick" s_law_pick (fa 14) (fdd 14)
  mg_law_pick : mg "_law_pick" = some (.ref (fa 14))
  fn_law_splits : Fun K "_law_splits" "_law_splits" s_law_splits (fa 15) (fdd 15)
  mg_law_splits : mg "_law_splits" = some (.ref (fa 15))
  fn_law_grouping : Fun K "_law_grouping" "_law_grouping" s_law_grouping (fa 16) (fdd 16)
  mg_law_grouping : mg "_law_grouping" = some (.ref (fa 16))
  fn_law_states : Fun K "_law_states" "_law_states" s_law_states (fa 17) (fdd 17)
  mg_law_states : mg "_law_states" = some (.ref (fa 17))
  fn_law_heard : Fun K "_law_heard" "_law_heard" s_law_heard (fa 18) (fdd 18)
  mg_law_heard : mg "_law_heard" = some (.ref (fa 18))
  fn_law_any_groups : Fun K "_law_any_groups" "_law_any_groups" s_law_any_groups (fa 19) (fdd 19)
  mg_law_any_groups : mg "_law_any_groups" = some (.ref (fa 19))
  fn_law_is_grouping : Fun K "_law_is_grouping" "_law_is_grouping" s_law_is_grouping (fa 20) (fdd 20)
  mg_law_is_grouping : mg "_law_is_grouping" = some (.ref (fa 20))
  fn_law_is_finer : Fun K "_law_is_finer" "_law_is_finer" s_law_is_finer (fa 21) (fdd 21)
  mg_law_is_finer : mg "_law_is_finer" = some (.ref (fa 21))
  fn_law_finer_right : Fun K "_law_finer_right" "_law_finer_right" s_law_finer_right (fa 22) (fdd 22)
  mg_law_finer_right : mg "_law_finer_right" = some (.ref (fa 22))
  fn_law : Fun K "law" "law" s_law (fa 23) (fdd 23)
  mg_law : mg "law" = some (.ref (fa 23))
  no_abs : mg "abs" = none
  no_all : mg "all" = none
  no_any : mg "any" = none
  no_bool : mg "bool" = none
  no_enumerate : mg "enumerate" = none
  no_int : mg "int" = none
  no_isinstance : mg "isinstance" = none
  no_len : mg "len" = none
  no_list : mg "list" = none
  no_max : mg "max" = none
  no_range : mg "range" = none
  no_repr : mg "repr" = none
  no_sorted : mg "sorted" = none
  no_sum : mg "sum" = none
  no_tuple : mg "tuple" = none
  no_zip : mg "zip" = none
  gl_MOST_PLACES : ∃ tk : Tok, mg "MOST_PLACES" = some (.int 3 tk)
  mc_GiveError : mg "GiveError" = some (.ref (u.ct 0))
  mc_NoPiece : mg "NoPiece" = some (.ref (u.ct 1))
  mc_BadGroups : mg "BadGroups" = some (.ref (u.ct 2))
  mc_BadUnit : mg "BadUnit" = some (.ref (u.ct 3))
  mc_BadBorder : mg "BadBorder" = some (.ref (u.ct 4))
  mc_BadNumber : mg "BadNumber" = some (.ref (u.ct 5))
  mc_TooMany : mg "TooMany" = some (.ref (u.ct 6))
  ox_BadBorder : OexC K (u.ct 4)
  in_BadBorder : PySem.W.findIn K (.ref (u.ct 4)) "__init__" = some (some (.ref (fi 4)))
  ti_BadBorder : PySem.W.typeIn K (.ref (fi 4)) = some (.type "function")
  fi_BadBorder : Fun K "__init__" "BadBorder.__init__" si_BadBorder (fi 4) (fdi 4)
  nf_BadBorder_part : PySem.W.findIn K (.ref (u.ct 4)) "part" = some none
  ox_BadNumber : OexC K (u.ct 5)
  in_BadNumber : PySem.W.findIn K (.ref (u.ct 5)) "__init__" = some (some (.ref (fi 5)))
  ti_BadNumber : PySem.W.typeIn K (.ref (fi 5)) = some (.type "function")
  fi_BadNumber : Fun K "__init__" "BadNumber.__init__" si_BadNumber (fi 5) (fdi 5)
  nf_BadNumber_part : PySem.W.findIn K (.ref (u.ct 5)) "part" = some none
  xc : ∀ c, okX c = true → ExcC K (u.ct c)
  kt : ∀ c d, okX c = true → okY d = true → PySem.W.kitOne K (.ref (u.ct c)) (.ref (u.ct d)) = some (subX c d)
  xf_most : ∀ c, okX c = true → ExcC K (u.ct c) ∧ PySem.W.findIn K (.ref (u.ct c)) "most" = some none
  xf_part : ∀ c, okX c = true → ExcC K (u.ct c) ∧ PySem.W.findIn K (.ref (u.ct c)) "part" = some none
  xf_value : ∀ c, okX c = true → ExcC K (u.ct c) ∧ PySem.W.findIn K (.ref (u.ct c)) "value" = some none
  xf_what : ∀ c, okX c = true → ExcC K (u.ct c) ∧ PySem.W.findIn K (.ref (u.ct c)) "what" = some none
  gv : ∀ c, okG c = true → PySem.W.exmOne K (.ref (u.ct c)) (.ref (u.ct 0)) = some true
  cs_all : cs = [cP 22, cP 23]
  cs_law_finer_right : cP 22 ∈ cs
  cd_law_finer_right : (fdd 22).code = .ref (cP 22).1
  tm_law_finer_right : ((cP 22).2, ("_law_finer_right.<locals>." : Str) ++ "<lambda>") ∈ u.T
  tu_law_finer_right : ∀ p ∈ u.T, p.1 = (cP 22).2 → p.2 = ("_law_finer_right.<locals>." : Str) ++ "<lambda>"
  cs_law : cP 23 ∈ cs
  cd_law : (fdd 23).code = .ref (cP 23).1
  tm_law : ((cP 23).2, ("law.<locals>." : Str) ++ "<lambda>") ∈ u.T
  tu_law : ∀ p ∈ u.T, p.1 = (cP 23).2 → p.2 = ("law.<locals>." : Str) ++ "<lambda>"
section
variable {P : Program} {w : World} {K : PySem.W.Frag} {mg : Str → Option Value} {base : Heap} {u : U} {fa fi : Nat → Addr} {fdd fdi : Nat → FuncData} {cs : List (Addr × Addr)} {cP : Nat → Addr × Addr}
theorem sci_BadBorder : FnScope (["self", "part"] : List Str) ["self", "part"] (defScope si_BadBorder) := C8.fnScope_by (by decide +kernel)
theorem bi_BadBorder (T : Tx K mg u fa fdd fi fdi cs cP) : Binds K (fdi 4) ["self", "part"] [] := T.fi_BadBorder.binds fun _ _ _ _ _ _ us hl => match us, hl with | [_, _], _ => rfl
theorem init_BadBorder (T : Tx K mg u fa fdd fi fdi cs cP) : FnOk P w K mg base CX0 1 (fi 4) (fdi 4) ["self", "part"] (spI K (u.ct 4) [("part" : Str)]) := init_ok T.fi_BadBorder sci_BadBorder T.ox_BadBorder T.nf_BadBorder_part (fun cdv A outer s H E => pss_one (ps_ost (pe_var rfl (.inl rfl)) (pe_var rfl (.inl rfl)))) rfl
theorem sci_BadNumber : FnScope (["self", "part"] : List Str) ["self", "part"] (defScope si_BadNumber) := C8.fnScope_by (by decide +kernel)
theorem bi_BadNumber (T : Tx K mg u fa fdd fi fdi cs cP) : Binds K (fdi 5) ["self", "part"] [] := T.fi_BadNumber.binds fun _ _ _ _ _ _ us hl => match us, hl with | [_, _], _ => rfl
theorem init_BadNumber (T : Tx K mg u fa fdd fi fdi cs cP) : FnOk P w K mg base CX0 1 (fi 5) (fdi 5) ["self", "part"] (spI K (u.ct 5) [("part" : Str)]) := init_ok T.fi_BadNumber sci_BadNumber T.ox_BadNumber T.nf_BadNumber_part (fun cdv A outer s H E => pss_one (ps_ost (pe_var rfl (.inl rfl)) (pe_var rfl (.inl rfl)))) rfl
/-! ### is_integer -/
abbrev n_is_integer : List Str := ["value"]
theorem sc_is_integer : FnScope n_is_integer ["value"] (defScope s_is_integer) := C8.fnScope_by (by decide +kernel)
theorem b_is_integer (T : Tx K mg u fa fdd fi fdi cs cP) : Binds K (fdd 0) ["value"] [] := T.fn_is_integer.binds fun _ _ _ _ _ _ us hl => match us, hl with | [_], _ => rfl
abbrev m_is_integer : SS :=
  (retS (andM (callM isaF (consM (varM 0) (consM (cM (.ty "int")) nilM))) (notM (callM isaF (consM (varM 0) (consM (cM (.ty "bool")) nilM))))))
abbrev f_is_integer : List D → PR := runP n_is_integer.length m_is_integer
set_option maxHeartbeats 0 in
theorem ok_is_integer (T : Tx K mg u fa fdd fi fdi cs cP) : FnG P w K mg base 1 (fa 0) (fdd 0) ["value"] (SpP K u 1 f_is_integer) :=
  FnG.pure T.fn_is_integer sc_is_integer fun cdv A outer s H E g =>
  (gs_one (gs_ret (ge_and (ge_callB g_isa T.no_isinstance bt_isinstance (ga_cons (ge_var (i := 0)) (ga_cons (ge_bty T.no_int bt_int) ga_nil))) (ge_one (ge_not (ge_callB g_isa T.no_isinstance bt_isinstance (ga_cons (ge_var (i := 0)) (ga_cons (ge_bty T.no_bool bt_bool) ga_nil))))))))
/-! ### is_within -/
abbrev n_is_within : List Str := ["value", "least", "most"]
theorem sc_is_within : FnScope n_is_within ["value", "least", "most"] (defScope s_is_within) := C8.fnScope_by (by decide +kernel)
theorem b_is_within (T : Tx K mg u fa fdd fi fdi cs cP) : Binds K (fdd 1) ["value", "least", "most"] [] := T.fn_is_within.binds fun _ _ _ _ _ _ us hl => match us, hl with | [_, _, _], _ => rfl
abbrev m_is_within : SS :=
  (retS (andM (callPM f_is_integer (argN 1 (consM (varM 0) nilM))) (chainM leF leF (varM 1) (varM 0) (varM 2))))
abbrev f_is_within : List D → PR := runP n_is_within.length m_is_within
set_option maxHeartbeats 0 in
theorem ok_is_within (T : Tx K mg u fa fdd fi fdi cs cP) : FnG P w K mg base 2 (fa 1) (fdd 1) ["value", "least", "most"] (SpP K u 3 f_is_within) :=
  FnG.pure T.fn_is_within sc_is_within fun cdv A outer s H E g =>
  (gs_one (gs_ret (ge_and (ge_callP (ok_is_integer T) g (by decide) T.mg_is_integer T.fn_is_integer.kp (b_is_integer T) (ga_cons (ge_var (i := 0)) ga_nil)) (ge_one (ge_chain g_le g_le (ge_var (i := 1)) (ge_var (i := 0)) (ge_var (i := 2)))))))
/-! ### is_list -/
abbrev n_is_list : List Str := ["value"]
theorem sc_is_list : FnScope n_is_list ["value"] (defScope s_is_list) := C8.fnScope_by (by decide +kernel)
theorem b_is_list (T : Tx K mg u fa fdd fi fdi cs cP) : Binds K (fdd 2) ["value"] [] := T.fn_is_list.binds fun _ _ _ _ _ _ us hl => match us, hl with | [_], _ => rfl
abbrev m_is_list : SS :=
  (retS (callM isaF (consM (varM 0) (consM (tupM (consM (cM (.ty "list")) (consM (cM (.ty "tuple")) nilM))) nilM))))
abbrev f_is_list : List D → PR := runP n_is_list.length m_is_list
set_option maxHeartbeats 0 in
theorem ok_is_list (T : Tx K mg u fa fdd fi fdi cs cP) : FnG P w K mg base 1 (fa 2) (fdd 2) ["value"] (SpP K u 1 f_is_list) :=
  FnG.pure T.fn_is_list sc_is_list fun cdv A outer s H E g =>
  (gs_one (gs_ret (ge_callB g_isa T.no_isinstance bt_isinstance (ga_cons (ge_var (i := 0)) (ga_cons (ge_tup (ga_cons (ge_bty T.no_list bt_list) (ga_cons (ge_bty T.no_tuple bt_tuple) ga_nil))) ga_nil)))))
/-! ### are_places -/
abbrev n_are_places : List Str := ["value", "many", "place", "later"]
theorem sc_are_places : FnScope n_are_places ["value", "many"] (defScope s_are_places) := C8.fnScope_by (by decide +kernel)
theorem b_are_places (T : Tx K mg u fa fdd fi fdi cs cP) : Binds K (fdd 3) ["value", "many"] [] := T.fn_are_places.binds fun _ _ _ _ _ _ us hl => match us, hl with | [_, _], _ => rfl
abbrev own_are_places_0 : List (Str × Nat) := [("place", 2)]
abbrev own_are_places_1 : List (Str × Nat) := [("place", 2), ("later", 3)]
abbrev m_are_places : SS :=
  (seqS (ifS (orT (notT (truM (callM isaF (consM (varM 0) (consM (cM (.ty "tuple")) nilM))))) (orT (boolM (op2M eqF (varM 0) (tupM nilM))) (notT (truM (callM allF (consM (lcM (seqM (varM 0)) (own_are_places_0.map (·.2)) (.nm 2) yesM (callPM f_is_within (argN 3 (consM (varM 2) (consM (cM (.int 0)) (consM (op2M subF (varM 1) (cM (.int 1))) nilM)))))) nilM)))))) (retS (cM (.bl false))) nilS)
  (retS (callM allF (consM (lcM (zipM (consM (varM 0) (consM (cutM (varM 0) (someO (cM (.int 1))) noneO) nilM))) (own_are_places_1.map (·.2)) (.tp [2, 3]) yesM (op2M ltF (varM 2) (varM 3))) nilM))))
abbrev f_are_places : List D → PR := runP n_are_places.length m_are_places
set_option maxHeartbeats 0 in
theorem ok_are_places (T : Tx K mg u fa fdd fi fdi cs cP) : FnG P w K mg base 3 (fa 3) (fdd 3) ["value", "many"] (SpP K u 2 f_are_places) :=
  FnG.pure T.fn_are_places sc_are_places fun cdv A outer s H E g =>
  (gs_cons (gs_if (gw_or (gt_not (gt_tru (ge_callB g_isa T.no_isinstance bt_isinstance (ga_cons (ge_var (i := 0)) (ga_cons (ge_bty T.no_tuple bt_tuple) ga_nil))))) (gw_or (gt_cmp (g_eq g.u64) (ge_var (i := 0)) (ge_tup ga_nil) (nomark _)) (gw_or1 (gt_not (gt_tru (ge_callB (g_all g.calm) T.no_all bt_all (ga_cons (ge_lc (own := own_are_places_0) g (gi_seq (ge_var (i := 0))) (blkOk_by (by kernel_rfl)) (by decide) (fun s1 H1 C1 cl1 fp1 => (gg_nm g.nd (i := 2))) (fun s1 H1 C1 cl1 fp1 => gts_nil) (fun s1 H1 C1 cl1 fp1 g1 => (ge_callP (ok_is_within T) g1 (by decide) T.mg_is_within T.fn_is_within.kp (b_is_within T) (ga_cons (ge_var (i := 2)) (ga_cons ge_int (ga_cons (ge_bin g_sub (ge_var (i := 1)) ge_int) ga_nil)))))) ga_nil))))))).pt (gs_one (gs_ret ge_bl)) gs_nil)
  (gs_one (gs_ret (ge_callB (g_all g.calm) T.no_all bt_all (ga_cons (ge_lc (own := own_are_places_1) g (gi_zip T.no_zip (ga_cons (ge_var (i := 0)) (ga_cons (ge_cut (ge_var (i := 0)) (go_some ge_int) go_none) ga_nil))) (blkOk_by (by kernel_rfl)) (by decide) (fun s1 H1 C1 cl1 fp1 => (gg_tup g.calm (gg_cons g.nd (gg_cons g.nd gg_nil (i := 3)) (i := 2)))) (fun s1 H1 C1 cl1 fp1 => gts_nil) (fun s1 H1 C1 cl1 fp1 g1 => (ge_cmp g_lt (ge_var (i := 2)) (ge_var (i := 3)) (nomark _)))) ga_nil)))))
/-! ### ordered -/
abbrev n_ordered : List Str := ["groups", "group"]
theorem sc_ordered : FnScope n_ordered ["groups"] (defScope s_ordered) := C8.fnScope_by (by decide +kernel)
theorem b_ordered (T : Tx K mg u fa fdd fi fdi cs cP) : Binds K (fdd 4) ["groups"] [] := T.fn_ordered.binds fun _ _ _ _ _ _ us hl => match us, hl with | [_], _ => rfl
abbrev own_ordered_0 : List (Str × Nat) := [("group", 1)]
abbrev m_ordered : SS :=
  (retS (callM tupleF (consM (callM sortF (consM (lcM (seqM (varM 0)) (own_ordered_0.map (·.2)) (.nm 1) yesM (callM tupleF (consM (callM sortF (consM (varM 1) nilM)) nilM))) nilM)) nilM)))
abbrev f_ordered : List D → PR := runP n_ordered.length m_ordered
set_option maxHeartbeats 0 in
theorem ok_ordered (T : Tx K mg u fa fdd fi fdi cs cP) : FnG P w K mg base 1 (fa 4) (fdd 4) ["groups"] (SpP K u 1 f_ordered) :=
  FnG.pure T.fn_ordered sc_ordered fun cdv A outer s H E g =>
  (gs_one (gs_ret (ge_callTy g_tuple T.no_tuple bt_tuple (ga_cons (ge_callB (g_sorted g.u) T.no_sorted bt_sorted (ga_cons (ge_lc (own := own_ordered_0) g (gi_seq (ge_var (i := 0))) (blkOk_by (by kernel_rfl)) (by decide) (fun s1 H1 C1 cl1 fp1 => (gg_nm g.nd (i := 1))) (fun s1 H1 C1 cl1 fp1 => gts_nil) (fun s1 H1 C1 cl1 fp1 g1 => (ge_callTy g_tuple T.no_tuple bt_tuple (ga_cons (ge_callB (g_sorted g1.u) T.no_sorted bt_sorted (ga_cons (ge_var (i := 1)) ga_nil)) ga_nil)))) ga_nil)) ga_nil))))
/-! ### grown -/
abbrev n_grown : List Str := ["found", "place", "more", "groups", "at", "group"]
theorem sc_grown : FnScope n_grown ["found", "place"] (defScope s_grown) := C8.fnScope_by (by decide +kernel)
theorem b_grown (T : Tx K mg u fa fdd fi fdi cs cP) : Binds K (fdd 5) ["found", "place"] [] := T.fn_grown.binds fun _ _ _ _ _ _ us hl => match us, hl with | [_, _], _ => rfl
abbrev m_grown : SS :=
  (seqS (setS 2 (newM nilM))
  (seqS (forS (.nm 3) (seqM (varM 0)) (seqS (dropS (appM (varM 2) (consM (callPM f_ordered (argN 1 (consM (lstM (starM (varM 3) (consM (tupM (consM (varM 1) nilM)) nilM))) nilM))) nilM)))
  (forS (.tp [4, 5]) (enumM (consM (varM 3) nilM)) (dropS (appM (varM 2) (consM (callPM f_ordered (argN 1 (consM (lstM (starM (cutM (varM 3) noneO (someO (varM 4))) (consM (tupM (starM (varM 5) (consM (varM 1) nilM))) (starM (cutM (varM 3) (someO (op2M addF (varM 4) (cM (.int 1)))) noneO) nilM)))) nilM))) nilM))))))
  (retS (frzM (varM 2)))))
abbrev f_grown : List D → PR := runP n_grown.length m_grown
set_option maxHeartbeats 0 in
theorem ok_grown (T : Tx K mg u fa fdd fi fdi cs cP) : FnG P w K mg base 2 (fa 5) (fdd 5) ["found", "place"] (SpP K u 2 f_grown) :=
  FnG.pure T.fn_grown sc_grown fun cdv A outer s H E g =>
  (gs_cons (gs_set g.nd (ge_new ga_nil) (i := 2))
  (gs_cons (gs_for g (gi_seq (ge_var (i := 0))) (gg_nm g.nd (i := 3)) (gs_cons (gs_expr (ge_app (ge_var (i := 2)) (ga_cons (ge_callP (ok_ordered T) g (by decide) T.mg_ordered T.fn_ordered.kp (b_ordered T) (ga_cons (ge_lst (ga_star (ge_var (i := 3)) (ga_cons (ge_tup (ga_cons (ge_var (i := 1)) ga_nil)) ga_nil))) ga_nil)) ga_nil)))
  (gs_one (gs_for g (gi_enum T.no_enumerate (ga_cons (ge_var (i := 3)) ga_nil)) (gg_tup g.calm (gg_cons g.nd (gg_cons g.nd gg_nil (i := 5)) (i := 4))) (gs_one (gs_expr (ge_app (ge_var (i := 2)) (ga_cons (ge_callP (ok_ordered T) g (by decide) T.mg_ordered T.fn_ordered.kp (b_ordered T) (ga_cons (ge_lst (ga_star (ge_cut (ge_var (i := 3)) go_none (go_some (ge_var (i := 4)))) (ga_cons (ge_tup (ga_star (ge_var (i := 5)) (ga_cons (ge_var (i := 1)) ga_nil))) (ga_star (ge_cut (ge_var (i := 3)) (go_some (ge_bin g_add (ge_var (i := 4)) ge_int)) go_none) ga_nil)))) ga_nil)) ga_nil))))))))
  (gs_one (gs_ret (ge_frz (ge_var (i := 2)))))))
/-! ### all_groupings -/
abbrev n_all_groupings : List Str := ["many", "found", "place"]
theorem sc_all_groupings : FnScope n_all_groupings ["many"] (defScope s_all_groupings) := C8.fnScope_by (by decide +kernel)
theorem b_all_groupings (T : Tx K mg u fa fdd fi fdi cs cP) : Binds K (fdd 6) ["many"] [] := T.fn_all_groupings.binds fun _ _ _ _ _ _ us hl => match us, hl with | [_], _ => rfl
abbrev m_all_groupings : SS :=
  (seqS (setS 1 (lstM (consM (tupM nilM) nilM)))
  (seqS (forS (.nm 2) (rangeM1 (consM (varM 0) nilM)) (setS 1 (callPM f_grown (argN 2 (consM (varM 1) (consM (varM 2) nilM))))))
  (retS (callM tupleF (consM (callM sortF (consM (varM 1) nilM)) nilM)))))
abbrev f_all_groupings : List D → PR := runP n_all_groupings.length m_all_groupings
set_option maxHeartbeats 0 in
theorem ok_all_groupings (T : Tx K mg u fa fdd fi fdi cs cP) : FnG P w K mg base 3 (fa 6) (fdd 6) ["many"] (SpP K u 1 f_all_groupings) :=
  FnG.pure T.fn_all_groupings sc_all_groupings fun cdv A outer s H E g =>
  (gs_cons (gs_set g.nd (ge_lst (ga_cons (ge_tup ga_nil) ga_nil)) (i := 1))
  (gs_cons (gs_for g (gi_range1 T.no_range (ga_cons (ge_var (i := 0)) ga_nil)) (gg_nm g.nd (i := 2)) (gs_one (gs_set g.nd (ge_callP (ok_grown T) g (by decide) T.mg_grown T.fn_grown.kp (b_grown T) (ga_cons (ge_var (i := 1)) (ga_cons (ge_var (i := 2)) ga_nil))) (i := 1))))
  (gs_one (gs_ret (ge_callTy g_tuple T.no_tuple bt_tuple (ga_cons (ge_callB (g_sorted g.u) T.no_sorted bt_sorted (ga_cons (ge_var (i := 1)) ga_nil)) ga_nil))))))
/-! ### is_grouping_of -/
abbrev n_is_grouping_of : List Str := ["many", "value", "group"]
theorem sc_is_grouping_of : FnScope n_is_grouping_of ["many", "value"] (defScope s_is_grouping_of) := C8.fnScope_by (by decide +kernel)
theorem b_is_grouping_of (T : Tx K mg u fa fdd fi fdi cs cP) : Binds K (fdd 7) ["many", "value"] [] := T.fn_is_grouping_of.binds fun _ _ _ _ _ _ us hl => match us, hl with | [_, _], _ => rfl
abbrev own_is_grouping_of_0 : List (Str × Nat) := [("group", 2)]
abbrev m_is_grouping_of : SS :=
  (seqS (ifS (orT (notT (truM (callM isaF (consM (varM 1) (consM (cM (.ty "tuple")) nilM))))) (notT (truM (callM allF (consM (lcM (seqM (varM 1)) (own_is_grouping_of_0.map (·.2)) (.nm 2) yesM (callPM f_are_places (argN 2 (consM (varM 2) (consM (varM 0) nilM))))) nilM))))) (retS (cM (.bl false))) nilS)
  (retS (op2M inF (varM 1) (callPM f_all_groupings (argN 1 (consM (varM 0) nilM))))))
abbrev f_is_grouping_of : List D → PR := runP n_is_grouping_of.length m_is_grouping_of
set_option maxHeartbeats 0 in
theorem ok_is_grouping_of (T : Tx K mg u fa fdd fi fdi cs cP) : FnG P w K mg base 4 (fa 7) (fdd 7) ["many", "value"] (SpP K u 2 f_is_grouping_of) :=
  FnG.pure T.fn_is_grouping_of sc_is_grouping_of fun cdv A outer s H E g =>
  (gs_cons (gs_if (gw_or (gt_not (gt_tru (ge_callB g_isa T.no_isinstance bt_isinstance (ga_cons (ge_var (i := 1)) (ga_cons (ge_bty T.no_tuple bt_tuple) ga_nil))))) (gw_or1 (gt_not (gt_tru (ge_callB (g_all g.calm) T.no_all bt_all (ga_cons (ge_lc (own := own_is_grouping_of_0) g (gi_seq (ge_var (i := 1))) (blkOk_by (by kernel_rfl)) (by decide) (fun s1 H1 C1 cl1 fp1 => (gg_nm g.nd (i := 2))) (fun s1 H1 C1 cl1 fp1 => gts_nil) (fun s1 H1 C1 cl1 fp1 g1 => (ge_callP (ok_are_places T) g1 (by decide) T.mg_are_places T.fn_are_places.kp (b_are_places T) (ga_cons (ge_var (i := 2)) (ga_cons (ge_var (i := 0)) ga_nil))))) ga_nil)))))).pt (gs_one (gs_ret ge_bl)) gs_nil)
  (gs_one (gs_ret (ge_cmp (g_in g.u65) (ge_var (i := 1)) (ge_callP (ok_all_groupings T) g (by decide) T.mg_all_groupings T.fn_all_groupings.kp (b_all_groupings T) (ga_cons (ge_var (i := 0)) ga_nil)) rfl))))
/-! ### border_groupings -/
abbrev n_border_groupings : List Str := ["many"]
theorem sc_border_groupings : FnScope n_border_groupings ["many"] (defScope s_border_groupings) := C8.fnScope_by (by decide +kernel)
theorem b_border_groupings (T : Tx K mg u fa fdd fi fdi cs cP) : Binds K (fdd 8) ["many"] [] := T.fn_border_groupings.binds fun _ _ _ _ _ _ us hl => match us, hl with | [_], _ => rfl
theorem kb_border_groupings_1 (T : Tx K mg u fa fdd fi fdi cs cP) : KB K (fdd 8) ["many"] ["many"] 0 [0] := T.fn_border_groupings.kb fun _ _ _ _ _ _ us ws h1 h2 => match us, ws, h1, h2 with | [], [_], _, _ => rfl
abbrev m_border_groupings : SS :=
  (seqS (ifS (notT (truM (callPM f_is_within (argN 3 (consM (varM 0) (consM (cM (.int 1)) (consM (cM (.int 3)) nilM))))))) (raiseS 5 [("part" : Str)] (consM (cM (.str "many")) nilM)) nilS)
  (retS (callPM f_all_groupings (argN 1 (consM (varM 0) nilM)))))
abbrev f_border_groupings : List D → PR := runP n_border_groupings.length m_border_groupings
set_option maxHeartbeats 0 in
theorem ok_border_groupings (T : Tx K mg u fa fdd fi fdi cs cP) : FnG P w K mg base 4 (fa 8) (fdd 8) ["many"] (SpP K u 1 f_border_groupings) :=
  FnG.pure T.fn_border_groupings sc_border_groupings fun cdv A outer s H E g =>
  (gs_cons (gs_if (gt_not (gt_tru (ge_callP (ok_is_within T) g (by decide) T.mg_is_within T.fn_is_within.kp (b_is_within T) (ga_cons (ge_var (i := 0)) (ga_cons ge_int (ga_cons (ge_gint T.gl_MOST_PLACES.choose_spec) ga_nil)))))) (gs_one (gs_raise g T.ox_BadNumber T.in_BadNumber T.ti_BadNumber (init_BadNumber T) (by decide) (bi_BadNumber T) T.mc_BadNumber (ga_cons ge_str ga_nil))) gs_nil)
  (gs_one (gs_ret (ge_callP (ok_all_groupings T) g (by decide) T.mg_all_groupings T.fn_all_groupings.kp (b_all_groupings T) (ga_cons (ge_var (i := 0)) ga_nil)))))
/-! ### is_border_grouping -/
abbrev n_is_border_grouping : List Str := ["many", "value"]
theorem sc_is_border_grouping : FnScope n_is_border_grouping ["many", "value"] (defScope s_is_border_grouping) := C8.fnScope_by (by decide +kernel)
theorem b_is_border_grouping (T : Tx K mg u fa fdd fi fdi cs cP) : Binds K (fdd 9) ["many", "value"] [] := T.fn_is_border_grouping.binds fun _ _ _ _ _ _ us hl => match us, hl with | [_, _], _ => rfl
theorem kb_is_border_grouping_2 (T : Tx K mg u fa fdd fi fdi cs cP) : KB K (fdd 9) ["many", "value"] ["value", "many"] 0 [1, 0] := T.fn_is_border_grouping.kb fun _ _ _ _ _ _ us ws h1 h2 => match us, ws, h1, h2 with | [], [_, _], _, _ => rfl
abbrev m_is_border_grouping : SS :=
  (seqS (ifS (notT (truM (callPM f_is_within (argN 3 (consM (varM 0) (consM (cM (.int 1)) (consM (cM (.int 3)) nilM))))))) (raiseS 5 [("part" : Str)] (consM (cM (.str "many")) nilM)) nilS)
  (retS (callPM f_is_grouping_of (argN 2 (consM (varM 0) (consM (varM 1) nilM))))))
abbrev f_is_border_grouping : List D → PR := runP n_is_border_grouping.length m_is_border_grouping
set_option maxHeartbeats 0 in
theorem ok_is_border_grouping (T : Tx K mg u fa fdd fi fdi cs cP) : FnG P w K mg base 5 (fa 9) (fdd 9) ["many", "value"] (SpP K u 2 f_is_border_grouping) :=
  FnG.pure T.fn_is_border_grouping sc_is_border_grouping fun cdv A outer s H E g =>
  (gs_cons (gs_if (gt_not (gt_tru (ge_callP (ok_is_within T) g (by decide) T.mg_is_within T.fn_is_within.kp (b_is_within T) (ga_cons (ge_var (i := 0)) (ga_cons ge_int (ga_cons (ge_gint T.gl_MOST_PLACES.choose_spec) ga_nil)))))) (gs_one (gs_raise g T.ox_BadNumber T.in_BadNumber T.ti_BadNumber (init_BadNumber T) (by decide) (bi_BadNumber T) T.mc_BadNumber (ga_cons ge_str ga_nil))) gs_nil)
  (gs_one (gs_ret (ge_callP (ok_is_grouping_of T) g (by decide) T.mg_is_grouping_of T.fn_is_grouping_of.kp (b_is_grouping_of T) (ga_cons (ge_var (i := 0)) (ga_cons (ge_var (i := 1)) ga_nil))))))
/-! ### is_some_grouping -/
abbrev n_is_some_grouping : List Str := ["value", "many", "group", "place"]
theorem sc_is_some_grouping : FnScope n_is_some_grouping ["value"] (defScope s_is_some_grouping) := C8.fnScope_by (by decide +kernel)
theorem b_is_some_grouping (T : Tx K mg u fa fdd fi fdi cs cP) : Binds K (fdd 11) ["value"] [] := T.fn_is_some_grouping.binds fun _ _ _ _ _ _ us hl => match us, hl with | [_], _ => rfl
abbrev own_is_some_grouping_0 : List (Str × Nat) := [("group", 2)]
abbrev own_is_some_grouping_1 : List (Str × Nat) := [("group", 2), ("place", 3)]
abbrev own_is_some_grouping_2 : List (Str × Nat) := [("group", 2)]
abbrev m_is_some_grouping : SS :=
  (seqS (ifS (orT (notT (truM (callPM f_is_list (argN 1 (consM (varM 0) nilM))))) (notT (truM (callM allF (consM (lcM (seqM (varM 0)) (own_is_some_grouping_0.map (·.2)) (.nm 2) yesM (callPM f_is_list (argN 1 (consM (varM 2) nilM)))) nilM))))) (retS (cM (.bl false))) nilS)
  (seqS (ifS (notT (truM (callM allF (consM (lc2M (seqM (varM 0)) (own_is_some_grouping_1.map (·.2)) (.nm 2) yesM (seqM (varM 2)) [3] (.nm 3) yesM (callPM f_is_integer (argN 1 (consM (varM 3) nilM)))) nilM)))) (retS (cM (.bl false))) nilS)
  (seqS (setS 1 (callM sumF (consM (lcM (seqM (varM 0)) (own_is_some_grouping_2.map (·.2)) (.nm 2) yesM (callM lenF (consM (varM 2) nilM))) nilM)))
  (retS (andM (callPM f_is_within (argN 3 (consM (varM 1) (consM (cM (.int 1)) (consM (cM (.int 3)) nilM))))) (callPM f_is_grouping_of (argN 2 (consM (varM 1) (consM (varM 0) nilM)))))))))
abbrev f_is_some_grouping : List D → PR := runP n_is_some_grouping.length m_is_some_grouping
set_option maxHeartbeats 0 in
theorem ok_is_some_grouping (T : Tx K mg u fa fdd fi fdi cs cP) : FnG P w K mg base 5 (fa 11) (fdd 11) ["value"] (SpP K u 1 f_is_some_grouping) :=
  FnG.pure T.fn_is_some_grouping sc_is_some_grouping fun cdv A outer s H E g =>
  (gs_cons (gs_if (gw_or (gt_not (gt_tru (ge_callP (ok_is_list T) g (by decide) T.mg_is_list T.fn_is_list.kp (b_is_list T) (ga_cons (ge_var (i := 0)) ga_nil)))) (gw_or1 (gt_not (gt_tru (ge_callB (g_all g.calm) T.no_all bt_all (ga_cons (ge_lc (own := own_is_some_grouping_0) g (gi_seq (ge_var (i := 0))) (blkOk_by (by kernel_rfl)) (by decide) (fun s1 H1 C1 cl1 fp1 => (gg_nm g.nd (i := 2))) (fun s1 H1 C1 cl1 fp1 => gts_nil) (fun s1 H1 C1 cl1 fp1 g1 => (ge_callP (ok_is_list T) g1 (by decide) T.mg_is_list T.fn_is_list.kp (b_is_list T) (ga_cons (ge_var (i := 2)) ga_nil)))) ga_nil)))))).pt (gs_one (gs_ret ge_bl)) gs_nil)
  (gs_cons (gs_if (gt_not (gt_tru (ge_callB (g_all g.calm) T.no_all bt_all (ga_cons (ge_lc2 (own := own_is_some_grouping_1) g (gi_seq (ge_var (i := 0))) (blkOk_by (by kernel_rfl)) (by decide) (by decide) (by decide) (fun s1 H1 C1 cl1 fp1 => (gg_nm g.nd (i := 2))) (fun s1 H1 C1 cl1 fp1 => gts_nil) (fun s1 H1 C1 cl1 fp1 => (gi_seq (ge_var (i := 2)))) (fun s1 H1 C1 cl1 fp1 => (gg_nm g.nd (i := 3))) (fun s1 H1 C1 cl1 fp1 => gts_nil) (fun s1 H1 C1 cl1 fp1 g1 => (ge_callP (ok_is_integer T) g1 (by decide) T.mg_is_integer T.fn_is_integer.kp (b_is_integer T) (ga_cons (ge_var (i := 3)) ga_nil)))) ga_nil)))) (gs_one (gs_ret ge_bl)) gs_nil)
  (gs_cons (gs_set g.nd (ge_callB (g_sum g.calm) T.no_sum bt_sum (ga_cons (ge_lc (own := own_is_some_grouping_2) g (gi_seq (ge_var (i := 0))) (blkOk_by (by kernel_rfl)) (by decide) (fun s1 H1 C1 cl1 fp1 => (gg_nm g.nd (i := 2))) (fun s1 H1 C1 cl1 fp1 => gts_nil) (fun s1 H1 C1 cl1 fp1 g1 => (ge_callB g_len T.no_len bt_len (ga_cons (ge_var (i := 2)) ga_nil)))) ga_nil)) (i := 1))
  (gs_one (gs_ret (ge_and (ge_callP (ok_is_within T) g (by decide) T.mg_is_within T.fn_is_within.kp (b_is_within T) (ga_cons (ge_var (i := 1)) (ga_cons ge_int (ga_cons (ge_gint T.gl_MOST_PLACES.choose_spec) ga_nil)))) (ge_one (ge_callP (ok_is_grouping_of T) g (by decide) T.mg_is_grouping_of T.fn_is_grouping_of.kp (b_is_grouping_of T) (ga_cons (ge_var (i := 1)) (ga_cons (ge_var (i := 0)) ga_nil))))))))))
/-! ### is_finer -/
abbrev n_is_finer : List Str := ["one", "other", "part", "value", "group", "its", "place"]
theorem sc_is_finer : FnScope n_is_finer ["one", "other"] (defScope s_is_finer) := C8.fnScope_by (by decide +kernel)
theorem b_is_finer (T : Tx K mg u fa fdd fi fdi cs cP) : Binds K (fdd 10) ["one", "other"] [] := T.fn_is_finer.binds fun _ _ _ _ _ _ us hl => match us, hl with | [_, _], _ => rfl
theorem kb_is_finer_0 (T : Tx K mg u fa fdd fi fdi cs cP) : KB K (fdd 10) ["one", "other"] ["other", "one"] 0 [1, 0] := T.fn_is_finer.kb fun _ _ _ _ _ _ us ws h1 h2 => match us, ws, h1, h2 with | [], [_, _], _, _ => rfl
abbrev own_is_finer_0 : List (Str × Nat) := [("group", 4)]
abbrev own_is_finer_1 : List (Str × Nat) := [("group", 4)]
abbrev own_is_finer_2 : List (Str × Nat) := [("group", 4)]
abbrev own_is_finer_3 : List (Str × Nat) := [("its", 5)]
abbrev own_is_finer_4 : List (Str × Nat) := [("place", 6)]
abbrev m_is_finer : SS :=
  (seqS (forS (.tp [2, 3]) (seqM (tupM (consM (tupM (consM (cM (.str "one")) (consM (varM 0) nilM))) (consM (tupM (consM (cM (.str "other")) (consM (varM 1) nilM))) nilM)))) (ifS (notT (truM (callPM f_is_some_grouping (argN 1 (consM (varM 3) nilM))))) (raiseS 4 [("part" : Str)] (consM (varM 2) nilM)) nilS))
  (seqS (ifS (boolM (op2M neF (callM sumF (consM (lcM (seqM (varM 0)) (own_is_finer_0.map (·.2)) (.nm 4) yesM (callM lenF (consM (varM 4) nilM))) nilM)) (callM sumF (consM (lcM (seqM (varM 1)) (own_is_finer_1.map (·.2)) (.nm 4) yesM (callM lenF (consM (varM 4) nilM))) nilM)))) (retS (cM (.bl false))) nilS)
  (retS (callM allF (consM (lcM (seqM (varM 0)) (own_is_finer_2.map (·.2)) (.nm 4) yesM (callM anyF (consM (lcM (seqM (varM 1)) (own_is_finer_3.map (·.2)) (.nm 5) yesM (callM allF (consM (lcM (seqM (varM 4)) (own_is_finer_4.map (·.2)) (.nm 6) yesM (op2M inF (varM 6) (varM 5))) nilM))) nilM))) nilM)))))
abbrev f_is_finer : List D → PR := runP n_is_finer.length m_is_finer
set_option maxHeartbeats 0 in
theorem ok_is_finer (T : Tx K mg u fa fdd fi fdi cs cP) : FnG P w K mg base 6 (fa 10) (fdd 10) ["one", "other"] (SpP K u 2 f_is_finer) :=
  FnG.pure T.fn_is_finer sc_is_finer fun cdv A outer s H E g =>
  (gs_cons (gs_for g (gi_seq (ge_tup (ga_cons (ge_tup (ga_cons ge_str (ga_cons (ge_var (i := 0)) ga_nil))) (ga_cons (ge_tup (ga_cons ge_str (ga_cons (ge_var (i := 1)) ga_nil))) ga_nil)))) (gg_tup g.calm (gg_cons g.nd (gg_cons g.nd gg_nil (i := 3)) (i := 2))) (gs_one (gs_if (gt_not (gt_tru (ge_callP (ok_is_some_grouping T) g (by decide) T.mg_is_some_grouping T.fn_is_some_grouping.kp (b_is_some_grouping T) (ga_cons (ge_var (i := 3)) ga_nil)))) (gs_one (gs_raise g T.ox_BadBorder T.in_BadBorder T.ti_BadBorder (init_BadBorder T) (by decide) (bi_BadBorder T) T.mc_BadBorder (ga_cons (ge_var (i := 2)) ga_nil))) gs_nil)))
  (gs_cons (gs_if (gt_cmp (g_ne g.u64) (ge_callB (g_sum g.calm) T.no_sum bt_sum (ga_cons (ge_lc (own := own_is_finer_0) g (gi_seq (ge_var (i := 0))) (blkOk_by (by kernel_rfl)) (by decide) (fun s1 H1 C1 cl1 fp1 => (gg_nm g.nd (i := 4))) (fun s1 H1 C1 cl1 fp1 => gts_nil) (fun s1 H1 C1 cl1 fp1 g1 => (ge_callB g_len T.no_len bt_len (ga_cons (ge_var (i := 4)) ga_nil)))) ga_nil)) (ge_callB (g_sum g.calm) T.no_sum bt_sum (ga_cons (ge_lc (own := own_is_finer_1) g (gi_seq (ge_var (i := 1))) (blkOk_by (by kernel_rfl)) (by decide) (fun s1 H1 C1 cl1 fp1 => (gg_nm g.nd (i := 4))) (fun s1 H1 C1 cl1 fp1 => gts_nil) (fun s1 H1 C1 cl1 fp1 g1 => (ge_callB g_len T.no_len bt_len (ga_cons (ge_var (i := 4)) ga_nil)))) ga_nil)) (nomark _)) (gs_one (gs_ret ge_bl)) gs_nil)
  (gs_one (gs_ret (ge_callB (g_all g.calm) T.no_all bt_all (ga_cons (ge_lc (own := own_is_finer_2) g (gi_seq (ge_var (i := 0))) (blkOk_by (by kernel_rfl)) (by decide) (fun s1 H1 C1 cl1 fp1 => (gg_nm g.nd (i := 4))) (fun s1 H1 C1 cl1 fp1 => gts_nil) (fun s1 H1 C1 cl1 fp1 g1 => (ge_callB (g_any g1.calm) T.no_any bt_any (ga_cons (ge_lc (own := own_is_finer_3) g1 (gi_seq (ge_var (i := 1))) (blkOk_by (by kernel_rfl)) (by decide) (fun s2 H2 C2 cl2 fp2 => (gg_nm g1.nd (i := 5))) (fun s2 H2 C2 cl2 fp2 => gts_nil) (fun s2 H2 C2 cl2 fp2 g2 => (ge_callB (g_all g2.calm) T.no_all bt_all (ga_cons (ge_lc (own := own_is_finer_4) g2 (gi_seq (ge_var (i := 4))) (blkOk_by (by kernel_rfl)) (by decide) (fun s3 H3 C3 cl3 fp3 => (gg_nm g2.nd (i := 6))) (fun s3 H3 C3 cl3 fp3 => gts_nil) (fun s3 H3 C3 cl3 fp3 g3 => (ge_cmp (g_in g3.u65) (ge_var (i := 6)) (ge_var (i := 5)) rfl))) ga_nil)))) ga_nil)))) ga_nil))))))
/-! ### _law_bag -/
abbrev n_law_bag : List Str := ["script", "cell"]
theorem sc_law_bag : FnScope n_law_bag ["script"] (defScope s_law_bag) := C8.fnScope_by (by decide +kernel)
theorem b_law_bag (T : Tx K mg u fa fdd fi fdi cs cP) : Binds K (fdd 12) ["script"] [] := T.fn_law_bag.binds fun _ _ _ _ _ _ us hl => match us, hl with | [_], _ => rfl
abbrev own_law_bag_0 : List (Str × Nat) := [("cell", 1)]
abbrev m_law_bag : SS :=
  (retS (newM (consM (lcM (seqM (cutM (varM 0) noneO (someO (cM (.int 61))))) (own_law_bag_0.map (·.2)) (.nm 1) yesM (callM intF (consM (varM 1) nilM))) (consM (cM (.int 0)) (consM (cM (.int 0)) nilM)))))
abbrev f_law_bag : List D → List SO → Res D := runS n_law_bag.length m_law_bag
set_option maxHeartbeats 0 in
theorem ok_law_bag (T : Tx K mg u fa fdd fi fdi cs cP) : FnG P w K mg base 1 (fa 12) (fdd 12) ["script"] (SpS K u 1 f_law_bag) :=
  FnG.state T.fn_law_bag sc_law_bag fun cdv A outer s H E g =>
  (gs_one (gs_ret (ge_new (ga_cons (ge_lc (own := own_law_bag_0) g (gi_seq (ge_cut (ge_var (i := 0)) go_none (go_some ge_int))) (blkOk_by (by kernel_rfl)) (by decide) (fun s1 H1 C1 cl1 fp1 => (gg_nm g.nd (i := 1))) (fun s1 H1 C1 cl1 fp1 => gts_nil) (fun s1 H1 C1 cl1 fp1 g1 => (ge_callTy g_int T.no_int bt_int (ga_cons (ge_var (i := 1)) ga_nil)))) (ga_cons ge_int (ga_cons ge_int ga_nil))))))
/-! ### _law_draw -/
abbrev n_law_draw : List Str := ["bag", "many", "at", "cell", "mixed", "rest"]
theorem sc_law_draw : FnScope n_law_draw ["bag", "many"] (defScope s_law_draw) := C8.fnScope_by (by decide +kernel)
theorem b_law_draw (T : Tx K mg u fa fdd fi fdi cs cP) : Binds K (fdd 13) ["bag", "many"] [] := T.fn_law_draw.binds fun _ _ _ _ _ _ us hl => match us, hl with | [_, _], _ => rfl
abbrev m_law_draw : SS :=
  (seqS (ifS (boolM (op2M gtF (op2M ixF (varM 0) (cM (.int 2))) (cM (.int 0)))) (seqS (setS 5 (callM intF (consM (op2M ixF (varM 0) (cM (.int 2))) nilM)))
  (seqS (subS (varM 0) (cM (.int 2)) (op2M fdivF (varM 5) (varM 1)))
  (retS (op2M modF (callM intF (consM (varM 5) nilM)) (varM 1))))) nilS)
  (seqS (setS 2 (op2M ixF (varM 0) (cM (.int 1))))
  (seqS (subS (varM 0) (cM (.int 1)) (op2M addF (varM 2) (cM (.int 1))))
  (seqS (setS 3 (op2M addF (op2M mulF (cM (.int 71347)) (varM 2)) (cM (.int 5309))))
  (seqS (ifS (boolM (op2M neF (op2M ixF (varM 0) (cM (.int 0))) (lstM nilM))) (setS 3 (op2M ixF (op2M ixF (varM 0) (cM (.int 0))) (op2M modF (callM intF (consM (varM 2) nilM)) (callM lenF (consM (op2M ixF (varM 0) (cM (.int 0))) nilM))))) nilS)
  (seqS (ifS (andT (boolM (op2M ltF (varM 2) (callM lenF (consM (op2M ixF (varM 0) (cM (.int 0))) nilM)))) (boolM (op2M geF (callM absF (consM (varM 3) nilM)) (op2M powF (cM (.int 10)) (cM (.int 18)))))) (seqS (setS 5 (op2M addF (op2M mulF (cM (.int 2)) (op2M subF (callM absF (consM (varM 3) nilM)) (op2M powF (cM (.int 10)) (cM (.int 18))))) (callM intF (consM (op2M ltF (varM 3) (cM (.int 0))) nilM))))
  (seqS (subS (varM 0) (cM (.int 2)) (op2M fdivF (callM intF (consM (varM 5) nilM)) (varM 1)))
  (retS (op2M modF (callM intF (consM (varM 5) nilM)) (varM 1))))) nilS)
  (seqS (setS 4 (op2M modF (callM intF (consM (op2M powF (op2M addF (op2M addF (op2M modF (callM intF (consM (varM 3) nilM)) (cM (.int 2147483549))) (op2M mulF (cM (.int 71347)) (varM 2))) (cM (.int 5309))) (cM (.int 5))) nilM)) (cM (.int 2147483587))))
  (seqS (setS 4 (op2M modF (callM intF (consM (op2M powF (op2M addF (op2M addF (op2M mulF (varM 4) (op2M addF (op2M mulF (cM (.int 2)) (varM 2)) (cM (.int 7013)))) (op2M mulF (op2M mulF (cM (.int 39119)) (varM 2)) (varM 2))) (cM (.int 71347))) (cM (.int 3))) nilM)) (cM (.int 2147483563))))
  (retS (op2M modF (callM intF (consM (op2M fdivF (varM 4) (cM (.int 64))) nilM)) (varM 1)))))))))))
abbrev f_law_draw : List D → List SO → Res D := runS n_law_draw.length m_law_draw
set_option maxHeartbeats 0 in
theorem ok_law_draw (T : Tx K mg u fa fdd fi fdi cs cP) : FnG P w K mg base 1 (fa 13) (fdd 13) ["bag", "many"] (SpS K u 2 f_law_draw) :=
  FnG.state T.fn_law_draw sc_law_draw fun cdv A outer s H E g =>
  (gs_cons (gs_if (gt_cmp g_gt (ge_ix g_ix (ge_var (i := 0)) ge_int (fun _ _ => rfl)) ge_int (nomark _)) (gs_cons (gs_set g.nd (ge_callTy g_int T.no_int bt_int (ga_cons (ge_ix g_ix (ge_var (i := 0)) ge_int (fun _ _ => rfl)) ga_nil)) (i := 5))
  (gs_cons (gs_sub (ge_bin g_fdiv (ge_var (i := 5)) (ge_var (i := 1))) (ge_var (i := 0)) ge_int)
  (gs_one (gs_ret (ge_bin g_mod (ge_callTy g_int T.no_int bt_int (ga_cons (ge_var (i := 5)) ga_nil)) (ge_var (i := 1))))))) gs_nil)
  (gs_cons (gs_set g.nd (ge_ix g_ix (ge_var (i := 0)) ge_int (fun _ _ => rfl)) (i := 2))
  (gs_cons (gs_sub (ge_bin g_add (ge_var (i := 2)) ge_int) (ge_var (i := 0)) ge_int)
  (gs_cons (gs_set g.nd (ge_bin g_add (ge_bin g_mul ge_int (ge_var (i := 2))) ge_int) (i := 3))
  (gs_cons (gs_if (gt_cmp (g_ne g.u64) (ge_ix g_ix (ge_var (i := 0)) ge_int (fun _ _ => rfl)) (ge_lst ga_nil) (nomark _)) (gs_one (gs_set g.nd (ge_ix g_ix (ge_ix g_ix (ge_var (i := 0)) ge_int (fun _ _ => rfl)) (ge_bin g_mod (ge_callTy g_int T.no_int bt_int (ga_cons (ge_var (i := 2)) ga_nil)) (ge_callB g_len T.no_len bt_len (ga_cons (ge_ix g_ix (ge_var (i := 0)) ge_int (fun _ _ => rfl)) ga_nil))) (fun _ _ => rfl)) (i := 3))) gs_nil)
  (gs_cons (gs_if (gw_and (gt_cmp g_lt (ge_var (i := 2)) (ge_callB g_len T.no_len bt_len (ga_cons (ge_ix g_ix (ge_var (i := 0)) ge_int (fun _ _ => rfl)) ga_nil)) (nomark _)) (gw_and1 (gt_cmp g_ge (ge_callB g_abs T.no_abs bt_abs (ga_cons (ge_var (i := 3)) ga_nil)) (ge_bin g_pow ge_int ge_int) (nomark _)))).pt (gs_cons (gs_set g.nd (ge_bin g_add (ge_bin g_mul ge_int (ge_bin g_sub (ge_callB g_abs T.no_abs bt_abs (ga_cons (ge_var (i := 3)) ga_nil)) (ge_bin g_pow ge_int ge_int))) (ge_callTy g_int T.no_int bt_int (ga_cons (ge_cmp g_lt (ge_var (i := 3)) ge_int (nomark _)) ga_nil))) (i := 5))
  (gs_cons (gs_sub (ge_bin g_fdiv (ge_callTy g_int T.no_int bt_int (ga_cons (ge_var (i := 5)) ga_nil)) (ge_var (i := 1))) (ge_var (i := 0)) ge_int)
  (gs_one (gs_ret (ge_bin g_mod (ge_callTy g_int T.no_int bt_int (ga_cons (ge_var (i := 5)) ga_nil)) (ge_var (i := 1))))))) gs_nil)
  (gs_cons (gs_set g.nd (ge_bin g_mod (ge_callTy g_int T.no_int bt_int (ga_cons (ge_bin g_pow (ge_bin g_add (ge_bin g_add (ge_bin g_mod (ge_callTy g_int T.no_int bt_int (ga_cons (ge_var (i := 3)) ga_nil)) ge_int) (ge_bin g_mul ge_int (ge_var (i := 2)))) ge_int) ge_int) ga_nil)) ge_int) (i := 4))
  (gs_cons (gs_set g.nd (ge_bin g_mod (ge_callTy g_int T.no_int bt_int (ga_cons (ge_bin g_pow (ge_bin g_add (ge_bin g_add (ge_bin g_mul (ge_var (i := 4)) (ge_bin g_add (ge_bin g_mul ge_int (ge_var (i := 2))) ge_int)) (ge_bin g_mul (ge_bin g_mul ge_int (ge_var (i := 2))) (ge_var (i := 2)))) ge_int) ge_int) ga_nil)) ge_int) (i := 4))
  (gs_one (gs_ret (ge_bin g_mod (ge_callTy g_int T.no_int bt_int (ga_cons (ge_bin g_fdiv (ge_var (i := 4)) ge_int) ga_nil)) (ge_var (i := 1)))))))))))))
/-! ### _law_pick -/
abbrev n_law_pick : List Str := ["bag", "some"]
theorem sc_law_pick : FnScope n_law_pick ["bag", "some"] (defScope s_law_pick) := C8.fnScope_by (by decide +kernel)
theorem b_law_pick (T : Tx K mg u fa fdd fi fdi cs cP) : Binds K (fdd 14) ["bag", "some"] [] := T.fn_law_pick.binds fun _ _ _ _ _ _ us hl => match us, hl with | [_, _], _ => rfl
abbrev m_law_pick : SS :=
  (retS (op2M ixF (varM 1) (callSM f_law_draw (argN 2 (consM (varM 0) (consM (callM lenF (consM (varM 1) nilM)) nilM))))))
abbrev f_law_pick : List D → List SO → Res D := runS n_law_pick.length m_law_pick
set_option maxHeartbeats 0 in
theorem ok_law_pick (T : Tx K mg u fa fdd fi fdi cs cP) : FnG P w K mg base 2 (fa 14) (fdd 14) ["bag", "some"] (SpS K u 2 f_law_pick) :=
  FnG.state T.fn_law_pick sc_law_pick fun cdv A outer s H E g =>
  (gs_one (gs_ret (ge_ix g_ix (ge_var (i := 1)) (ge_callS (ok_law_draw T) g (by decide) T.mg_law_draw T.fn_law_draw.kp (b_law_draw T) (ga_cons (ge_var (i := 0)) (ga_cons (ge_callB g_len T.no_len bt_len (ga_cons (ge_var (i := 1)) ga_nil)) ga_nil))) (fun _ _ => rfl))))
/-! ### _law_splits -/
abbrev n_law_splits : List Str := ["many", "found", "at", "later", "labels", "label"]
theorem sc_law_splits : FnScope n_law_splits ["many"] (defScope s_law_splits) := C8.fnScope_by (by decide +kernel)
theorem b_law_splits (T : Tx K mg u fa fdd fi fdi cs cP) : Binds K (fdd 15) ["many"] [] := T.fn_law_splits.binds fun _ _ _ _ _ _ us hl => match us, hl with | [_], _ => rfl
abbrev own_law_splits_0 : List (Str × Nat) := [("label", 5)]
abbrev m_law_splits : SS :=
  (seqS (setS 1 (lstM (consM (lstM nilM) nilM)))
  (seqS (forS (.nm 2) (rangeM1 (consM (varM 0) nilM)) (seqS (setS 3 (newM nilM))
  (seqS (forS (.nm 4) (seqM (varM 1)) (dropS (extM (varM 3) (consM (lcM (rangeM1 (consM (op2M addF (callM maxF (consM (op2M addF (lstM (consM (op1M negF (cM (.int 1))) nilM)) (varM 4)) nilM)) (cM (.int 2))) nilM)) (own_law_splits_0.map (·.2)) (.nm 5) yesM (op2M addF (varM 4) (lstM (consM (varM 5) nilM)))) nilM))))
  (setS 1 (frzM (varM 3))))))
  (retS (varM 1))))
abbrev f_law_splits : List D → PR := runP n_law_splits.length m_law_splits
set_option maxHeartbeats 0 in
theorem ok_law_splits (T : Tx K mg u fa fdd fi fdi cs cP) : FnG P w K mg base 1 (fa 15) (fdd 15) ["many"] (SpP K u 1 f_law_splits) :=
  FnG.pure T.fn_law_splits sc_law_splits fun cdv A outer s H E g =>
  (gs_cons (gs_set g.nd (ge_lst (ga_cons (ge_lst ga_nil) ga_nil)) (i := 1))
  (gs_cons (gs_for g (gi_range1 T.no_range (ga_cons (ge_var (i := 0)) ga_nil)) (gg_nm g.nd (i := 2)) (gs_cons (gs_set g.nd (ge_new ga_nil) (i := 3))
  (gs_cons (gs_for g (gi_seq (ge_var (i := 1))) (gg_nm g.nd (i := 4)) (gs_one (gs_expr (ge_ext (ge_var (i := 3)) (ga_cons (ge_lc (own := own_law_splits_0) g (gi_range1 T.no_range (ga_cons (ge_bin g_add (ge_callB (g_max g.calm) T.no_max bt_max (ga_cons (ge_bin g_add (ge_lst (ga_cons (ge_un g_neg ge_int) ga_nil)) (ge_var (i := 4))) ga_nil)) ge_int) ga_nil)) (blkOk_by (by kernel_rfl)) (by decide) (fun s1 H1 C1 cl1 fp1 => (gg_nm g.nd (i := 5))) (fun s1 H1 C1 cl1 fp1 => gts_nil) (fun s1 H1 C1 cl1 fp1 g1 => (ge_bin g_add (ge_var (i := 4)) (ge_lst (ga_cons (ge_var (i := 5)) ga_nil))))) ga_nil)))))
  (gs_one (gs_set g.nd (ge_frz (ge_var (i := 3))) (i := 1))))))
  (gs_one (gs_ret (ge_var (i := 1))))))
/-! ### _law_grouping -/
abbrev n_law_grouping : List Str := ["labels", "names", "groups", "label", "name"]
theorem sc_law_grouping : FnScope n_law_grouping ["labels", "names"] (defScope s_law_grouping) := C8.fnScope_by (by decide +kernel)
theorem b_law_grouping (T : Tx K mg u fa fdd fi fdi cs cP) : Binds K (fdd 16) ["labels", "names"] [] := T.fn_law_grouping.binds fun _ _ _ _ _ _ us hl => match us, hl with | [_, _], _ => rfl
abbrev own_law_grouping_0 : List (Str × Nat) := [("label", 3)]
abbrev m_law_grouping : SS :=
  (seqS (setS 2 newDM)
  (seqS (forS (.tp [3, 4]) (zipM (consM (varM 0) (consM (varM 1) nilM))) (dputS (varM 2) (varM 3) (op2M addF (dget2M (varM 2) (varM 3) (lstM nilM)) (lstM (consM (varM 4) nilM)))))
  (sfrS 2 (retS (callM tupleF (consM (callM sortF (consM (lcM (seqM (callM sortKF (consM (varM 2) nilM))) (own_law_grouping_0.map (·.2)) (.nm 3) yesM (callM tupleF (consM (callM sortF (consM (op2M dixF (varM 2) (varM 3)) nilM)) nilM))) nilM)) nilM))))))
abbrev f_law_grouping : List D → PR := runP n_law_grouping.length m_law_grouping
set_option maxHeartbeats 0 in
theorem ok_law_grouping (T : Tx K mg u fa fdd fi fdi cs cP) : FnG P w K mg base 1 (fa 16) (fdd 16) ["labels", "names"] (SpP K u 2 f_law_grouping) :=
  FnG.pure T.fn_law_grouping sc_law_grouping fun cdv A outer s H E g =>
  (gs_cons (gs_set g.nd ge_newD (i := 2))
  (gs_cons (gs_for g (gi_zip T.no_zip (ga_cons (ge_var (i := 0)) (ga_cons (ge_var (i := 1)) ga_nil))) (gg_tup g.calm (gg_cons g.nd (gg_cons g.nd gg_nil (i := 4)) (i := 3))) (gs_one (gs_dput g.u1 (ge_bin g_add (ge_dget2 g.u1 (ge_var (i := 2)) (ge_var (i := 3)) (ge_lst ga_nil) ⟨rfl, rfl, rfl, rfl⟩) (ge_lst (ga_cons (ge_var (i := 4)) ga_nil))) (ge_var (i := 2)) (ge_var (i := 3)))))
  (gs_one (gs_sfr (gs_ret (ge_callTy g_tuple T.no_tuple bt_tuple (ga_cons (ge_callB (g_sorted g.u) T.no_sorted bt_sorted (ga_cons (ge_lc (own := own_law_grouping_0) g (gi_seq (ge_callB (g_sortedK g.calm) T.no_sorted bt_sorted (ga_cons (ge_var (i := 2)) ga_nil))) (blkOk_by (by kernel_rfl)) (by decide) (fun s1 H1 C1 cl1 fp1 => (gg_nm g.nd (i := 3))) (fun s1 H1 C1 cl1 fp1 => gts_nil) (fun s1 H1 C1 cl1 fp1 g1 => (ge_callTy g_tuple T.no_tuple bt_tuple (ga_cons (ge_callB (g_sorted g1.u) T.no_sorted bt_sorted (ga_cons (ge_dix g1.u1 (ge_var (i := 2)) (ge_var (i := 3)) (fun _ _ => rfl)) ga_nil)) ga_nil)))) ga_nil)) ga_nil)))))))
/-! ### _law_states -/
abbrev n_law_states : List Str := ["size", "labels"]
theorem sc_law_states : FnScope n_law_states ["size"] (defScope s_law_states) := C8.fnScope_by (by decide +kernel)
theorem b_law_states (T : Tx K mg u fa fdd fi fdi cs cP) : Binds K (fdd 17) ["size"] [] := T.fn_law_states.binds fun _ _ _ _ _ _ us hl => match us, hl with | [_], _ => rfl
abbrev own_law_states_0 : List (Str × Nat) := [("labels", 1)]
abbrev m_law_states : SS :=
  (retS (callM sortF (consM (lcM (seqM (callPM f_law_splits (argN 1 (consM (varM 0) nilM)))) (own_law_states_0.map (·.2)) (.nm 1) yesM (callPM f_law_grouping (argN 2 (consM (varM 1) (consM (listRgM (rg1M (varM 0))) nilM))))) nilM)))
abbrev f_law_states : List D → PR := runP n_law_states.length m_law_states
set_option maxHeartbeats 0 in
theorem ok_law_states (T : Tx K mg u fa fdd fi fdi cs cP) : FnG P w K mg base 2 (fa 17) (fdd 17) ["size"] (SpP K u 1 f_law_states) :=
  FnG.pure T.fn_law_states sc_law_states fun cdv A outer s H E g =>
  (gs_one (gs_ret (ge_callB (g_sorted g.u) T.no_sorted bt_sorted (ga_cons (ge_lc (own := own_law_states_0) g (gi_seq (ge_callP (ok_law_splits T) g (by decide) T.mg_law_splits T.fn_law_splits.kp (b_law_splits T) (ga_cons (ge_var (i := 0)) ga_nil))) (blkOk_by (by kernel_rfl)) (by decide) (fun s1 H1 C1 cl1 fp1 => (gg_nm g.nd (i := 1))) (fun s1 H1 C1 cl1 fp1 => gts_nil) (fun s1 H1 C1 cl1 fp1 g1 => (ge_callP (ok_law_grouping T) g1 (by decide) T.mg_law_grouping T.fn_law_grouping.kp (b_law_grouping T) (ga_cons (ge_var (i := 1)) (ga_cons (ge_listRg g1.calm T.no_list T.no_range (ge_var (i := 0))) ga_nil))))) ga_nil))))
/-! ### _law_heard -/
abbrev n_law_heard : List Str := ["ask", "error", "caught", "told"]
theorem sc_law_heard : FnScope n_law_heard ["ask"] (defScope s_law_heard) := C8.fnScope_by (by decide +kernel)
theorem b_law_heard (T : Tx K mg u fa fdd fi fdi cs cP) : Binds K (fdd 18) ["ask"] [] := T.fn_law_heard.binds fun _ _ _ _ _ _ us hl => match us, hl with | [_], _ => rfl
abbrev m_law_heard_rest : SS :=
  (seqS (ifS (boolM (op2M isF (varM 2) (cM .non))) (retS (cM .non)) nilS)
  (seqS (ifS (truM (callM (isxF okX okY subX) (consM (varM 2) (consM (cM (.cls 3)) nilM)))) (dropS (appM (varM 3) (consM (tupM (consM (cM (.str "unit")) (consM (op1M (xfF okX "part") (varM 2)) nilM))) nilM))) nilS)
  (seqS (ifS (truM (callM (isxF okX okY subX) (consM (varM 2) (consM (cM (.cls 5)) nilM)))) (dropS (appM (varM 3) (consM (tupM (consM (cM (.str "number")) (consM (op1M (xfF okX "part") (varM 2)) nilM))) nilM))) nilS)
  (seqS (ifS (truM (callM (isxF okX okY subX) (consM (varM 2) (consM (cM (.cls 4)) nilM)))) (dropS (appM (varM 3) (consM (tupM (consM (cM (.str "border")) (consM (op1M (xfF okX "part") (varM 2)) nilM))) nilM))) nilS)
  (seqS (ifS (truM (callM (isxF okX okY subX) (consM (varM 2) (consM (cM (.cls 2)) nilM)))) (dropS (appM (varM 3) (consM (tupM (consM (cM (.str "groups")) (consM (op1M (xfF okX "value") (varM 2)) nilM))) nilM))) nilS)
  (seqS (ifS (truM (callM (isxF okX okY subX) (consM (varM 2) (consM (cM (.cls 1)) nilM)))) (dropS (appM (varM 3) (consM (tupM (consM (cM (.str "piece")) (consM (op1M (xfF okX "value") (varM 2)) nilM))) nilM))) nilS)
  (seqS (ifS (truM (callM (isxF okX okY subX) (consM (varM 2) (consM (cM (.cls 6)) nilM)))) (dropS (appM (varM 3) (consM (tupM (consM (cM (.str "many")) (consM (op1M (xfF okX "what") (varM 2)) (consM (op1M (xfF okX "most") (varM 2)) nilM)))) nilM))) nilS)
  (retS (ifM (boolM (op2M eqF (callM lenF (consM (varM 3) nilM)) (cM (.int 1)))) (op2M ixF (varM 3) (cM (.int 0))) (tupM (consM (cM (.str "other")) nilM)))))))))))
theorem heard_body (T : Tx K mg u fa fdd fi fdi cs cP) {X : Cx} (hP : X.prog = P) (hK : X.K = K) (hmg : X.mg = mg) {j : Nat} (cdv : Value) (s : Shared) (H : Hp) (tact : WX → TE) (gg : Go (askCx X n_law_heard "_law_heard" (defScope s_law_heard) (fa 18) cdv s H).nox u W0 j)
    (act : ∀ (W : WX) (pn : List (Addr × Obj)) (xe : Value → Shared → Prop) (p1 p2 : Pos), Takes ((askCx X n_law_heard "_law_heard" (defScope s_law_heard) (fa 18) cdv s H).nox.tr pn xe) W → PE ((askCx X n_law_heard "_law_heard" (defScope s_law_heard) (fa 18) cdv s H).nox.tr pn xe) (.Call (.Name "ask" p1) [] [] p2) (tact W)) :
    PSs (askCx X n_law_heard "_law_heard" (defScope s_law_heard) (fa 18) cdv s H).nox (defBody s_law_heard) (tSeq (tPar 2 3 (tCons (tC .non) (tCons (tLst tNil) tNil))) (tSeq (fun D σ H => tDrop (tact (wKeep X.K (.ref (u.ct 0)) 1 2 W0 D)) D σ H) (tmS X.K u W0 m_law_heard_rest))) := by
  subst hP hK hmg
  exact pss_cons (ps_par rfl gg.nd rfl rfl (by decide) rfl rfl (pa_cons pe_non (pa_cons (pe_lst pa_nil) pa_nil)) rfl) (pss_cons (ps_try_keep (x := "GiveError") (c := .ref (u.ct 0)) rfl rfl rfl gg.nd (by decide) rfl rfl rfl rfl ⟨by rfl, by decide, .inl T.mc_GiveError⟩ LamX.takes0 (by decide) (by decide) rfl (fun W pn xe tk _ => pss_one (ps_expr (act W pn xe _ _ tk))))
  (gs_cons (gs_if (gt_cmp g_is (ge_var (i := 2)) ge_non (nomark _)) (gs_one (gs_ret ge_non)) gs_nil)
  (gs_cons (gs_if (gt_tru (ge_callB (g_isx T.xc T.kt) T.no_isinstance bt_isinstance (ga_cons (ge_var (i := 2)) (ga_cons (ge_gcls T.mc_BadUnit) ga_nil)))) (gs_one (gs_expr (ge_app (ge_var (i := 3)) (ga_cons (ge_tup (ga_cons ge_str (ga_cons (ge_xf T.xf_part (ge_var (i := 2))) ga_nil))) ga_nil)))) gs_nil)
  (gs_cons (gs_if (gt_tru (ge_callB (g_isx T.xc T.kt) T.no_isinstance bt_isinstance (ga_cons (ge_var (i := 2)) (ga_cons (ge_gcls T.mc_BadNumber) ga_nil)))) (gs_one (gs_expr (ge_app (ge_var (i := 3)) (ga_cons (ge_tup (ga_cons ge_str (ga_cons (ge_xf T.xf_part (ge_var (i := 2))) ga_nil))) ga_nil)))) gs_nil)
  (gs_cons (gs_if (gt_tru (ge_callB (g_isx T.xc T.kt) T.no_isinstance bt_isinstance (ga_cons (ge_var (i := 2)) (ga_cons (ge_gcls T.mc_BadBorder) ga_nil)))) (gs_one (gs_expr (ge_app (ge_var (i := 3)) (ga_cons (ge_tup (ga_cons ge_str (ga_cons (ge_xf T.xf_part (ge_var (i := 2))) ga_nil))) ga_nil)))) gs_nil)
  (gs_cons (gs_if (gt_tru (ge_callB (g_isx T.xc T.kt) T.no_isinstance bt_isinstance (ga_cons (ge_var (i := 2)) (ga_cons (ge_gcls T.mc_BadGroups) ga_nil)))) (gs_one (gs_expr (ge_app (ge_var (i := 3)) (ga_cons (ge_tup (ga_cons ge_str (ga_cons (ge_xf T.xf_value (ge_var (i := 2))) ga_nil))) ga_nil)))) gs_nil)
  (gs_cons (gs_if (gt_tru (ge_callB (g_isx T.xc T.kt) T.no_isinstance bt_isinstance (ga_cons (ge_var (i := 2)) (ga_cons (ge_gcls T.mc_NoPiece) ga_nil)))) (gs_one (gs_expr (ge_app (ge_var (i := 3)) (ga_cons (ge_tup (ga_cons ge_str (ga_cons (ge_xf T.xf_value (ge_var (i := 2))) ga_nil))) ga_nil)))) gs_nil)
  (gs_cons (gs_if (gt_tru (ge_callB (g_isx T.xc T.kt) T.no_isinstance bt_isinstance (ga_cons (ge_var (i := 2)) (ga_cons (ge_gcls T.mc_TooMany) ga_nil)))) (gs_one (gs_expr (ge_app (ge_var (i := 3)) (ga_cons (ge_tup (ga_cons ge_str (ga_cons (ge_xf T.xf_what (ge_var (i := 2))) (ga_cons (ge_xf T.xf_most (ge_var (i := 2))) ga_nil)))) ga_nil)))) gs_nil)
  (gs_one (gs_ret (ge_if (gt_cmp (g_eq gg.u64) (ge_callB g_len T.no_len bt_len (ga_cons (ge_var (i := 3)) ga_nil)) ge_int (nomark _)) (ge_ix g_ix (ge_var (i := 3)) ge_int (fun _ _ => rfl)) (ge_tup (ga_cons ge_str ga_nil)))))))))))))
/-! ### _law_any_groups -/
abbrev n_law_any_groups : List Str := ["bag", "many", "groups", "way", "at", "group", "place"]
theorem sc_law_any_groups : FnScope n_law_any_groups ["bag", "many"] (defScope s_law_any_groups) := C8.fnScope_by (by decide +kernel)
theorem b_law_any_groups (T : Tx K mg u fa fdd fi fdi cs cP) : Binds K (fdd 19) ["bag", "many"] [] := T.fn_law_any_groups.binds fun _ _ _ _ _ _ us hl => match us, hl with | [_, _], _ => rfl
abbrev own_law_any_groups_0 : List (Str × Nat) := [("group", 5)]
abbrev own_law_any_groups_1 : List (Str × Nat) := [("place", 6)]
abbrev own_law_any_groups_2 : List (Str × Nat) := [("group", 5)]
abbrev own_law_any_groups_3 : List (Str × Nat) := [("group", 5)]
abbrev m_law_any_groups : SS :=
  (seqS (setS 2 (lcNM (seqM (callSM f_law_pick (argN 2 (consM (varM 0) (consM (callPM f_law_states (argN 1 (consM (varM 1) nilM))) nilM))))) (own_law_any_groups_0.map (·.2)) (.nm 5) yesM (callM listF (consM (varM 5) nilM))))
  (seqS (parS 3 4 (consM (callSM f_law_draw (argN 2 (consM (varM 0) (consM (cM (.int 10)) nilM)))) (consM (callSM f_law_draw (argN 2 (consM (varM 0) (consM (callM lenF (consM (varM 2) nilM)) nilM)))) nilM)))
  (seqS (ifS (boolM (op2M eqF (varM 3) (cM (.int 0)))) (setS 2 (op1M revF (varM 2))) nilS)
  (seqS (ifS (boolM (op2M eqF (varM 3) (cM (.int 1)))) (subS (varM 2) (varM 4) (op1M revF (op2M ixF (varM 2) (varM 4)))) nilS)
  (seqS (ifS (boolM (op2M eqF (varM 3) (cM (.int 2)))) (subS (varM 2) (varM 4) (op2M addF (op2M ixF (varM 2) (varM 4)) (lstM (consM (callSM f_law_pick (argN 2 (consM (varM 0) (consM (lstM (consM (cM (.int 0)) (consM (varM 1) (consM (op1M negF (cM (.int 1))) (consM (cM (.bl true)) (consM (cM .non) (consM (cM (.str "0")) nilM))))))) nilM)))) nilM)))) nilS)
  (seqS (ifS (boolM (op2M eqF (varM 3) (cM (.int 3)))) (subS (varM 2) (varM 4) (cutM (op2M ixF (varM 2) (varM 4)) (someO (cM (.int 1))) noneO)) nilS)
  (seqS (ifS (boolM (op2M eqF (varM 3) (cM (.int 4)))) (subS (varM 2) (varM 4) (lcM (seqM (op2M ixF (varM 2) (varM 4))) (own_law_any_groups_1.map (·.2)) (.nm 6) yesM (ifM (boolM (op2M ltF (varM 6) (cM (.int 2)))) (callM boolF (consM (varM 6) nilM)) (varM 6)))) nilS)
  (seqS (ifS (boolM (op2M eqF (varM 3) (cM (.int 5)))) (sfrS 2 (retS (callSM f_law_pick (argN 2 (consM (varM 0) (consM (lstM (consM (varM 2) (consM (callM tupleF (consM (varM 2) nilM)) (consM (lcM (seqM (varM 2)) (own_law_any_groups_2.map (·.2)) (.nm 5) yesM (callM tupleF (consM (varM 5) nilM))) (consM (cM .non) (consM (varM 1) (consM (cM (.str "01")) (consM (tupM nilM) (consM (tupM (consM (tupM nilM) nilM)) (consM dicM (consM (tupM (consM (cM (.int 0)) nilM)) nilM))))))))))) nilM)))))) nilS)
  (seqS (ifS (boolM (op2M eqF (varM 3) (cM (.int 6)))) (setS 2 (op2M addF (varM 2) (cutM (varM 2) noneO (someO (cM (.int 1)))))) nilS)
  (sfrS 2 (retS (callM tupleF (consM (lcM (seqM (varM 2)) (own_law_any_groups_3.map (·.2)) (.nm 5) yesM (callM tupleF (consM (varM 5) nilM))) nilM)))))))))))))
abbrev f_law_any_groups : List D → List SO → Res D := runS n_law_any_groups.length m_law_any_groups
set_option maxHeartbeats 0 in
theorem ok_law_any_groups (T : Tx K mg u fa fdd fi fdi cs cP) : FnG P w K mg base 3 (fa 19) (fdd 19) ["bag", "many"] (SpS K u 2 f_law_any_groups) :=
  FnG.state T.fn_law_any_groups sc_law_any_groups fun cdv A outer s H E g =>
  (gs_cons (gs_setLcN (own := own_law_any_groups_0) g rfl (gi_seq (ge_callS (ok_law_pick T) g (by decide) T.mg_law_pick T.fn_law_pick.kp (b_law_pick T) (ga_cons (ge_var (i := 0)) (ga_cons (ge_callP (ok_law_states T) g (by decide) T.mg_law_states T.fn_law_states.kp (b_law_states T) (ga_cons (ge_var (i := 1)) ga_nil)) ga_nil)))) (blkOk_by (by kernel_rfl)) (by decide) (fun s1 H1 C1 cl1 fp1 => (gg_nm g.nd (i := 5))) (fun s1 H1 C1 cl1 fp1 => gts_nil) (fun s1 H1 C1 cl1 fp1 g1 => (ge_callTy g_list T.no_list bt_list (ga_cons (ge_var (i := 5)) ga_nil))) (i := 2))
  (gs_cons (gs_par g.calm g.nd (ga_cons (ge_callS (ok_law_draw T) g (by decide) T.mg_law_draw T.fn_law_draw.kp (b_law_draw T) (ga_cons (ge_var (i := 0)) (ga_cons ge_int ga_nil))) (ga_cons (ge_callS (ok_law_draw T) g (by decide) T.mg_law_draw T.fn_law_draw.kp (b_law_draw T) (ga_cons (ge_var (i := 0)) (ga_cons (ge_callB g_len T.no_len bt_len (ga_cons (ge_var (i := 2)) ga_nil)) ga_nil))) ga_nil)) (i := 3) (j := 4))
  (gs_cons (gs_if (gt_cmp (g_eq g.u64) (ge_var (i := 3)) ge_int (nomark _)) (gs_one (gs_set g.nd (ge_rev (ge_var (i := 2))) (i := 2))) gs_nil)
  (gs_cons (gs_if (gt_cmp (g_eq g.u64) (ge_var (i := 3)) ge_int (nomark _)) (gs_one (gs_sub (ge_rev (ge_ix g_ix (ge_var (i := 2)) (ge_var (i := 4)) (fun _ _ => rfl))) (ge_var (i := 2)) (ge_var (i := 4)))) gs_nil)
  (gs_cons (gs_if (gt_cmp (g_eq g.u64) (ge_var (i := 3)) ge_int (nomark _)) (gs_one (gs_sub (ge_bin g_add (ge_ix g_ix (ge_var (i := 2)) (ge_var (i := 4)) (fun _ _ => rfl)) (ge_lst (ga_cons (ge_callS (ok_law_pick T) g (by decide) T.mg_law_pick T.fn_law_pick.kp (b_law_pick T) (ga_cons (ge_var (i := 0)) (ga_cons (ge_lst (ga_cons ge_int (ga_cons (ge_var (i := 1)) (ga_cons (ge_un g_neg ge_int) (ga_cons ge_bl (ga_cons ge_non (ga_cons ge_str ga_nil))))))) ga_nil))) ga_nil))) (ge_var (i := 2)) (ge_var (i := 4)))) gs_nil)
  (gs_cons (gs_if (gt_cmp (g_eq g.u64) (ge_var (i := 3)) ge_int (nomark _)) (gs_one (gs_sub (ge_cut (ge_ix g_ix (ge_var (i := 2)) (ge_var (i := 4)) (fun _ _ => rfl)) (go_some ge_int) go_none) (ge_var (i := 2)) (ge_var (i := 4)))) gs_nil)
  (gs_cons (gs_if (gt_cmp (g_eq g.u64) (ge_var (i := 3)) ge_int (nomark _)) (gs_one (gs_sub (ge_lc (own := own_law_any_groups_1) g (gi_seq (ge_ix g_ix (ge_var (i := 2)) (ge_var (i := 4)) (fun _ _ => rfl))) (blkOk_by (by kernel_rfl)) (by decide) (fun s1 H1 C1 cl1 fp1 => (gg_nm g.nd (i := 6))) (fun s1 H1 C1 cl1 fp1 => gts_nil) (fun s1 H1 C1 cl1 fp1 g1 => (ge_if (gt_cmp g_lt (ge_var (i := 6)) ge_int (nomark _)) (ge_callTy g_boolT T.no_bool bt_bool (ga_cons (ge_var (i := 6)) ga_nil)) (ge_var (i := 6))))) (ge_var (i := 2)) (ge_var (i := 4)))) gs_nil)
  (gs_cons (gs_if (gt_cmp (g_eq g.u64) (ge_var (i := 3)) ge_int (nomark _)) (gs_one (gs_sfr (gs_ret (ge_callS (ok_law_pick T) g (by decide) T.mg_law_pick T.fn_law_pick.kp (b_law_pick T) (ga_cons (ge_var (i := 0)) (ga_cons (ge_lst (ga_cons (ge_var (i := 2)) (ga_cons (ge_callTy g_tuple T.no_tuple bt_tuple (ga_cons (ge_var (i := 2)) ga_nil)) (ga_cons (ge_lc (own := own_law_any_groups_2) g (gi_seq (ge_var (i := 2))) (blkOk_by (by kernel_rfl)) (by decide) (fun s1 H1 C1 cl1 fp1 => (gg_nm g.nd (i := 5))) (fun s1 H1 C1 cl1 fp1 => gts_nil) (fun s1 H1 C1 cl1 fp1 g1 => (ge_callTy g_tuple T.no_tuple bt_tuple (ga_cons (ge_var (i := 5)) ga_nil)))) (ga_cons ge_non (ga_cons (ge_var (i := 1)) (ga_cons ge_str (ga_cons (ge_tup ga_nil) (ga_cons (ge_tup (ga_cons (ge_tup ga_nil) ga_nil)) (ga_cons ge_dic (ga_cons (ge_tup (ga_cons ge_int ga_nil)) ga_nil))))))))))) ga_nil)))))) gs_nil)
  (gs_cons (gs_if (gt_cmp (g_eq g.u64) (ge_var (i := 3)) ge_int (nomark _)) (gs_one (gs_set g.nd (ge_bin g_add (ge_var (i := 2)) (ge_cut (ge_var (i := 2)) go_none (go_some ge_int))) (i := 2))) gs_nil)
  (gs_one (gs_sfr (gs_ret (ge_callTy g_tuple T.no_tuple bt_tuple (ga_cons (ge_lc (own := own_law_any_groups_3) g (gi_seq (ge_var (i := 2))) (blkOk_by (by kernel_rfl)) (by decide) (fun s1 H1 C1 cl1 fp1 => (gg_nm g.nd (i := 5))) (fun s1 H1 C1 cl1 fp1 => gts_nil) (fun s1 H1 C1 cl1 fp1 g1 => (ge_callTy g_tuple T.no_tuple bt_tuple (ga_cons (ge_var (i := 5)) ga_nil)))) ga_nil))))))))))))))
/-! ### _law_is_grouping -/
abbrev n_law_is_grouping : List Str := ["many", "value", "groups"]
theorem sc_law_is_grouping : FnScope n_law_is_grouping ["many", "value"] (defScope s_law_is_grouping) := C8.fnScope_by (by decide +kernel)
theorem b_law_is_grouping (T : Tx K mg u fa fdd fi fdi cs cP) : Binds K (fdd 20) ["many", "value"] [] := T.fn_law_is_grouping.binds fun _ _ _ _ _ _ us hl => match us, hl with | [_, _], _ => rfl
abbrev own_law_is_grouping_0 : List (Str × Nat) := [("groups", 2)]
abbrev m_law_is_grouping : SS :=
  (retS (op2M inF (callM reprF (consM (varM 1) nilM)) (lcM (seqM (callPM f_law_states (argN 1 (consM (varM 0) nilM)))) (own_law_is_grouping_0.map (·.2)) (.nm 2) yesM (callM reprF (consM (varM 2) nilM)))))
abbrev f_law_is_grouping : List D → PR := runP n_law_is_grouping.length m_law_is_grouping
set_option maxHeartbeats 0 in
theorem ok_law_is_grouping (T : Tx K mg u fa fdd fi fdi cs cP) : FnG P w K mg base 3 (fa 20) (fdd 20) ["many", "value"] (SpP K u 2 f_law_is_grouping) :=
  FnG.pure T.fn_law_is_grouping sc_law_is_grouping fun cdv A outer s H E g =>
  (gs_one (gs_ret (ge_cmp (g_in g.u65) (ge_callB (g_repr g.guards g.u) T.no_repr bt_repr (ga_cons (ge_var (i := 1)) ga_nil)) (ge_lc (own := own_law_is_grouping_0) g (gi_seq (ge_callP (ok_law_states T) g (by decide) T.mg_law_states T.fn_law_states.kp (b_law_states T) (ga_cons (ge_var (i := 0)) ga_nil))) (blkOk_by (by kernel_rfl)) (by decide) (fun s1 H1 C1 cl1 fp1 => (gg_nm g.nd (i := 2))) (fun s1 H1 C1 cl1 fp1 => gts_nil) (fun s1 H1 C1 cl1 fp1 g1 => (ge_callB (g_repr g1.guards g1.u) T.no_repr bt_repr (ga_cons (ge_var (i := 2)) ga_nil)))) rfl)))
/-! ### _law_is_finer -/
abbrev n_law_is_finer : List Str := ["one", "other", "group", "place", "its"]
theorem sc_law_is_finer : FnScope n_law_is_finer ["one", "other"] (defScope s_law_is_finer) := C8.fnScope_by (by decide +kernel)
theorem b_law_is_finer (T : Tx K mg u fa fdd fi fdi cs cP) : Binds K (fdd 21) ["one", "other"] [] := T.fn_law_is_finer.binds fun _ _ _ _ _ _ us hl => match us, hl with | [_, _], _ => rfl
abbrev own_law_is_finer_0 : List (Str × Nat) := [("group", 2)]
abbrev own_law_is_finer_1 : List (Str × Nat) := [("group", 2)]
abbrev own_law_is_finer_2 : List (Str × Nat) := [("its", 4)]
abbrev m_law_is_finer : SS :=
  (seqS (ifS (boolM (op2M neF (callM sumF (consM (lcM (seqM (varM 0)) (own_law_is_finer_0.map (·.2)) (.nm 2) yesM (callM lenF (consM (varM 2) nilM))) nilM)) (callM sumF (consM (lcM (seqM (varM 1)) (own_law_is_finer_1.map (·.2)) (.nm 2) yesM (callM lenF (consM (varM 2) nilM))) nilM)))) (retS (cM (.bl false))) nilS)
  (seqS (forS (.nm 2) (seqM (varM 0)) (forS (.nm 3) (seqM (varM 2)) (ifS (boolM (op2M eqF (lcM (seqM (varM 1)) (own_law_is_finer_2.map (·.2)) (.nm 4) (andT (boolM (op2M inF (varM 3) (varM 4))) (boolM (op2M inF (op2M ixF (varM 2) (cM (.int 0))) (varM 4)))) (varM 4)) (lstM nilM))) (retS (cM (.bl false))) nilS)))
  (retS (cM (.bl true)))))
abbrev f_law_is_finer : List D → PR := runP n_law_is_finer.length m_law_is_finer
set_option maxHeartbeats 0 in
theorem ok_law_is_finer (T : Tx K mg u fa fdd fi fdi cs cP) : FnG P w K mg base 1 (fa 21) (fdd 21) ["one", "other"] (SpP K u 2 f_law_is_finer) :=
  FnG.pure T.fn_law_is_finer sc_law_is_finer fun cdv A outer s H E g =>
  (gs_cons (gs_if (gt_cmp (g_ne g.u64) (ge_callB (g_sum g.calm) T.no_sum bt_sum (ga_cons (ge_lc (own := own_law_is_finer_0) g (gi_seq (ge_var (i := 0))) (blkOk_by (by kernel_rfl)) (by decide) (fun s1 H1 C1 cl1 fp1 => (gg_nm g.nd (i := 2))) (fun s1 H1 C1 cl1 fp1 => gts_nil) (fun s1 H1 C1 cl1 fp1 g1 => (ge_callB g_len T.no_len bt_len (ga_cons (ge_var (i := 2)) ga_nil)))) ga_nil)) (ge_callB (g_sum g.calm) T.no_sum bt_sum (ga_cons (ge_lc (own := own_law_is_finer_1) g (gi_seq (ge_var (i := 1))) (blkOk_by (by kernel_rfl)) (by decide) (fun s1 H1 C1 cl1 fp1 => (gg_nm g.nd (i := 2))) (fun s1 H1 C1 cl1 fp1 => gts_nil) (fun s1 H1 C1 cl1 fp1 g1 => (ge_callB g_len T.no_len bt_len (ga_cons (ge_var (i := 2)) ga_nil)))) ga_nil)) (nomark _)) (gs_one (gs_ret ge_bl)) gs_nil)
  (gs_cons (gs_for g (gi_seq (ge_var (i := 0))) (gg_nm g.nd (i := 2)) (gs_one (gs_for g (gi_seq (ge_var (i := 2))) (gg_nm g.nd (i := 3)) (gs_one (gs_if (gt_cmp (g_eq g.u64) (ge_lc (own := own_law_is_finer_2) g (gi_seq (ge_var (i := 1))) (blkOk_by (by kernel_rfl)) (by decide) (fun s1 H1 C1 cl1 fp1 => (gg_nm g.nd (i := 4))) (fun s1 H1 C1 cl1 fp1 => (gts_one (gw_and (gt_cmp (g_in (go_blk g s1 H1 _ fp1).u65) (ge_var (i := 3)) (ge_var (i := 4)) rfl) (gw_and1 (gt_cmp (g_in (go_blk g s1 H1 _ fp1).u65) (ge_ix g_ix (ge_var (i := 2)) ge_int (fun _ _ => rfl)) (ge_var (i := 4)) rfl))).pt)) (fun s1 H1 C1 cl1 fp1 g1 => (ge_var (i := 4)))) (ge_lst ga_nil) (nomark _)) (gs_one (gs_ret ge_bl)) gs_nil)))))
  (gs_one (gs_ret ge_bl))))
/-! ### _law_finer_right -/
abbrev n_law_finer_right : List Str := ["bag", "turn", "bad", "wide", "one", "other", "told", "fine", "many"]
theorem sc_law_finer_right : FnScope n_law_finer_right ["bag"] (defScope s_law_finer_right) := C8.fnScope_by (by decide +kernel)
theorem b_law_finer_right (T : Tx K mg u fa fdd fi fdi cs cP) : Binds K (fdd 22) ["bag"] [] := T.fn_law_finer_right.binds fun _ _ _ _ _ _ us hl => match us, hl with | [_], _ => rfl
abbrev own_law_finer_right_0 : List (Str × Nat) := [("many", 8)]
abbrev m_law_finer_right : SS :=
  (seqS (parS 4 5 (consM (callSM f_law_pick (argN 2 (consM (varM 0) (consM (lstM (consM (cM (.int 1)) (consM (cM (.int 2)) (consM (cM (.int 3)) (consM (cM (.int 3)) nilM))))) nilM)))) (consM (callSM f_law_pick (argN 2 (consM (varM 0) (consM (lstM (consM (cM (.int 1)) (consM (cM (.int 2)) (consM (cM (.int 3)) (consM (cM (.int 3)) nilM))))) nilM)))) nilM)))
  (seqS (forS (.nm 1) (rangeM1 (consM (cM (.int 6)) nilM)) (seqS (tgtS (.tp [7, 3]) (tupM (consM (callSM f_law_pick (argN 2 (consM (varM 0) (consM (callPM f_law_states (argN 1 (consM (varM 4) nilM))) nilM)))) (consM (callSM f_law_pick (argN 2 (consM (varM 0) (consM (callPM f_law_states (argN 1 (consM (varM 5) nilM))) nilM)))) nilM))))
  (ifS (orT (boolM (op2M neF (callM reprF (consM (callPM f_is_finer (argN 2 (consM (varM 7) (consM (varM 3) nilM)))) nilM)) (callM reprF (consM (callPM f_law_is_finer (argN 2 (consM (varM 7) (consM (varM 3) nilM)))) nilM)))) (boolM (op2M isNotF (callPM f_is_finer (argN 2 (kwM 0 2 [1, 0] nilM (consM (varM 7) (consM (varM 7) nilM))))) (cM (.bl true))))) (retS (cM (.bl false))) nilS)))
  (seqS (setS 2 (trimM (callSM f_law_any_groups (argN 2 (consM (varM 0) (consM (varM 4) nilM))))))
  (seqS (ifS (boolM (op2M eqF (lcM (seqM (tupM (consM (cM (.int 1)) (consM (cM (.int 2)) (consM (cM (.int 3)) nilM))))) (own_law_finer_right_0.map (·.2)) (.nm 8) (truM (callPM f_law_is_grouping (argN 2 (consM (varM 8) (consM (varM 2) nilM))))) (varM 8)) (lstM nilM))) (seqS (setS 6 (newM (consM (trimM (heardM 4 2 3 okG m_law_heard_rest (callPM f_is_finer (argN 2 (consM (varM 2) (consM (varM 2) nilM)))))) nilM)))
  (seqS (dropS (appM (varM 6) (consM (trimM (heardM 4 2 3 okG m_law_heard_rest (callPM f_is_finer (argN 2 (consM (tupM (consM (tupM (consM (cM (.int 0)) nilM)) nilM)) (consM (varM 2) nilM)))))) nilM)))
  (seqS (dropS (appM (varM 6) (consM (trimM (heardM 4 2 3 okG m_law_heard_rest (callPM f_is_finer (argN 2 (consM (varM 2) (consM (tupM (consM (tupM (consM (cM (.int 0)) nilM)) nilM)) nilM)))))) nilM)))
  (ifS (boolM (op2M neF (varM 6) (lstM (consM (tupM (consM (cM (.str "border")) (consM (cM (.str "one")) nilM))) (consM (tupM (consM (cM (.str "border")) (consM (cM (.str "other")) nilM))) (consM (tupM (consM (cM (.str "border")) (consM (cM (.str "one")) nilM))) nilM)))))) (retS (cM (.bl false))) nilS)))) nilS)
  (seqS (setS 3 (tupM (consM (tupM (consM (cM (.int 0)) nilM)) (consM (tupM (consM (cM (.int 1)) nilM)) (consM (tupM (consM (cM (.int 2)) nilM)) (consM (tupM (consM (cM (.int 3)) nilM)) nilM))))))
  (seqS (ifS (boolM (op2M neF (trimM (heardM 4 2 3 okG m_law_heard_rest (callPM f_is_finer (argN 2 (consM (varM 3) (consM (tupM nilM) nilM)))))) (tupM (consM (cM (.str "border")) (consM (cM (.str "one")) nilM))))) (retS (cM (.bl false))) nilS)
  (retS (op2M eqF (trimM (heardM 4 2 3 okG m_law_heard_rest (callPM f_is_finer (argN 2 (consM (tupM (consM (tupM (consM (cM (.int 0)) (consM (cM (.int 1)) nilM))) nilM)) (consM (varM 3) nilM)))))) (tupM (consM (cM (.str "border")) (consM (cM (.str "other")) nilM)))))))))))
abbrev f_law_finer_right : List D → List SO → Res D := runS n_law_finer_right.length m_law_finer_right
set_option maxHeartbeats 0 in
theorem ok_law_finer_right (T : Tx K mg u fa fdd fi fdi cs cP) (tb : ∀ p ∈ cs, LamX.TabB base mg p.1 p.2) : FnG P w K mg base 9 (fa 22) (fdd 22) ["bag"] (SpS K u 1 f_law_finer_right) :=
  FnG.stateC T.fn_law_finer_right T.cd_law_finer_right sc_law_finer_right fun A outer s H E g =>
  (gs_cons (gs_par g.calm g.nd (ga_cons (ge_callS (ok_law_pick T) g (by decide) T.mg_law_pick T.fn_law_pick.kp (b_law_pick T) (ga_cons (ge_var (i := 0)) (ga_cons (ge_lst (ga_cons ge_int (ga_cons ge_int (ga_cons ge_int (ga_cons ge_int ga_nil))))) ga_nil))) (ga_cons (ge_callS (ok_law_pick T) g (by decide) T.mg_law_pick T.fn_law_pick.kp (b_law_pick T) (ga_cons (ge_var (i := 0)) (ga_cons (ge_lst (ga_cons ge_int (ga_cons ge_int (ga_cons ge_int (ga_cons ge_int ga_nil))))) ga_nil))) ga_nil)) (i := 4) (j := 5))
  (gs_cons (gs_for g (gi_range1 T.no_range (ga_cons ge_int ga_nil)) (gg_nm g.nd (i := 1)) (gs_cons (gs_tgt (ge_tup (ga_cons (ge_callS (ok_law_pick T) g (by decide) T.mg_law_pick T.fn_law_pick.kp (b_law_pick T) (ga_cons (ge_var (i := 0)) (ga_cons (ge_callP (ok_law_states T) g (by decide) T.mg_law_states T.fn_law_states.kp (b_law_states T) (ga_cons (ge_var (i := 4)) ga_nil)) ga_nil))) (ga_cons (ge_callS (ok_law_pick T) g (by decide) T.mg_law_pick T.fn_law_pick.kp (b_law_pick T) (ga_cons (ge_var (i := 0)) (ga_cons (ge_callP (ok_law_states T) g (by decide) T.mg_law_states T.fn_law_states.kp (b_law_states T) (ga_cons (ge_var (i := 5)) ga_nil)) ga_nil))) ga_nil))) (gg_tup g.calm (gg_cons g.nd (gg_cons g.nd gg_nil (i := 3)) (i := 7))))
  (gs_one (gs_if (gw_or (gt_cmp (g_ne g.u64) (ge_callB (g_repr g.guards g.u) T.no_repr bt_repr (ga_cons (ge_callP (ok_is_finer T) g (by decide) T.mg_is_finer T.fn_is_finer.kp (b_is_finer T) (ga_cons (ge_var (i := 7)) (ga_cons (ge_var (i := 3)) ga_nil))) ga_nil)) (ge_callB (g_repr g.guards g.u) T.no_repr bt_repr (ga_cons (ge_callP (ok_law_is_finer T) g (by decide) T.mg_law_is_finer T.fn_law_is_finer.kp (b_law_is_finer T) (ga_cons (ge_var (i := 7)) (ga_cons (ge_var (i := 3)) ga_nil))) ga_nil)) (nomark _)) (gw_or1 (gt_cmp g_isNot (ge_callPK0 (ok_is_finer T) g (by decide) T.mg_is_finer T.fn_is_finer.kp (kb_is_finer_0 T) (gk_cons (ge_var (i := 7)) (gk_cons (ge_var (i := 7)) gk_nil))) ge_bl (nomark _)))).pt (gs_one (gs_ret ge_bl)) gs_nil))))
  (gs_cons (gs_set g.nd (ge_trim (ge_callS (ok_law_any_groups T) g (by decide) T.mg_law_any_groups T.fn_law_any_groups.kp (b_law_any_groups T) (ga_cons (ge_var (i := 0)) (ga_cons (ge_var (i := 4)) ga_nil)))) (i := 2))
  (gs_cons (gs_if (gt_cmp (g_eq g.u64) (ge_lc (own := own_law_finer_right_0) g (gi_seq (ge_tup (ga_cons ge_int (ga_cons ge_int (ga_cons ge_int ga_nil))))) (blkOk_by (by kernel_rfl)) (by decide) (fun s1 H1 C1 cl1 fp1 => (gg_nm g.nd (i := 8))) (fun s1 H1 C1 cl1 fp1 => (gts_one (gt_tru (ge_callP (ok_law_is_grouping T) (go_blk g s1 H1 _ fp1) (by decide) T.mg_law_is_grouping T.fn_law_is_grouping.kp (b_law_is_grouping T) (ga_cons (ge_var (i := 8)) (ga_cons (ge_var (i := 2)) ga_nil)))))) (fun s1 H1 C1 cl1 fp1 g1 => (ge_var (i := 8)))) (ge_lst ga_nil) (nomark _)) (gs_cons (gs_set g.nd (ge_new (ga_cons (ge_trim (ge_heard (k := 6) g T.fn_law_heard sc_law_heard (b_law_heard T) T.mg_law_heard (by decide) rfl (by first | exact .inl rfl | exact .inr (.inl rfl)) (heard_body T rfl rfl rfl) T.gv (tb _ T.cs_law_finer_right) rfl T.tm_law_finer_right T.tu_law_finer_right (by decide) (LamX.lamS_by (by kernel_rfl)) (fun A outer s H E f c2 gl => (ge_callP (ok_is_finer T) gl (by decide) T.mg_is_finer T.fn_is_finer.kp (b_is_finer T) (ga_cons (ge_var (i := 2)) (ga_cons (ge_var (i := 2)) ga_nil)))))) ga_nil)) (i := 6))
  (gs_cons (gs_expr (ge_app (ge_var (i := 6)) (ga_cons (ge_trim (ge_heard (k := 6) g T.fn_law_heard sc_law_heard (b_law_heard T) T.mg_law_heard (by decide) rfl (by first | exact .inl rfl | exact .inr (.inl rfl)) (heard_body T rfl rfl rfl) T.gv (tb _ T.cs_law_finer_right) rfl T.tm_law_finer_right T.tu_law_finer_right (by decide) (LamX.lamS_by (by kernel_rfl)) (fun A outer s H E f c2 gl => (ge_callP (ok_is_finer T) gl (by decide) T.mg_is_finer T.fn_is_finer.kp (b_is_finer T) (ga_cons (ge_tup (ga_cons (ge_tup (ga_cons ge_int ga_nil)) ga_nil)) (ga_cons (ge_var (i := 2)) ga_nil)))))) ga_nil)))
  (gs_cons (gs_expr (ge_app (ge_var (i := 6)) (ga_cons (ge_trim (ge_heard (k := 6) g T.fn_law_heard sc_law_heard (b_law_heard T) T.mg_law_heard (by decide) rfl (by first | exact .inl rfl | exact .inr (.inl rfl)) (heard_body T rfl rfl rfl) T.gv (tb _ T.cs_law_finer_right) rfl T.tm_law_finer_right T.tu_law_finer_right (by decide) (LamX.lamS_by (by kernel_rfl)) (fun A outer s H E f c2 gl => (ge_callP (ok_is_finer T) gl (by decide) T.mg_is_finer T.fn_is_finer.kp (b_is_finer T) (ga_cons (ge_var (i := 2)) (ga_cons (ge_tup (ga_cons (ge_tup (ga_cons ge_int ga_nil)) ga_nil)) ga_nil)))))) ga_nil)))
  (gs_one (gs_if (gt_cmp (g_ne g.u64) (ge_var (i := 6)) (ge_lst (ga_cons (ge_tup (ga_cons ge_str (ga_cons ge_str ga_nil))) (ga_cons (ge_tup (ga_cons ge_str (ga_cons ge_str ga_nil))) (ga_cons (ge_tup (ga_cons ge_str (ga_cons ge_str ga_nil))) ga_nil)))) (nomark _)) (gs_one (gs_ret ge_bl)) gs_nil))))) gs_nil)
  (gs_cons (gs_set g.nd (ge_tup (ga_cons (ge_tup (ga_cons ge_int ga_nil)) (ga_cons (ge_tup (ga_cons ge_int ga_nil)) (ga_cons (ge_tup (ga_cons ge_int ga_nil)) (ga_cons (ge_tup (ga_cons ge_int ga_nil)) ga_nil))))) (i := 3))
  (gs_cons (gs_if (gt_cmp (g_ne g.u64) (ge_trim (ge_heard (k := 6) g T.fn_law_heard sc_law_heard (b_law_heard T) T.mg_law_heard (by decide) rfl (by first | exact .inl rfl | exact .inr (.inl rfl)) (heard_body T rfl rfl rfl) T.gv (tb _ T.cs_law_finer_right) rfl T.tm_law_finer_right T.tu_law_finer_right (by decide) (LamX.lamS_by (by kernel_rfl)) (fun A outer s H E f c2 gl => (ge_callP (ok_is_finer T) gl (by decide) T.mg_is_finer T.fn_is_finer.kp (b_is_finer T) (ga_cons (ge_var (i := 3)) (ga_cons (ge_tup ga_nil) ga_nil)))))) (ge_tup (ga_cons ge_str (ga_cons ge_str ga_nil))) (nomark _)) (gs_one (gs_ret ge_bl)) gs_nil)
  (gs_one (gs_ret (ge_cmp (g_eq g.u64) (ge_trim (ge_heard (k := 6) g T.fn_law_heard sc_law_heard (b_law_heard T) T.mg_law_heard (by decide) rfl (by first | exact .inl rfl | exact .inr (.inl rfl)) (heard_body T rfl rfl rfl) T.gv (tb _ T.cs_law_finer_right) rfl T.tm_law_finer_right T.tu_law_finer_right (by decide) (LamX.lamS_by (by kernel_rfl)) (fun A outer s H E f c2 gl => (ge_callP (ok_is_finer T) gl (by decide) T.mg_is_finer T.fn_is_finer.kp (b_is_finer T) (ga_cons (ge_tup (ga_cons (ge_tup (ga_cons ge_int (ga_cons ge_int ga_nil))) ga_nil)) (ga_cons (ge_var (i := 3)) ga_nil)))))) (ge_tup (ga_cons ge_str (ga_cons ge_str ga_nil))) (nomark _))))))))))
/-! ### law -/
abbrev n_law : List Str := ["script", "bag", "many", "odd", "told", "due", "turn", "value", "groups", "place"]
theorem sc_law : FnScope n_law ["script"] (defScope s_law) := C8.fnScope_by (by decide +kernel)
theorem b_law (T : Tx K mg u fa fdd fi fdi cs cP) : Binds K (fdd 23) ["script"] [] := T.fn_law.binds fun _ _ _ _ _ _ us hl => match us, hl with | [_], _ => rfl
abbrev own_law_0 : List (Str × Nat) := [("place", 9)]
abbrev own_law_1 : List (Str × Nat) := [("groups", 8)]
abbrev m_law : SS :=
  (seqS (setS 1 (callSM f_law_bag (argN 1 (consM (varM 0) nilM))))
  (seqS (forS (.nm 2) (seqM (tupM (consM (cM (.int 1)) (consM (cM (.int 2)) (consM (cM (.int 3)) nilM))))) (seqS (setS 5 (callM tupleF (consM (callPM f_law_states (argN 1 (consM (varM 2) nilM))) nilM)))
  (seqS (ifS (orT (boolM (op2M neF (callM reprF (consM (callPM f_border_groupings (argN 1 (consM (varM 2) nilM))) nilM)) (callM reprF (consM (varM 5) nilM)))) (boolM (op2M neF (op2M ixF (callPM f_border_groupings (argN 1 (kwM 0 1 [0] nilM (consM (varM 2) nilM)))) (cM (.int 0))) (callM tupleF (consM (lcM (rangeM1 (consM (varM 2) nilM)) (own_law_0.map (·.2)) (.nm 9) yesM (tupM (consM (varM 9) nilM))) nilM))))) (retS (cM (.bl false))) nilS)
  (seqS (forS (.nm 6) (rangeM1 (consM (cM (.int 8)) nilM)) (seqS (setS 7 (trimM (callSM f_law_any_groups (argN 2 (consM (varM 1) (consM (varM 2) nilM))))))
  (ifS (boolM (op2M neF (callM reprF (consM (callPM f_is_border_grouping (argN 2 (consM (varM 2) (consM (varM 7) nilM)))) nilM)) (callM reprF (consM (callPM f_law_is_grouping (argN 2 (consM (varM 2) (consM (varM 7) nilM)))) nilM)))) (retS (cM (.bl false))) nilS)))
  (ifS (boolM (op2M neF (lcM (seqM (varM 5)) (own_law_1.map (·.2)) (.nm 8) (boolM (op2M isNotF (callPM f_is_border_grouping (argN 2 (kwM 0 2 [1, 0] nilM (consM (varM 8) (consM (varM 2) nilM))))) (cM (.bl true)))) (varM 8)) (lstM nilM))) (retS (cM (.bl false))) nilS)))))
  (seqS (setS 3 (callSM f_law_pick (argN 2 (consM (varM 1) (consM (lstM (consM (cM (.int 0)) (consM (cM (.int 4)) (consM (op1M negF (cM (.int 1))) (consM (cM (.bl true)) (consM (cM .non) (consM (cM (.str "2")) (consM (lstM (consM (cM (.int 2)) nilM)) (consM (op2M powF (cM (.int 10)) (cM (.int 30))) nilM))))))))) nilM)))))
  (seqS (setS 4 (newM (consM (trimM (heardM 4 2 3 okG m_law_heard_rest (callPM f_border_groupings (argN 1 (consM (varM 3) nilM))))) nilM)))
  (seqS (dropS (appM (varM 4) (consM (trimM (heardM 4 2 3 okG m_law_heard_rest (callPM f_is_border_grouping (argN 2 (consM (varM 3) (consM (cM .non) nilM)))))) nilM)))
  (retS (andM (op2M eqF (varM 4) (op2M mulF (lstM (consM (tupM (consM (cM (.str "number")) (consM (cM (.str "many")) nilM))) nilM)) (cM (.int 2)))) (callSM f_law_finer_right (argN 1 (consM (varM 1) nilM))))))))))
abbrev f_law : List D → List SO → Res D := runS n_law.length m_law
set_option maxHeartbeats 0 in
theorem ok_law (T : Tx K mg u fa fdd fi fdi cs cP) (tb : ∀ p ∈ cs, LamX.TabB base mg p.1 p.2) : FnG P w K mg base 10 (fa 23) (fdd 23) ["script"] (SpS K u 1 f_law) :=
  FnG.stateC T.fn_law T.cd_law sc_law fun A outer s H E g =>
  (gs_cons (gs_set g.nd (ge_callS (ok_law_bag T) g (by decide) T.mg_law_bag T.fn_law_bag.kp (b_law_bag T) (ga_cons (ge_var (i := 0)) ga_nil)) (i := 1))
  (gs_cons (gs_for g (gi_seq (ge_tup (ga_cons ge_int (ga_cons ge_int (ga_cons ge_int ga_nil))))) (gg_nm g.nd (i := 2)) (gs_cons (gs_set g.nd (ge_callTy g_tuple T.no_tuple bt_tuple (ga_cons (ge_callP (ok_law_states T) g (by decide) T.mg_law_states T.fn_law_states.kp (b_law_states T) (ga_cons (ge_var (i := 2)) ga_nil)) ga_nil)) (i := 5))
  (gs_cons (gs_if (gw_or (gt_cmp (g_ne g.u64) (ge_callB (g_repr g.guards g.u) T.no_repr bt_repr (ga_cons (ge_callP (ok_border_groupings T) g (by decide) T.mg_border_groupings T.fn_border_groupings.kp (b_border_groupings T) (ga_cons (ge_var (i := 2)) ga_nil)) ga_nil)) (ge_callB (g_repr g.guards g.u) T.no_repr bt_repr (ga_cons (ge_var (i := 5)) ga_nil)) (nomark _)) (gw_or1 (gt_cmp (g_ne g.u64) (ge_ix g_ix (ge_callPK0 (ok_border_groupings T) g (by decide) T.mg_border_groupings T.fn_border_groupings.kp (kb_border_groupings_1 T) (gk_cons (ge_var (i := 2)) gk_nil)) ge_int (fun _ _ => rfl)) (ge_callTy g_tuple T.no_tuple bt_tuple (ga_cons (ge_lc (own := own_law_0) g (gi_range1 T.no_range (ga_cons (ge_var (i := 2)) ga_nil)) (blkOk_by (by kernel_rfl)) (by decide) (fun s1 H1 C1 cl1 fp1 => (gg_nm g.nd (i := 9))) (fun s1 H1 C1 cl1 fp1 => gts_nil) (fun s1 H1 C1 cl1 fp1 g1 => (ge_tup (ga_cons (ge_var (i := 9)) ga_nil)))) ga_nil)) (nomark _)))).pt (gs_one (gs_ret ge_bl)) gs_nil)
  (gs_cons (gs_for g (gi_range1 T.no_range (ga_cons ge_int ga_nil)) (gg_nm g.nd (i := 6)) (gs_cons (gs_set g.nd (ge_trim (ge_callS (ok_law_any_groups T) g (by decide) T.mg_law_any_groups T.fn_law_any_groups.kp (b_law_any_groups T) (ga_cons (ge_var (i := 1)) (ga_cons (ge_var (i := 2)) ga_nil)))) (i := 7))
  (gs_one (gs_if (gt_cmp (g_ne g.u64) (ge_callB (g_repr g.guards g.u) T.no_repr bt_repr (ga_cons (ge_callP (ok_is_border_grouping T) g (by decide) T.mg_is_border_grouping T.fn_is_border_grouping.kp (b_is_border_grouping T) (ga_cons (ge_var (i := 2)) (ga_cons (ge_var (i := 7)) ga_nil))) ga_nil)) (ge_callB (g_repr g.guards g.u) T.no_repr bt_repr (ga_cons (ge_callP (ok_law_is_grouping T) g (by decide) T.mg_law_is_grouping T.fn_law_is_grouping.kp (b_law_is_grouping T) (ga_cons (ge_var (i := 2)) (ga_cons (ge_var (i := 7)) ga_nil))) ga_nil)) (nomark _)) (gs_one (gs_ret ge_bl)) gs_nil))))
  (gs_one (gs_if (gt_cmp (g_ne g.u64) (ge_lc (own := own_law_1) g (gi_seq (ge_var (i := 5))) (blkOk_by (by kernel_rfl)) (by decide) (fun s1 H1 C1 cl1 fp1 => (gg_nm g.nd (i := 8))) (fun s1 H1 C1 cl1 fp1 => (gts_one (gt_cmp g_isNot (ge_callPK0 (ok_is_border_grouping T) (go_blk g s1 H1 _ fp1) (by decide) T.mg_is_border_grouping T.fn_is_border_grouping.kp (kb_is_border_grouping_2 T) (gk_cons (ge_var (i := 8)) (gk_cons (ge_var (i := 2)) gk_nil))) ge_bl (nomark _)))) (fun s1 H1 C1 cl1 fp1 g1 => (ge_var (i := 8)))) (ge_lst ga_nil) (nomark _)) (gs_one (gs_ret ge_bl)) gs_nil))))))
  (gs_cons (gs_set g.nd (ge_callS (ok_law_pick T) g (by decide) T.mg_law_pick T.fn_law_pick.kp (b_law_pick T) (ga_cons (ge_var (i := 1)) (ga_cons (ge_lst (ga_cons ge_int (ga_cons ge_int (ga_cons (ge_un g_neg ge_int) (ga_cons ge_bl (ga_cons ge_non (ga_cons ge_str (ga_cons (ge_lst (ga_cons ge_int ga_nil)) (ga_cons (ge_bin g_pow ge_int ge_int) ga_nil))))))))) ga_nil))) (i := 3))
  (gs_cons (gs_set g.nd (ge_new (ga_cons (ge_trim (ge_heard (k := 7) g T.fn_law_heard sc_law_heard (b_law_heard T) T.mg_law_heard (by decide) rfl (by first | exact .inl rfl | exact .inr (.inl rfl)) (heard_body T rfl rfl rfl) T.gv (tb _ T.cs_law) rfl T.tm_law T.tu_law (by decide) (LamX.lamS_by (by kernel_rfl)) (fun A outer s H E f c2 gl => (ge_callP (ok_border_groupings T) gl (by decide) T.mg_border_groupings T.fn_border_groupings.kp (b_border_groupings T) (ga_cons (ge_var (i := 3)) ga_nil))))) ga_nil)) (i := 4))
  (gs_cons (gs_expr (ge_app (ge_var (i := 4)) (ga_cons (ge_trim (ge_heard (k := 7) g T.fn_law_heard sc_law_heard (b_law_heard T) T.mg_law_heard (by decide) rfl (by first | exact .inl rfl | exact .inr (.inl rfl)) (heard_body T rfl rfl rfl) T.gv (tb _ T.cs_law) rfl T.tm_law T.tu_law (by decide) (LamX.lamS_by (by kernel_rfl)) (fun A outer s H E f c2 gl => (ge_callP (ok_is_border_grouping T) gl (by decide) T.mg_is_border_grouping T.fn_is_border_grouping.kp (b_is_border_grouping T) (ga_cons (ge_var (i := 3)) (ga_cons ge_non ga_nil)))))) ga_nil)))
  (gs_one (gs_ret (ge_and (ge_cmp (g_eq g.u64) (ge_var (i := 4)) (ge_bin g_mul (ge_lst (ga_cons (ge_tup (ga_cons ge_str (ga_cons ge_str ga_nil))) ga_nil)) ge_int) (nomark _)) (ge_one (ge_callS (ok_law_finer_right T tb) g (by decide) T.mg_law_finer_right T.fn_law_finer_right.kp (b_law_finer_right T) (ga_cons (ge_var (i := 1)) ga_nil)))))))))))
end
end K65

set_option Elab.async false
set_option linter.all false
set_option maxRecDepth 100000
set_option maxHeartbeats 0
namespace K65
open PySem L2 G
/-! ### the bag -/
def bag (cs : List Int) (at' rest : Int) : SO := .lst [.lst (cs.map .int), .int at', .int rest]
theorem py_ints (μ : List SO) (n : Nat) : ∀ cs : List Int, mapO (pyD n μ) (cs.map .int) = some (cs.map PyData.int)
  | [] => rfl
  | c :: cs => by
    have h := py_ints μ n cs
    rw [List.map_cons,
          List.map_cons]
    unfold mapO
    rw [h]
    cases n <;> rfl
theorem lay_ints : ∀ cs : List Int, PyData.canLayAll0 (cs.map .int) = true ∧ PyData.depthAll (cs.map .int) = 0
  | [] => ⟨rfl, rfl⟩
  | c :: cs => by
    have h := lay_ints cs
    rw [List.map_cons]
    unfold PyData.canLayAll0 PyData.depthAll
    rw [h.1, h.2]
    exact ⟨rfl, rfl⟩
theorem pyo_ints (μ : List SO) (cs : List Int) : pyo μ (.lst (cs.map .int)) = some (.list (cs.map .int)) := by
  unfold pyo pyD
  rw [py_ints]
  have h := lay_ints cs
  show (if SeqAt.shaped (.list (cs.map .int)) then some (PyData.list (cs.map .int)) else none) = _
  have e : SeqAt.shaped (.list (cs.map .int)) = true := by
    unfold SeqAt.shaped PyData.canLay0 PyData.depth
    rw [h.1, h.2]
    rfl
  rw [e]
  rfl
theorem ne_nil (μ : List SO) (cs : List Int) : neF μ (.lst (cs.map .int)) (.lst []) = some (.bl (!cs.isEmpty)) := by
  have h := pyo_ints μ cs
  have h2 := pyo_ints μ []
  rw [List.map_nil] at h2
  unfold neF
  rw [h, h2]
  cases cs with
  | nil => rfl
  | cons c cs => simp [PyData.eqv, PyData.eqvAll]
theorem fmod_lt {a b : Int} (h : 0 < b) : 0 ≤ a.fmod b ∧ a.fmod b < b := by
  rw [Int.fmod_eq_emod_of_nonneg _ (Int.le_of_lt h)]
  exact ⟨Int.emod_nonneg _ (by omega), Int.emod_lt_of_pos _ h⟩
theorem fdiv_nn {a b : Int} (h : 0 < b) (ha : 0 ≤ a) : 0 ≤ a.fdiv b := Int.fdiv_nonneg ha (Int.le_of_lt h)
theorem atI_mod {xs : List Int} (h : xs ≠ []) (i : Int) : ∃ c, atI (xs.map D.int) (i.fmod (xs.length : Int)) = some (.int c) := by
  have hl : 0 < xs.length := List.length_pos_iff.mpr h
  have hb := fmod_lt (a := i) (b := (xs.length : Int)) (by omega)
  obtain ⟨k, hk⟩ : ∃ k : Nat, i.fmod (xs.length : Int) = k := ⟨(i.fmod (xs.length : Int)).toNat, by omega⟩
  rw [hk] at hb ⊢
  have hk2 : k < xs.length := by omega
  refine ⟨xs[k], ?_⟩
  unfold atI ixN
  simp [hk2]
theorem pow5 {μ : List SO} {i : Int} (h0 : 0 ≤ i) (h1 : i < 18446744073709551616) : powF μ (.int i) (.int 5) = some (.int (i ^ 5)) := by
  have e : i.natAbs < 18446744073709551616 := by omega
  simp [powF, e]
theorem pow3 {μ : List SO} {i : Int} (h0 : 0 ≤ i) (h1 : i < 18446744073709551616) : powF μ (.int i) (.int 3) = some (.int (i ^ 3)) := by
  have e : i.natAbs < 18446744073709551616 := by omega
  simp [powF, e]
theorem mix_one {c a : Int} (h0 : 0 ≤ a) (h1 : a ≤ 1000) : 0 ≤ c.fmod 2147483549 + 71347 * a + 5309 ∧ c.fmod 2147483549 + 71347 * a + 5309 < 18446744073709551616 := by
  have h := fmod_lt (a := c) (b := 2147483549) (by decide)
  omega
theorem mix_two {m a : Int} (h0 : 0 ≤ a) (h1 : a ≤ 1000) (m0 : 0 ≤ m) (m1 : m < 2147483587) : 0 ≤ m * (2 * a + 7013) + 39119 * a * a + 71347 ∧ m * (2 * a + 7013) + 39119 * a * a + 71347 < 18446744073709551616 := by
  have h2 : m * (2 * a + 7013) ≤ 2147483587 * 9013 := Int.mul_le_mul (by omega) (by omega) (by omega) (by omega)
  have h3 : 39119 * a * a ≤ 39119 * 1000 * 1000 := Int.mul_le_mul (by omega) (by omega) (by omega) (by omega)
  have h4 : 0 ≤ m * (2 * a + 7013) := Int.mul_nonneg m0 (by omega)
  have h5 : 0 ≤ 39119 * a * a := Int.mul_nonneg (by omega) (by omega)
  omega
def mix1 (c a : Int) : Int := ((c.fmod 2147483549 + 71347 * a + 5309) ^ 5).fmod 2147483587
def mix2 (c a : Int) : Int := ((mix1 c a * (2 * a + 7013) + 39119 * a * a + 71347) ^ 3).fmod 2147483563
theorem mix1_b (c a : Int) : 0 ≤ mix1 c a ∧ mix1 c a < 2147483587 := fmod_lt (by decide)
theorem ten18 (μ : List SO) : powF μ (.int 10) (.int 18) = some (.int 1000000000000000000) := by kernel_rfl
theorem at30 (a b c : D) : atI [a, b, c] 0 = some a := rfl
theorem at31 (a b c : D) : atI [a, b, c] 1 = some b := rfl
theorem at32 (a b c : D) : atI [a, b, c] 2 = some c := rfl
theorem ix31 : ixN 3 1 = some 1 := rfl
theorem ix32 : ixN 3 2 = some 2 := rfl
theorem draw {cs : List Int} {at' rest k : Int} {t : List SO} (hl : cs.length ≤ 63) (h0 : 0 ≤ at') (h1 : at' ≤ 1000) (hr : 0 ≤ rest) (hk : 1 ≤ k) (hk2 : k < 1000) :
    ∃ d a r, f_law_draw [.loc 0, .int k] (bag cs at' rest :: t) = .ok (.int d) (bag cs a r :: t) ∧ 0 ≤ d ∧ d < k ∧ 0 ≤ a ∧ a ≤ at' + 1 ∧ 0 ≤ r := by
  have hk0 : k ≠ 0 := by omega
  have hkn : k.natAbs < 1073741824 := by omega
  have hf : few cs.length = true := by unfold few; rw [Nat.ble_eq]; omega
  by_cases hrest : 0 < rest
  · refine ⟨rest.fmod k, at', rest.fdiv k, ?_, (fmod_lt (by omega)).1, (fmod_lt (by omega)).2, by omega, by omega, fdiv_nn (by omega) hr⟩
    simp [f_law_draw, m_law_draw, runS, startD, seqS, ifS, boolM, op2M, varM, cM, ixF, gtF, bag, callM, consM, nilM, subS, G.putF, setS, retS, intF, modF, fdivF, Res.bind, Res.sbind, Res.map, optM, SR.then, atI, ixN, hrest, hk0, hkn]
  · have hz : rest = 0 := by omega
    subst hz
    have hla : lo64 at' = true := by unfold lo64; rw [decide_eq_true (show -18446744073709551616 < at' by omega), decide_eq_true (show at' < 18446744073709551616 by omega)]; rfl
    have hlb : lo64 (2 * at' + 7013) = true := by unfold lo64; rw [decide_eq_true (show -18446744073709551616 < 2 * at' + 7013 by omega), decide_eq_true (show 2 * at' + 7013 < 18446744073709551616 by omega)]; rfl
    have hl2 : lo64 2 = true := rfl
    by_cases hcs : cs = []
    · subst hcs
      refine ⟨((mix2 (71347 * at' + 5309) at').fdiv 64).fmod k, at' + 1, 0, ?_, (fmod_lt (by omega)).1, (fmod_lt (by omega)).2, by omega, by omega, by omega⟩
      have p1 := fun μ => pow5 (μ := μ) (mix_one (c := 71347 * at' + 5309) h0 h1).1 (mix_one h0 h1).2
      have b1 := mix1_b (71347 * at' + 5309) at'
      have p2 := fun μ => pow3 (μ := μ) (mix_two h0 h1 b1.1 b1.2).1 (mix_two h0 h1 b1.1 b1.2).2
      unfold mix1 at p2
      have nn := fun μ => ne_nil μ []
      rw [List.map_nil] at nn
      have hlt : ¬ at' < 0 := by omega
      simp [f_law_draw, m_law_draw, runS, startD, seqS, ifS, boolM, op2M, varM, cM, ixF, gtF, bag, callM, consM, nilM, lstM, subS, G.putF, setS, retS, intF, modF, fdivF, mulF, addF, subF, nilS, andT, ltF, geF, lenF, seqD, lstD, Res.bind, Res.sbind, Res.map, optM, SR.then, atI, ixN, hk0, hkn, nn, hlt, p1, p2, mix2, mix1, few, hla, hlb, hl2]
    · have hne : cs.isEmpty = false := by cases cs with | nil => exact absurd rfl hcs | cons a b => rfl
      obtain ⟨c, hc⟩ := atI_mod hcs at'
      have nn := fun μ => ne_nil μ cs
      rw [hne] at nn
      have hcl : ¬ ((cs.length : Int) = 0) := fun z => hcs (List.length_eq_zero_iff.mp (by omega))
      by_cases hbig : at' < (cs.length : Int) ∧ 1000000000000000000 ≤ (if c < 0 then -c else c)
      · obtain ⟨hlt, hb2⟩ := hbig
        by_cases hneg : c < 0
        · rw [if_pos hneg] at hb2
          refine ⟨(2 * (-c - 1000000000000000000) + 1).fmod k, at' + 1, (2 * (-c - 1000000000000000000) + 1).fdiv k, ?_, (fmod_lt (by omega)).1, (fmod_lt (by omega)).2, by omega, by omega, fdiv_nn (by omega) (by omega)⟩
          simp [f_law_draw, m_law_draw, runS, startD, seqS, ifS, boolM, op2M, varM, cM, ixF, gtF, bag, callM, consM, nilM, lstM, subS, G.putF, setS, retS, intF, modF, fdivF, mulF, addF, subF, nilS, andT, ltF, geF, lenF, absF, seqD, lstD, Res.bind, Res.sbind, Res.map, optM, SR.then, List.length_map, at30, at31, at32, ix31, ix32, hc, hcl, hk0, hkn, nn, ten18, few, hcs, hla, hlb, hl2, hlt, hb2, hneg]
        · rw [if_neg hneg] at hb2
          refine ⟨(2 * (c - 1000000000000000000) + 0).fmod k, at' + 1, (2 * (c - 1000000000000000000) + 0).fdiv k, ?_, (fmod_lt (by omega)).1, (fmod_lt (by omega)).2, by omega, by omega, fdiv_nn (by omega) (by omega)⟩
          simp [f_law_draw, m_law_draw, runS, startD, seqS, ifS, boolM, op2M, varM, cM, ixF, gtF, bag, callM, consM, nilM, lstM, subS, G.putF, setS, retS, intF, modF, fdivF, mulF, addF, subF, nilS, andT, ltF, geF, lenF, absF, seqD, lstD, Res.bind, Res.sbind, Res.map, optM, SR.then, List.length_map, at30, at31, at32, ix31, ix32, hc, hcl, hk0, hkn, nn, ten18, few, hcs, hla, hlb, hl2, hlt, hb2, hneg]
      · refine ⟨((mix2 c at').fdiv 64).fmod k, at' + 1, 0, ?_, (fmod_lt (by omega)).1, (fmod_lt (by omega)).2, by omega, by omega, by omega⟩
        have p1 := fun μ => pow5 (μ := μ) (mix_one (c := c) h0 h1).1 (mix_one h0 h1).2
        have b1 := mix1_b c at'
        have p2 := fun μ => pow3 (μ := μ) (mix_two h0 h1 b1.1 b1.2).1 (mix_two h0 h1 b1.1 b1.2).2
        unfold mix1 at p2
        by_cases hlt : at' < (cs.length : Int)
        · have hb2 : ¬ 1000000000000000000 ≤ (if c < 0 then -c else c) := fun z => hbig ⟨hlt, z⟩
          by_cases hneg : c < 0
          · rw [if_pos hneg] at hb2
            simp [f_law_draw, m_law_draw, runS, startD, seqS, ifS, boolM, op2M, varM, cM, ixF, gtF, bag, callM, consM, nilM, lstM, subS, G.putF, setS, retS, intF, modF, fdivF, mulF, addF, subF, nilS, andT, ltF, geF, lenF, absF, seqD, lstD, Res.bind, Res.sbind, Res.map, optM, SR.then, List.length_map, at30, at31, at32, ix31, ix32, hc, hcl, hk0, hkn, nn, ten18, few, hcs, hla, hlb, hl2, hlt, hb2, hneg, p1, p2, mix2, mix1]
          · rw [if_neg hneg] at hb2
            simp [f_law_draw, m_law_draw, runS, startD, seqS, ifS, boolM, op2M, varM, cM, ixF, gtF, bag, callM, consM, nilM, lstM, subS, G.putF, setS, retS, intF, modF, fdivF, mulF, addF, subF, nilS, andT, ltF, geF, lenF, absF, seqD, lstD, Res.bind, Res.sbind, Res.map, optM, SR.then, List.length_map, at30, at31, at32, ix31, ix32, hc, hcl, hk0, hkn, nn, ten18, few, hcs, hla, hlb, hl2, hlt, hb2, hneg, p1, p2, mix2, mix1]
        · simp [f_law_draw, m_law_draw, runS, startD, seqS, ifS, boolM, op2M, varM, cM, ixF, gtF, bag, callM, consM, nilM, lstM, subS, G.putF, setS, retS, intF, modF, fdivF, mulF, addF, subF, nilS, andT, ltF, geF, lenF, absF, seqD, lstD, Res.bind, Res.sbind, Res.map, optM, SR.then, List.length_map, at30, at31, at32, ix31, ix32, hc, hcl, hk0, hkn, nn, ten18, few, hcs, hla, hlb, hl2, hlt, p1, p2, mix2, mix1]
end K65

set_option Elab.async false
set_option linter.all false
set_option maxRecDepth 100000
set_option maxHeartbeats 0
/-! The pure half of k65: what any groups can be. -/
namespace K65
open PySem L2 G
def kM (r : Res D) : SE := fun _ _ => r
def sA (P1 : SE) : SS := (setS 2 (lcNM (seqM P1) (own_law_any_groups_0.map (·.2)) (.nm 5) yesM (callM listF (consM (varM 5) nilM))))
def sB (P2 P3 : SE) : SS := (parS 3 4 (consM P2 (consM P3 nilM)))
def s3 : SS := (ifS (boolM (op2M eqF (varM 3) (cM (.int 0)))) (setS 2 (op1M revF (varM 2))) nilS)
def s4 : SS := (ifS (boolM (op2M eqF (varM 3) (cM (.int 1)))) (subS (varM 2) (varM 4) (op1M revF (op2M ixF (varM 2) (varM 4)))) nilS)
def s5 (P4 : SE) : SS := (ifS (boolM (op2M eqF (varM 3) (cM (.int 2)))) (subS (varM 2) (varM 4) (op2M addF (op2M ixF (varM 2) (varM 4)) (lstM (consM P4 nilM)))) nilS)
def s6 : SS := (ifS (boolM (op2M eqF (varM 3) (cM (.int 3)))) (subS (varM 2) (varM 4) (cutM (op2M ixF (varM 2) (varM 4)) (someO (cM (.int 1))) noneO)) nilS)
def s7 : SS := (ifS (boolM (op2M eqF (varM 3) (cM (.int 4)))) (subS (varM 2) (varM 4) (lcM (seqM (op2M ixF (varM 2) (varM 4))) (own_law_any_groups_1.map (·.2)) (.nm 6) yesM (ifM (boolM (op2M ltF (varM 6) (cM (.int 2)))) (callM boolF (consM (varM 6) nilM)) (varM 6)))) nilS)
def s8 (P5 : SE) : SS := (ifS (boolM (op2M eqF (varM 3) (cM (.int 5)))) (sfrS 2 (retS P5)) nilS)
def s9 : SS := (ifS (boolM (op2M eqF (varM 3) (cM (.int 6)))) (setS 2 (op2M addF (varM 2) (cutM (varM 2) noneO (someO (cM (.int 1)))))) nilS)
def sZ : SS := (sfrS 2 (retS (callM tupleF (consM (lcM (seqM (varM 2)) (own_law_any_groups_3.map (·.2)) (.nm 5) yesM (callM tupleF (consM (varM 5) nilM))) nilM))))
def anyH (P1 P2 P3 : SE) (V T : SS) : SS := seqS (sA P1) (seqS (sB P2 P3) (seqS s3 (seqS s4 (seqS V T))))
def anyM (P1 P2 P3 P4 P5 : SE) : SS := anyH P1 P2 P3 (s5 P4) (seqS s6 (seqS s7 (seqS (s8 P5) (seqS s9 sZ))))
def A1 (F : List D → List SO → Res D) : SE := (callSM F (argN 2 (consM (varM 0) (consM (callPM f_law_states (argN 1 (consM (varM 1) nilM))) nilM))))
def A2 (F : List D → List SO → Res D) : SE := (callSM F (argN 2 (consM (varM 0) (consM (cM (.int 10)) nilM))))
def A3 (F : List D → List SO → Res D) : SE := (callSM F (argN 2 (consM (varM 0) (consM (callM lenF (consM (varM 2) nilM)) nilM))))
def A4 (F : List D → List SO → Res D) : SE := (callSM F (argN 2 (consM (varM 0) (consM (lstM (consM (cM (.int 0)) (consM (varM 1) (consM (op1M negF (cM (.int 1))) (consM (cM (.bl true)) (consM (cM .non) (consM (cM (.str "0")) nilM))))))) nilM))))
def A5 (F : List D → List SO → Res D) : SE := (callSM F (argN 2 (consM (varM 0) (consM (lstM (consM (varM 2) (consM (callM tupleF (consM (varM 2) nilM)) (consM (lcM (seqM (varM 2)) (own_law_any_groups_2.map (·.2)) (.nm 5) yesM (callM tupleF (consM (varM 5) nilM))) (consM (cM .non) (consM (varM 1) (consM (cM (.str "01")) (consM (tupM nilM) (consM (tupM (consM (tupM nilM) nilM)) (consM dicM (consM (tupM (consM (cM (.int 0)) nilM)) nilM))))))))))) nilM))))
def rz (r : SR) : Res D := match r with
  | .fl (.rt d) μ' => .ok d μ'
  | .fl (.nx _) μ' => .ok .non μ'
  | .exc c fs _ μ' => .exc c fs μ'
  | _ => .no
def r0 (m : Int) : G.Env := [some (.loc 0), some (.int m), none, none, none, none, none]
def r4 (m : Int) (n : Nat) (d2 d3 : Int) : G.Env := [some (.loc 0), some (.int m), some (.loc n), some (.int d2), some (.int d3), none, none]
def anyR (m : Int) (o : SO) (t : List SO) (P1 P2 P3 P4 P5 : SE) : Res D := rz (anyM P1 P2 P3 P4 P5 (r0 m) (o :: t))
theorem any_m : m_law_any_groups = anyM (A1 f_law_pick) (A2 f_law_draw) (A3 f_law_draw) (A4 f_law_pick) (A5 f_law_pick) := by kernel_rfl
theorem run_rz {n : Nat} {m : SS} {ds : List D} {μ : List SO} : runS n m ds μ = rz (m (startD n ds) μ) := rfl
theorem any0 {m : Int} {o : SO} {t : List SO} : f_law_any_groups [.loc 0, .int m] (o :: t) = anyR m o t (A1 f_law_pick) (A2 f_law_draw) (A3 f_law_draw) (A4 f_law_pick) (A5 f_law_pick) := by
  show runS 7 m_law_any_groups _ _ = _
  rw [any_m, run_rz]
  rfl
def itemsP : PR → List D
  | .ok (.lst xs) => xs
  | .ok (.tup xs) => xs
  | _ => []
def itemsT : D → List D
  | .lst xs => xs
  | .tup xs => xs
  | _ => []
def st (m : Int) : List D := itemsP (f_law_states [.int m])
def vS (m : Int) (d1 : Nat) : D := (st m).getD d1 .non
def gsD (m : Int) (d1 : Nat) : List D := (itemsT (vS m d1)).map fun g => .lst (itemsT g)
def i2 (m : Int) : List D := [.int 0, .int m, .int (-1), .bl true, .non, .str "0"]
def i5 (m : Int) (d1 : Nat) : List D := [.lst (gsD m d1), .tup (gsD m d1), .lst (itemsT (vS m d1)), .non, .int m, .str "01", .tup [], .tup [.tup []], .dic [], .tup [.int 0]]
mutual
def eqD : D → D → Bool
  | .non, .non => true
  | .bl a, .bl b => a == b
  | .int a, .int b => a == b
  | .str a, .str b => a == b
  | .tup a, .tup b => eqDs a b
  | .lst a, .lst b => eqDs a b
  | .dic a, .dic b => a.isEmpty && b.isEmpty
  | _, _ => false
def eqDs : List D → List D → Bool
  | [], [] => true
  | a :: as, b :: bs => eqD a b && eqDs as bs
  | _, _ => false
end
def allV : Int → List D
  | 1 => [D.tup [D.tup [D.int 0]], D.tup [D.tup []], D.tup [D.tup [D.bl false]], D.tup [D.tup [D.int 0], D.tup [D.int 0]], D.tup [D.tup [D.int 0, D.int 0]], D.tup [D.tup [D.int 0, D.int 1]]
    , D.tup [D.tup [D.int 0, D.int (-1)]], D.tup [D.tup [D.int 0, D.bl true]], D.tup [D.tup [D.int 0, D.non]], D.tup [D.tup [D.int 0, D.str "0"]], D.lst [D.lst [D.int 0]], D.tup [D.lst [D.int 0]]
    , D.lst [D.tup [D.int 0]], D.non, D.int 1, D.str "01", D.tup [], D.dic [], D.tup [D.int 0]]
  | 2 => [D.tup [D.tup [D.int 1], D.tup [D.int 0]], D.tup [D.tup [D.int 0], D.tup [D.int 1]], D.tup [D.tup [], D.tup [D.int 1]], D.tup [D.tup [D.int 0], D.tup []]
    , D.tup [D.tup [D.bl false], D.tup [D.int 1]], D.tup [D.tup [D.int 0], D.tup [D.bl true]], D.tup [D.tup [D.int 0], D.tup [D.int 1], D.tup [D.int 0]]
    , D.tup [D.tup [D.int 0, D.int 0], D.tup [D.int 1]], D.tup [D.tup [D.int 0, D.int 2], D.tup [D.int 1]], D.tup [D.tup [D.int 0, D.int (-1)], D.tup [D.int 1]]
    , D.tup [D.tup [D.int 0, D.bl true], D.tup [D.int 1]], D.tup [D.tup [D.int 0, D.non], D.tup [D.int 1]], D.tup [D.tup [D.int 0, D.str "0"], D.tup [D.int 1]]
    , D.tup [D.tup [D.int 0], D.tup [D.int 1, D.int 0]], D.tup [D.tup [D.int 0], D.tup [D.int 1, D.int 2]], D.tup [D.tup [D.int 0], D.tup [D.int 1, D.int (-1)]]
    , D.tup [D.tup [D.int 0], D.tup [D.int 1, D.bl true]], D.tup [D.tup [D.int 0], D.tup [D.int 1, D.non]], D.tup [D.tup [D.int 0], D.tup [D.int 1, D.str "0"]]
    , D.lst [D.lst [D.int 0], D.lst [D.int 1]], D.tup [D.lst [D.int 0], D.lst [D.int 1]], D.lst [D.tup [D.int 0], D.tup [D.int 1]], D.non, D.int 2, D.str "01", D.tup [], D.tup [D.tup []], D.dic []
    , D.tup [D.int 0], D.tup [D.tup [D.int 0, D.int 1]], D.tup [D.tup [D.int 1, D.int 0]], D.tup [D.tup [D.int 1]], D.tup [D.tup [D.bl false, D.bl true]]
    , D.tup [D.tup [D.int 0, D.int 1], D.tup [D.int 0, D.int 1]], D.tup [D.tup [D.int 0, D.int 1, D.int 0]], D.tup [D.tup [D.int 0, D.int 1, D.int 2]], D.tup [D.tup [D.int 0, D.int 1, D.int (-1)]]
    , D.tup [D.tup [D.int 0, D.int 1, D.bl true]], D.tup [D.tup [D.int 0, D.int 1, D.non]], D.tup [D.tup [D.int 0, D.int 1, D.str "0"]], D.lst [D.lst [D.int 0, D.int 1]]
    , D.tup [D.lst [D.int 0, D.int 1]], D.lst [D.tup [D.int 0, D.int 1]]]
  | 3 => [D.tup [D.tup [D.int 2], D.tup [D.int 1], D.tup [D.int 0]], D.tup [D.tup [D.int 0], D.tup [D.int 1], D.tup [D.int 2]], D.tup [D.tup [], D.tup [D.int 1], D.tup [D.int 2]]
    , D.tup [D.tup [D.int 0], D.tup [], D.tup [D.int 2]], D.tup [D.tup [D.int 0], D.tup [D.int 1], D.tup []], D.tup [D.tup [D.bl false], D.tup [D.int 1], D.tup [D.int 2]]
    , D.tup [D.tup [D.int 0], D.tup [D.bl true], D.tup [D.int 2]], D.tup [D.tup [D.int 0], D.tup [D.int 1], D.tup [D.int 2], D.tup [D.int 0]]
    , D.tup [D.tup [D.int 0, D.int 0], D.tup [D.int 1], D.tup [D.int 2]], D.tup [D.tup [D.int 0, D.int 3], D.tup [D.int 1], D.tup [D.int 2]]
    , D.tup [D.tup [D.int 0, D.int (-1)], D.tup [D.int 1], D.tup [D.int 2]], D.tup [D.tup [D.int 0, D.bl true], D.tup [D.int 1], D.tup [D.int 2]]
    , D.tup [D.tup [D.int 0, D.non], D.tup [D.int 1], D.tup [D.int 2]], D.tup [D.tup [D.int 0, D.str "0"], D.tup [D.int 1], D.tup [D.int 2]]
    , D.tup [D.tup [D.int 0], D.tup [D.int 1, D.int 0], D.tup [D.int 2]], D.tup [D.tup [D.int 0], D.tup [D.int 1, D.int 3], D.tup [D.int 2]]
    , D.tup [D.tup [D.int 0], D.tup [D.int 1, D.int (-1)], D.tup [D.int 2]], D.tup [D.tup [D.int 0], D.tup [D.int 1, D.bl true], D.tup [D.int 2]]
    , D.tup [D.tup [D.int 0], D.tup [D.int 1, D.non], D.tup [D.int 2]], D.tup [D.tup [D.int 0], D.tup [D.int 1, D.str "0"], D.tup [D.int 2]]
    , D.tup [D.tup [D.int 0], D.tup [D.int 1], D.tup [D.int 2, D.int 0]], D.tup [D.tup [D.int 0], D.tup [D.int 1], D.tup [D.int 2, D.int 3]]
    , D.tup [D.tup [D.int 0], D.tup [D.int 1], D.tup [D.int 2, D.int (-1)]], D.tup [D.tup [D.int 0], D.tup [D.int 1], D.tup [D.int 2, D.bl true]]
    , D.tup [D.tup [D.int 0], D.tup [D.int 1], D.tup [D.int 2, D.non]], D.tup [D.tup [D.int 0], D.tup [D.int 1], D.tup [D.int 2, D.str "0"]], D.lst [D.lst [D.int 0], D.lst [D.int 1], D.lst [D.int 2]]
    , D.tup [D.lst [D.int 0], D.lst [D.int 1], D.lst [D.int 2]], D.lst [D.tup [D.int 0], D.tup [D.int 1], D.tup [D.int 2]], D.non, D.int 3, D.str "01", D.tup [], D.tup [D.tup []], D.dic []
    , D.tup [D.int 0], D.tup [D.tup [D.int 1, D.int 2], D.tup [D.int 0]], D.tup [D.tup [D.int 0], D.tup [D.int 1, D.int 2]], D.tup [D.tup [D.int 0], D.tup [D.int 2, D.int 1]]
    , D.tup [D.tup [], D.tup [D.int 1, D.int 2]], D.tup [D.tup [D.int 0], D.tup [D.int 2]], D.tup [D.tup [D.bl false], D.tup [D.int 1, D.int 2]], D.tup [D.tup [D.int 0], D.tup [D.bl true, D.int 2]]
    , D.tup [D.tup [D.int 0], D.tup [D.int 1, D.int 2], D.tup [D.int 0]], D.tup [D.tup [D.int 0, D.int 0], D.tup [D.int 1, D.int 2]], D.tup [D.tup [D.int 0, D.int 3], D.tup [D.int 1, D.int 2]]
    , D.tup [D.tup [D.int 0, D.int (-1)], D.tup [D.int 1, D.int 2]], D.tup [D.tup [D.int 0, D.bl true], D.tup [D.int 1, D.int 2]], D.tup [D.tup [D.int 0, D.non], D.tup [D.int 1, D.int 2]]
    , D.tup [D.tup [D.int 0, D.str "0"], D.tup [D.int 1, D.int 2]], D.tup [D.tup [D.int 0], D.tup [D.int 1, D.int 2, D.int 0]], D.tup [D.tup [D.int 0], D.tup [D.int 1, D.int 2, D.int 3]]
    , D.tup [D.tup [D.int 0], D.tup [D.int 1, D.int 2, D.int (-1)]], D.tup [D.tup [D.int 0], D.tup [D.int 1, D.int 2, D.bl true]], D.tup [D.tup [D.int 0], D.tup [D.int 1, D.int 2, D.non]]
    , D.tup [D.tup [D.int 0], D.tup [D.int 1, D.int 2, D.str "0"]], D.lst [D.lst [D.int 0], D.lst [D.int 1, D.int 2]], D.tup [D.lst [D.int 0], D.lst [D.int 1, D.int 2]]
    , D.lst [D.tup [D.int 0], D.tup [D.int 1, D.int 2]], D.tup [D.tup [D.int 2], D.tup [D.int 0, D.int 1]], D.tup [D.tup [D.int 1, D.int 0], D.tup [D.int 2]]
    , D.tup [D.tup [D.int 0, D.int 1], D.tup [D.int 2]], D.tup [D.tup [D.int 1], D.tup [D.int 2]], D.tup [D.tup [D.int 0, D.int 1], D.tup []], D.tup [D.tup [D.bl false, D.bl true], D.tup [D.int 2]]
    , D.tup [D.tup [D.int 0, D.int 1], D.tup [D.int 2], D.tup [D.int 0, D.int 1]], D.tup [D.tup [D.int 0, D.int 1, D.int 0], D.tup [D.int 2]]
    , D.tup [D.tup [D.int 0, D.int 1, D.int 3], D.tup [D.int 2]], D.tup [D.tup [D.int 0, D.int 1, D.int (-1)], D.tup [D.int 2]], D.tup [D.tup [D.int 0, D.int 1, D.bl true], D.tup [D.int 2]]
    , D.tup [D.tup [D.int 0, D.int 1, D.non], D.tup [D.int 2]], D.tup [D.tup [D.int 0, D.int 1, D.str "0"], D.tup [D.int 2]], D.tup [D.tup [D.int 0, D.int 1], D.tup [D.int 2, D.int 0]]
    , D.tup [D.tup [D.int 0, D.int 1], D.tup [D.int 2, D.int 3]], D.tup [D.tup [D.int 0, D.int 1], D.tup [D.int 2, D.int (-1)]], D.tup [D.tup [D.int 0, D.int 1], D.tup [D.int 2, D.bl true]]
    , D.tup [D.tup [D.int 0, D.int 1], D.tup [D.int 2, D.non]], D.tup [D.tup [D.int 0, D.int 1], D.tup [D.int 2, D.str "0"]], D.lst [D.lst [D.int 0, D.int 1], D.lst [D.int 2]]
    , D.tup [D.lst [D.int 0, D.int 1], D.lst [D.int 2]], D.lst [D.tup [D.int 0, D.int 1], D.tup [D.int 2]], D.tup [D.tup [D.int 0, D.int 1, D.int 2]], D.tup [D.tup [D.int 2, D.int 1, D.int 0]]
    , D.tup [D.tup [D.int 1, D.int 2]], D.tup [D.tup [D.bl false, D.bl true, D.int 2]], D.tup [D.tup [D.int 0, D.int 1, D.int 2], D.tup [D.int 0, D.int 1, D.int 2]]
    , D.tup [D.tup [D.int 0, D.int 1, D.int 2, D.int 0]], D.tup [D.tup [D.int 0, D.int 1, D.int 2, D.int 3]], D.tup [D.tup [D.int 0, D.int 1, D.int 2, D.int (-1)]]
    , D.tup [D.tup [D.int 0, D.int 1, D.int 2, D.bl true]], D.tup [D.tup [D.int 0, D.int 1, D.int 2, D.non]], D.tup [D.tup [D.int 0, D.int 1, D.int 2, D.str "0"]]
    , D.lst [D.lst [D.int 0, D.int 1, D.int 2]], D.tup [D.lst [D.int 0, D.int 1, D.int 2]], D.lst [D.tup [D.int 0, D.int 1, D.int 2]], D.tup [D.tup [D.int 1], D.tup [D.int 0, D.int 2]]
    , D.tup [D.tup [D.int 2, D.int 0], D.tup [D.int 1]], D.tup [D.tup [D.int 0, D.int 2], D.tup [D.int 1]], D.tup [D.tup [D.int 2], D.tup [D.int 1]], D.tup [D.tup [D.int 0, D.int 2], D.tup []]
    , D.tup [D.tup [D.bl false, D.int 2], D.tup [D.int 1]], D.tup [D.tup [D.int 0, D.int 2], D.tup [D.bl true]], D.tup [D.tup [D.int 0, D.int 2], D.tup [D.int 1], D.tup [D.int 0, D.int 2]]
    , D.tup [D.tup [D.int 0, D.int 2, D.int 0], D.tup [D.int 1]], D.tup [D.tup [D.int 0, D.int 2, D.int 3], D.tup [D.int 1]], D.tup [D.tup [D.int 0, D.int 2, D.int (-1)], D.tup [D.int 1]]
    , D.tup [D.tup [D.int 0, D.int 2, D.bl true], D.tup [D.int 1]], D.tup [D.tup [D.int 0, D.int 2, D.non], D.tup [D.int 1]], D.tup [D.tup [D.int 0, D.int 2, D.str "0"], D.tup [D.int 1]]
    , D.tup [D.tup [D.int 0, D.int 2], D.tup [D.int 1, D.int 0]], D.tup [D.tup [D.int 0, D.int 2], D.tup [D.int 1, D.int 3]], D.tup [D.tup [D.int 0, D.int 2], D.tup [D.int 1, D.int (-1)]]
    , D.tup [D.tup [D.int 0, D.int 2], D.tup [D.int 1, D.bl true]], D.tup [D.tup [D.int 0, D.int 2], D.tup [D.int 1, D.non]], D.tup [D.tup [D.int 0, D.int 2], D.tup [D.int 1, D.str "0"]]
    , D.lst [D.lst [D.int 0, D.int 2], D.lst [D.int 1]], D.tup [D.lst [D.int 0, D.int 2], D.lst [D.int 1]], D.lst [D.tup [D.int 0, D.int 2], D.tup [D.int 1]]]
  | _ => []
def memD (v : D) (vs : List D) : Bool := vs.any (eqD v)
def FinB (m : Int) (n : Nat) (r : Res D) : Bool := match r with
  | .ok v μ => memD v (allV m) && below n v && Nat.ble n μ.length
  | _ => false
def FinS (n : Nat) (r : Res D) : List SO := match r with
  | .ok _ μ => μ.take n
  | _ => []
def ways : List Nat := [0, 1, 3, 4, 6, 7, 8, 9]
structure AF (m : Int) (d1 : Nat) (n : Nat) (t t2 : List SO) : Prop where
  e1 : ∀ F o P2 P3 P4 P5, anyR m o t (A1 F) P2 P3 P4 P5 = anyR m o t (kM (F [.loc 0, .lst (st m)] (o :: t))) P2 P3 P4 P5
  e2 : ∀ F o o1 P3 P4 P5, anyR m o t (kM (.ok (vS m d1) (o1 :: t))) (A2 F) P3 P4 P5 = anyR m o t (kM (.ok (vS m d1) (o1 :: t))) (kM (F [.loc 0, .int 10] (o1 :: (t ++ [.lst (gsD m d1)])))) P3 P4 P5
  e3 : ∀ F o o1 o2 d2 P4 P5, anyR m o t (kM (.ok (vS m d1) (o1 :: t))) (kM (.ok (.int d2) (o2 :: (t ++ [.lst (gsD m d1)])))) (A3 F) P4 P5 =
    anyR m o t (kM (.ok (vS m d1) (o1 :: t))) (kM (.ok (.int d2) (o2 :: (t ++ [.lst (gsD m d1)])))) (kM (F [.loc 0, .int (gsD m d1).length] (o2 :: (t ++ [.lst (gsD m d1)])))) P4 P5
  h4 : ∀ o o1 o2 o3 V T, (List.range (gsD m d1).length).map (fun (d3 : Nat) => anyH (kM (.ok (vS m d1) (o1 :: t))) (kM (.ok (.int 2) (o2 :: (t ++ [.lst (gsD m d1)])))) (kM (.ok (.int (d3 : Int)) (o3 :: (t ++ [.lst (gsD m d1)])))) V T (r0 m) (o :: t)) = (List.range (gsD m d1).length).map (fun (d3 : Nat) => (V (r4 m n 2 d3) (o3 :: (t ++ [.lst (gsD m d1)]))).then T)
  g4 : ∀ F o3, (List.range (gsD m d1).length).map (fun (d3 : Nat) => s5 (A4 F) (r4 m n 2 d3) (o3 :: (t ++ [.lst (gsD m d1)]))) = (List.range (gsD m d1).length).map (fun (d3 : Nat) => s5 (kM (F [.loc 0, .lst (i2 m)] (o3 :: (t ++ [.lst (gsD m d1)])))) (r4 m n 2 d3) (o3 :: (t ++ [.lst (gsD m d1)])))
  h5 : ∀ o o1 o2 o3 d3 P4 V T, anyH (kM (.ok (vS m d1) (o1 :: t))) (kM (.ok (.int 5) (o2 :: (t ++ [.lst (gsD m d1)])))) (kM (.ok (.int d3) (o3 :: (t ++ [.lst (gsD m d1)])))) (s5 P4) (seqS s6 (seqS s7 (seqS V T))) (r0 m) (o :: t) = (V (r4 m n 5 d3) (o3 :: (t ++ [.lst (gsD m d1)]))).then T
  g5 : ∀ F o3 d3, s8 (A5 F) (r4 m n 5 d3) (o3 :: (t ++ [.lst (gsD m d1)])) = s8 (kM (F [.loc 0, .lst (i5 m d1)] (o3 :: t2))) (r4 m n 5 d3) (o3 :: (t ++ [.lst (gsD m d1)]))
  b0 : ∀ o o1 o2 o3 P4 P5, (ways.all fun (d2 : Nat) => (List.range (gsD m d1).length).all fun (d3 : Nat) => FinB m n (anyR m o t (kM (.ok (vS m d1) (o1 :: t))) (kM (.ok (.int (d2 : Int)) (o2 :: (t ++ [.lst (gsD m d1)])))) (kM (.ok (.int (d3 : Int)) (o3 :: (t ++ [.lst (gsD m d1)])))) P4 P5)) = true
  s0 : ∀ o o1 o2 o3 P4 P5, (ways.map fun (d2 : Nat) => (List.range (gsD m d1).length).map fun (d3 : Nat) => FinS n (anyR m o t (kM (.ok (vS m d1) (o1 :: t))) (kM (.ok (.int (d2 : Int)) (o2 :: (t ++ [.lst (gsD m d1)])))) (kM (.ok (.int (d3 : Int)) (o3 :: (t ++ [.lst (gsD m d1)])))) P4 P5)) = ways.map fun _ => (List.range (gsD m d1).length).map fun _ => o3 :: t
  b2 : ∀ o o1 o2 o3 o4 P5, ((List.range (gsD m d1).length).all fun (d3 : Nat) => (i2 m).all fun x => FinB m n (anyR m o t (kM (.ok (vS m d1) (o1 :: t))) (kM (.ok (.int 2) (o2 :: (t ++ [.lst (gsD m d1)])))) (kM (.ok (.int (d3 : Int)) (o3 :: (t ++ [.lst (gsD m d1)])))) (kM (.ok x (o4 :: (t ++ [.lst (gsD m d1)])))) P5)) = true
  s2 : ∀ o o1 o2 o3 o4 P5, ((List.range (gsD m d1).length).map fun (d3 : Nat) => (i2 m).map fun x => FinS n (anyR m o t (kM (.ok (vS m d1) (o1 :: t))) (kM (.ok (.int 2) (o2 :: (t ++ [.lst (gsD m d1)])))) (kM (.ok (.int (d3 : Int)) (o3 :: (t ++ [.lst (gsD m d1)])))) (kM (.ok x (o4 :: (t ++ [.lst (gsD m d1)])))) P5)) = (List.range (gsD m d1).length).map fun _ => (i2 m).map fun _ => o4 :: t
  b5 : ∀ o o1 o2 o3 o4 d3 P4, ((i5 m d1).all fun x => FinB m n (anyR m o t (kM (.ok (vS m d1) (o1 :: t))) (kM (.ok (.int 5) (o2 :: (t ++ [.lst (gsD m d1)])))) (kM (.ok (.int d3) (o3 :: (t ++ [.lst (gsD m d1)])))) P4 (kM (.ok x (o4 :: t2))))) = true
  s55 : ∀ o o1 o2 o3 o4 d3 P4, ((i5 m d1).map fun x => FinS n (anyR m o t (kM (.ok (vS m d1) (o1 :: t))) (kM (.ok (.int 5) (o2 :: (t ++ [.lst (gsD m d1)])))) (kM (.ok (.int d3) (o3 :: (t ++ [.lst (gsD m d1)])))) P4 (kM (.ok x (o4 :: t2))))) = (i5 m d1).map fun _ => o4 :: t
end K65

set_option Elab.async false
set_option linter.all false
set_option maxRecDepth 100000
set_option maxHeartbeats 0
namespace K65
open PySem L2 G
/-! ### draws and picks from a bag -/
def Bg (c : Int) (o : SO) : Prop := ∃ cs a r, o = bag cs a r ∧ cs.length ≤ 63 ∧ 0 ≤ a ∧ a ≤ c ∧ 0 ≤ r
theorem draw_b {c k : Int} {o : SO} {t : List SO} (h : Bg c o) (hc : c ≤ 1000) (hk : 1 ≤ k) (hk2 : k < 1000) :
    ∃ (d : Nat) (o' : SO), f_law_draw [.loc 0, .int k] (o :: t) = .ok (.int (d : Int)) (o' :: t) ∧ (d : Int) < k ∧ Bg (c + 1) o' := by
  obtain ⟨cs, a, r, rfl, hl, ha, hac, hr⟩ := h
  obtain ⟨d, a', r', e, d0, d1, a0, a1, r0⟩ := draw (t := t) hl ha (by omega) hr hk hk2
  obtain ⟨n, rfl⟩ := Int.eq_ofNat_of_zero_le d0
  exact ⟨n, _, e, d1, _, _, _, rfl, hl, a0, by omega, r0⟩
theorem Bg.mono {c c' : Int} {o : SO} (h : Bg c o) (hc : c ≤ c') : Bg c' o := by
  obtain ⟨cs, a, r, e, hl, ha, hac, hr⟩ := h
  exact ⟨cs, a, r, e, hl, ha, by omega, hr⟩
theorem below_ints (n : Nat) : ∀ cs : List Int, belows n (cs.map .int) = true
  | [] => rfl
  | c :: cs => by rw [List.map_cons]; unfold belows; rw [below_ints n cs]; rfl
theorem Bg.below {c : Int} {o : SO} (h : Bg c o) (n : Nat) : belowO n o = true := by
  obtain ⟨cs, a, r, rfl, _⟩ := h
  have e := below_ints n cs
  unfold bag belowO belows
  show (G.below n (.lst (cs.map .int)) && _) = true
  unfold G.below
  rw [e]
  rfl
theorem atI_of {xs : List D} {d : Nat} (h : d < xs.length) : atI xs (d : Int) = some (xs.getD d .non) := by
  unfold atI ixN
  simp [h]
theorem pick_of {xs : List D} {o o' : SO} {t : List SO} {d : Nat} (e : f_law_draw [.loc 0, .int (xs.length : Int)] (o :: t) = .ok (.int (d : Int)) (o' :: t)) (h : d < xs.length) :
    f_law_pick [.loc 0, .lst xs] (o :: t) = .ok (xs.getD d .non) (o' :: t) := by
  have ha := atI_of h
  show rz ((retS (op2M ixF (varM 1) (callSM f_law_draw (argN 2 (consM (varM 0) (consM (callM lenF (consM (varM 1) nilM)) nilM)))))) [some (.loc 0), some (.lst xs)] (o :: t)) = _
  have e2 : (callSM f_law_draw (argN 2 (consM (varM 0) (consM (callM lenF (consM (varM 1) nilM)) nilM)))) [some (.loc 0), some (.lst xs)] (o :: t) = f_law_draw [.loc 0, .int (xs.length : Int)] (o :: t) := rfl
  have hv : varM 1 [some (.loc 0), some (.lst xs)] (o :: t) = .ok (.lst xs) (o :: t) := rfl
  unfold retS op2M
  rw [hv]
  show rz (Res.sbind (Res.bind (callSM f_law_draw (argN 2 (consM (varM 0) (consM (callM lenF (consM (varM 1) nilM)) nilM))) [some (.loc 0), some (.lst xs)] (o :: t)) fun y μ2 => optM (ixF μ2 (.lst xs) y) μ2) _ _) = _
  rw [e2, e]
  show rz (Res.sbind (optM (atI xs (d : Int)) (o' :: t)) _ _) = _
  rw [ha]
  rfl
theorem pick_b {c : Int} {o : SO} {t : List SO} {xs : List D} (h : Bg c o) (hc : c ≤ 1000) (hk : 1 ≤ xs.length) (hk2 : xs.length < 1000) :
    ∃ (d : Nat) (o' : SO), f_law_pick [.loc 0, .lst xs] (o :: t) = .ok (xs.getD d .non) (o' :: t) ∧ d < xs.length ∧ Bg (c + 1) o' := by
  obtain ⟨d, o', e, hd, hb⟩ := draw_b (t := t) (k := (xs.length : Int)) h hc (by omega) (by omega)
  exact ⟨d, o', pick_of e (by omega), by omega, hb⟩

/-! ### any groups -/
theorem map_at {α β : Type} {f g : α → β} {l : List α} (h : l.map f = l.map g) {x : α} (hx : x ∈ l) : f x = g x := List.map_inj_left.mp h x hx
theorem all_at {α : Type} {f : α → Bool} {l : List α} (h : l.all f = true) {x : α} (hx : x ∈ l) : f x = true := List.all_eq_true.mp h x hx
theorem eqD_ok : ∀ n : Nat, (∀ a b : D, sizeOf a < n → eqD a b = true → a = b) ∧ (∀ a b : List D, sizeOf a < n → eqDs a b = true → a = b)
  | 0 => ⟨fun _ _ z => absurd z (Nat.not_lt_zero _), fun _ _ z => absurd z (Nat.not_lt_zero _)⟩
  | n + 1 => by
    have ih := eqD_ok n
    constructor
    · intro a b hs h
      cases a with
      | tup x =>
        cases b with
        | tup y =>
          have hx : sizeOf x < n := by rw [D.tup.sizeOf_spec] at hs; omega
          rw [ih.2 x y hx h]
        | _ => exact Bool.noConfusion (show false = true from h)
      | lst x =>
        cases b with
        | lst y =>
          have hx : sizeOf x < n := by rw [D.lst.sizeOf_spec] at hs; omega
          rw [ih.2 x y hx h]
        | _ => exact Bool.noConfusion (show false = true from h)
      | dic x =>
        cases b with
        | dic y => cases x <;> cases y <;> first | rfl | exact Bool.noConfusion (show false = true from h)
        | _ => exact Bool.noConfusion (show false = true from h)
      | non => cases b <;> first | rfl | exact Bool.noConfusion (show false = true from h)
      | bl x => cases b <;> first | exact Bool.noConfusion (show false = true from h) | rw [beq_iff_eq.mp (show (x == _) = true from h)]
      | int x => cases b <;> first | exact Bool.noConfusion (show false = true from h) | rw [beq_iff_eq.mp (show (x == _) = true from h)]
      | str x => cases b <;> first | exact Bool.noConfusion (show false = true from h) | rw [beq_iff_eq.mp (show (x == _) = true from h)]
      | scr x => exact Bool.noConfusion (show false = true from h)
      | loc x => exact Bool.noConfusion (show false = true from h)
      | cls x => exact Bool.noConfusion (show false = true from h)
      | ty x => exact Bool.noConfusion (show false = true from h)
      | exn x y => exact Bool.noConfusion (show false = true from h)
    · intro a b hs h
      cases a with
      | nil => cases b with | nil => rfl | cons y ys => exact Bool.noConfusion (show false = true from h)
      | cons x xs =>
        cases b with
        | nil => exact Bool.noConfusion (show false = true from h)
        | cons y ys =>
          have h := Bool.and_eq_true_iff.mp (show (eqD x y && eqDs xs ys) = true from h)
          have hx : sizeOf x < n := by rw [List.cons.sizeOf_spec] at hs; omega
          have hy : sizeOf xs < n := by rw [List.cons.sizeOf_spec] at hs; omega
          rw [ih.1 x y hx h.1, ih.2 xs ys hy h.2]
theorem memD_ok {v : D} {vs : List D} (h : memD v vs = true) : v ∈ vs := by
  obtain ⟨w, hw, e⟩ := List.any_eq_true.mp h
  rw [(eqD_ok (sizeOf v + 1)).1 v w (Nat.lt_succ_self _) e]
  exact hw
theorem fin_of {m : Int} {n : Nat} {r : Res D} {o : SO} {t : List SO} (hb : FinB m n r = true) (hs : FinS n r = o :: t) (hB : (o :: t).all (belowO n) = true) : ∃ v, trim r n = .ok v (o :: t) ∧ v ∈ allV m := by
  cases r with
  | ok v μ =>
    unfold FinB at hb
    dsimp only at hb
    rw [Bool.and_eq_true, Bool.and_eq_true] at hb
    unfold FinS at hs
    dsimp only at hs
    refine ⟨v, ?_, memD_ok hb.1.1⟩
    unfold trim
    dsimp only
    rw [hs, hb.1.2, hb.2, hB]
    rfl
  | exc c fs μ => cases hb
  | no => cases hb
theorem any_case {m c : Int} {d1 n : Nat} {t t2 : List SO} {o o1 : SO} (A : AF m d1 n t t2) (hc : c ≤ 900) (hB : Bg c o1) (hk : 1 ≤ (gsD m d1).length) (hk2 : (gsD m d1).length < 1000) (h5 : (i5 m d1).length = 10) (hn : t.all (belowO n) = true) :
    ∃ v o', trim (anyR m o t (kM (.ok (vS m d1) (o1 :: t))) (A2 f_law_draw) (A3 f_law_draw) (A4 f_law_pick) (A5 f_law_pick)) n = .ok v (o' :: t) ∧ v ∈ allV m ∧ Bg (c + 3) o' := by
  obtain ⟨d2, o2, e2, k2, B2⟩ := draw_b (t := t ++ [.lst (gsD m d1)]) (k := 10) hB (by omega) (by decide) (by decide)
  obtain ⟨d3, o3, e3, k3, B3⟩ := draw_b (t := t ++ [.lst (gsD m d1)]) (k := ((gsD m d1).length : Int)) B2 (by omega) (by omega) (by omega)
  rw [A.e2, e2, A.e3, e3]
  have hd3 : d3 ∈ List.range (gsD m d1).length := List.mem_range.mpr (by omega)
  have hbt : ∀ {x : SO} {c' : Int}, Bg c' x → (x :: t).all (belowO n) = true := fun hx => by rw [List.all_cons, hx.below, hn]; rfl
  by_cases w2 : d2 = 2
  · subst w2
    obtain ⟨d4, o4, e4, k4, B4⟩ := pick_b (t := t ++ [.lst (gsD m d1)]) (xs := i2 m) B3 (by omega) (by show 1 ≤ 6; decide) (by show 6 < 1000; decide)
    have q : anyR m o t (kM (.ok (vS m d1) (o1 :: t))) (kM (.ok (.int ((2 : Nat) : Int)) (o2 :: (t ++ [.lst (gsD m d1)])))) (kM (.ok (.int (d3 : Int)) (o3 :: (t ++ [.lst (gsD m d1)])))) (A4 f_law_pick) (A5 f_law_pick) =
        anyR m o t (kM (.ok (vS m d1) (o1 :: t))) (kM (.ok (.int 2) (o2 :: (t ++ [.lst (gsD m d1)])))) (kM (.ok (.int (d3 : Int)) (o3 :: (t ++ [.lst (gsD m d1)])))) (kM (.ok ((i2 m).getD d4 .non) (o4 :: (t ++ [.lst (gsD m d1)])))) (A5 f_law_pick) := by
      unfold anyR anyM
      rw [← e4]
      congr 1
      refine (map_at (A.h4 o o1 o2 o3 _ _) hd3).trans (Eq.trans ?_ (map_at (A.h4 o o1 o2 o3 _ _) hd3).symm)
      rw [map_at (A.g4 f_law_pick o3) hd3]
    rw [q]
    have hx : (i2 m).getD d4 .non ∈ i2 m := by
      rw [List.getD_eq_getElem?_getD, List.getElem?_eq_getElem k4]
      exact List.getElem_mem _
    obtain ⟨v, e, hv⟩ := fin_of (all_at (all_at (A.b2 o o1 o2 o3 o4 (A5 f_law_pick)) hd3) hx) (map_at (map_at (A.s2 o o1 o2 o3 o4 (A5 f_law_pick)) hd3) hx) (hbt B4)
    exact ⟨v, o4, e, hv, B4.mono (by omega)⟩
  by_cases w5 : d2 = 5
  · subst w5
    obtain ⟨d4, o4, e4, k4, B4⟩ := pick_b (t := t2) (xs := i5 m d1) B3 (by omega) (by omega) (by omega)
    have q : anyR m o t (kM (.ok (vS m d1) (o1 :: t))) (kM (.ok (.int ((5 : Nat) : Int)) (o2 :: (t ++ [.lst (gsD m d1)])))) (kM (.ok (.int (d3 : Int)) (o3 :: (t ++ [.lst (gsD m d1)])))) (A4 f_law_pick) (A5 f_law_pick) =
        anyR m o t (kM (.ok (vS m d1) (o1 :: t))) (kM (.ok (.int 5) (o2 :: (t ++ [.lst (gsD m d1)])))) (kM (.ok (.int (d3 : Int)) (o3 :: (t ++ [.lst (gsD m d1)])))) (A4 f_law_pick) (kM (.ok ((i5 m d1).getD d4 .non) (o4 :: t2))) := by
      unfold anyR anyM
      rw [← e4]
      congr 1
      refine (A.h5 o o1 o2 o3 d3 _ _ _).trans (Eq.trans ?_ (A.h5 o o1 o2 o3 d3 _ _ _).symm)
      rw [A.g5 f_law_pick o3]
    rw [q]
    have hx : (i5 m d1).getD d4 .non ∈ i5 m d1 := by
      rw [List.getD_eq_getElem?_getD, List.getElem?_eq_getElem k4]
      exact List.getElem_mem _
    obtain ⟨v, e, hv⟩ := fin_of (all_at (A.b5 o o1 o2 o3 o4 d3 (A4 f_law_pick)) hx) (map_at (A.s55 o o1 o2 o3 o4 d3 (A4 f_law_pick)) hx) (hbt B4)
    exact ⟨v, o4, e, hv, B4.mono (by omega)⟩
  have hd2 : d2 ∈ ways := by
    have : d2 < 10 := by omega
    have h : ∀ d < 10, d ≠ 2 → d ≠ 5 → d ∈ ways := by decide
    exact h d2 this w2 w5
  obtain ⟨v, e, hv⟩ := fin_of (all_at (all_at (A.b0 o o1 o2 o3 (A4 f_law_pick) (A5 f_law_pick)) hd2) hd3) (map_at (map_at (A.s0 o o1 o2 o3 (A4 f_law_pick) (A5 f_law_pick)) hd2) hd3) (hbt B3)
  exact ⟨v, o3, e, hv, B3.mono (by omega)⟩
end K65

set_option Elab.async false
set_option linter.all false
set_option maxRecDepth 100000
set_option maxHeartbeats 0
namespace K65
open PySem L2 G
theorem af_1_0_0 : AF 1 0 1 [] [.dead] :=
  ⟨fun _ _ _ _ _ _ => by kernel_rfl, fun _ _ _ _ _ _ => by kernel_rfl, fun _ _ _ _ _ _ _ => by kernel_rfl, fun _ _ _ _ _ _ => by kernel_rfl, fun _ _ => by kernel_rfl, fun _ _ _ _ _ _ _ _ => by kernel_rfl, fun _ _ _ => by kernel_rfl,
   fun _ _ _ _ _ _ => by kernel_rfl, fun _ _ _ _ _ _ => by kernel_rfl, fun _ _ _ _ _ _ => by kernel_rfl, fun _ _ _ _ _ _ => by kernel_rfl, fun _ _ _ _ _ _ _ => by kernel_rfl, fun _ _ _ _ _ _ _ => by kernel_rfl⟩
theorem af_1_0_1 (x : SO) : AF 1 0 2 [x] [x, .dead] :=
  ⟨fun _ _ _ _ _ _ => by kernel_rfl, fun _ _ _ _ _ _ => by kernel_rfl, fun _ _ _ _ _ _ _ => by kernel_rfl, fun _ _ _ _ _ _ => by kernel_rfl, fun _ _ => by kernel_rfl, fun _ _ _ _ _ _ _ _ => by kernel_rfl, fun _ _ _ => by kernel_rfl,
   fun _ _ _ _ _ _ => by kernel_rfl, fun _ _ _ _ _ _ => by kernel_rfl, fun _ _ _ _ _ _ => by kernel_rfl, fun _ _ _ _ _ _ => by kernel_rfl, fun _ _ _ _ _ _ _ => by kernel_rfl, fun _ _ _ _ _ _ _ => by kernel_rfl⟩
theorem af_2_0_0 : AF 2 0 1 [] [.dead] :=
  ⟨fun _ _ _ _ _ _ => by kernel_rfl, fun _ _ _ _ _ _ => by kernel_rfl, fun _ _ _ _ _ _ _ => by kernel_rfl, fun _ _ _ _ _ _ => by kernel_rfl, fun _ _ => by kernel_rfl, fun _ _ _ _ _ _ _ _ => by kernel_rfl, fun _ _ _ => by kernel_rfl,
   fun _ _ _ _ _ _ => by kernel_rfl, fun _ _ _ _ _ _ => by kernel_rfl, fun _ _ _ _ _ _ => by kernel_rfl, fun _ _ _ _ _ _ => by kernel_rfl, fun _ _ _ _ _ _ _ => by kernel_rfl, fun _ _ _ _ _ _ _ => by kernel_rfl⟩
theorem af_2_0_1 (x : SO) : AF 2 0 2 [x] [x, .dead] :=
  ⟨fun _ _ _ _ _ _ => by kernel_rfl, fun _ _ _ _ _ _ => by kernel_rfl, fun _ _ _ _ _ _ _ => by kernel_rfl, fun _ _ _ _ _ _ => by kernel_rfl, fun _ _ => by kernel_rfl, fun _ _ _ _ _ _ _ _ => by kernel_rfl, fun _ _ _ => by kernel_rfl,
   fun _ _ _ _ _ _ => by kernel_rfl, fun _ _ _ _ _ _ => by kernel_rfl, fun _ _ _ _ _ _ => by kernel_rfl, fun _ _ _ _ _ _ => by kernel_rfl, fun _ _ _ _ _ _ _ => by kernel_rfl, fun _ _ _ _ _ _ _ => by kernel_rfl⟩
theorem af_2_1_0 : AF 2 1 1 [] [.dead] :=
  ⟨fun _ _ _ _ _ _ => by kernel_rfl, fun _ _ _ _ _ _ => by kernel_rfl, fun _ _ _ _ _ _ _ => by kernel_rfl, fun _ _ _ _ _ _ => by kernel_rfl, fun _ _ => by kernel_rfl, fun _ _ _ _ _ _ _ _ => by kernel_rfl, fun _ _ _ => by kernel_rfl,
   fun _ _ _ _ _ _ => by kernel_rfl, fun _ _ _ _ _ _ => by kernel_rfl, fun _ _ _ _ _ _ => by kernel_rfl, fun _ _ _ _ _ _ => by kernel_rfl, fun _ _ _ _ _ _ _ => by kernel_rfl, fun _ _ _ _ _ _ _ => by kernel_rfl⟩
theorem af_2_1_1 (x : SO) : AF 2 1 2 [x] [x, .dead] :=
  ⟨fun _ _ _ _ _ _ => by kernel_rfl, fun _ _ _ _ _ _ => by kernel_rfl, fun _ _ _ _ _ _ _ => by kernel_rfl, fun _ _ _ _ _ _ => by kernel_rfl, fun _ _ => by kernel_rfl, fun _ _ _ _ _ _ _ _ => by kernel_rfl, fun _ _ _ => by kernel_rfl,
   fun _ _ _ _ _ _ => by kernel_rfl, fun _ _ _ _ _ _ => by kernel_rfl, fun _ _ _ _ _ _ => by kernel_rfl, fun _ _ _ _ _ _ => by kernel_rfl, fun _ _ _ _ _ _ _ => by kernel_rfl, fun _ _ _ _ _ _ _ => by kernel_rfl⟩
theorem af_3_0_0 : AF 3 0 1 [] [.dead] :=
  ⟨fun _ _ _ _ _ _ => by kernel_rfl, fun _ _ _ _ _ _ => by kernel_rfl, fun _ _ _ _ _ _ _ => by kernel_rfl, fun _ _ _ _ _ _ => by kernel_rfl, fun _ _ => by kernel_rfl, fun _ _ _ _ _ _ _ _ => by kernel_rfl, fun _ _ _ => by kernel_rfl,
   fun _ _ _ _ _ _ => by kernel_rfl, fun _ _ _ _ _ _ => by kernel_rfl, fun _ _ _ _ _ _ => by kernel_rfl, fun _ _ _ _ _ _ => by kernel_rfl, fun _ _ _ _ _ _ _ => by kernel_rfl, fun _ _ _ _ _ _ _ => by kernel_rfl⟩
theorem af_3_0_1 (x : SO) : AF 3 0 2 [x] [x, .dead] :=
  ⟨fun _ _ _ _ _ _ => by kernel_rfl, fun _ _ _ _ _ _ => by kernel_rfl, fun _ _ _ _ _ _ _ => by kernel_rfl, fun _ _ _ _ _ _ => by kernel_rfl, fun _ _ => by kernel_rfl, fun _ _ _ _ _ _ _ _ => by kernel_rfl, fun _ _ _ => by kernel_rfl,
   fun _ _ _ _ _ _ => by kernel_rfl, fun _ _ _ _ _ _ => by kernel_rfl, fun _ _ _ _ _ _ => by kernel_rfl, fun _ _ _ _ _ _ => by kernel_rfl, fun _ _ _ _ _ _ _ => by kernel_rfl, fun _ _ _ _ _ _ _ => by kernel_rfl⟩
theorem af_3_1_0 : AF 3 1 1 [] [.dead] :=
  ⟨fun _ _ _ _ _ _ => by kernel_rfl, fun _ _ _ _ _ _ => by kernel_rfl, fun _ _ _ _ _ _ _ => by kernel_rfl, fun _ _ _ _ _ _ => by kernel_rfl, fun _ _ => by kernel_rfl, fun _ _ _ _ _ _ _ _ => by kernel_rfl, fun _ _ _ => by kernel_rfl,
   fun _ _ _ _ _ _ => by kernel_rfl, fun _ _ _ _ _ _ => by kernel_rfl, fun _ _ _ _ _ _ => by kernel_rfl, fun _ _ _ _ _ _ => by kernel_rfl, fun _ _ _ _ _ _ _ => by kernel_rfl, fun _ _ _ _ _ _ _ => by kernel_rfl⟩
theorem af_3_1_1 (x : SO) : AF 3 1 2 [x] [x, .dead] :=
  ⟨fun _ _ _ _ _ _ => by kernel_rfl, fun _ _ _ _ _ _ => by kernel_rfl, fun _ _ _ _ _ _ _ => by kernel_rfl, fun _ _ _ _ _ _ => by kernel_rfl, fun _ _ => by kernel_rfl, fun _ _ _ _ _ _ _ _ => by kernel_rfl, fun _ _ _ => by kernel_rfl,
   fun _ _ _ _ _ _ => by kernel_rfl, fun _ _ _ _ _ _ => by kernel_rfl, fun _ _ _ _ _ _ => by kernel_rfl, fun _ _ _ _ _ _ => by kernel_rfl, fun _ _ _ _ _ _ _ => by kernel_rfl, fun _ _ _ _ _ _ _ => by kernel_rfl⟩
theorem af_3_2_0 : AF 3 2 1 [] [.dead] :=
  ⟨fun _ _ _ _ _ _ => by kernel_rfl, fun _ _ _ _ _ _ => by kernel_rfl, fun _ _ _ _ _ _ _ => by kernel_rfl, fun _ _ _ _ _ _ => by kernel_rfl, fun _ _ => by kernel_rfl, fun _ _ _ _ _ _ _ _ => by kernel_rfl, fun _ _ _ => by kernel_rfl,
   fun _ _ _ _ _ _ => by kernel_rfl, fun _ _ _ _ _ _ => by kernel_rfl, fun _ _ _ _ _ _ => by kernel_rfl, fun _ _ _ _ _ _ => by kernel_rfl, fun _ _ _ _ _ _ _ => by kernel_rfl, fun _ _ _ _ _ _ _ => by kernel_rfl⟩
theorem af_3_2_1 (x : SO) : AF 3 2 2 [x] [x, .dead] :=
  ⟨fun _ _ _ _ _ _ => by kernel_rfl, fun _ _ _ _ _ _ => by kernel_rfl, fun _ _ _ _ _ _ _ => by kernel_rfl, fun _ _ _ _ _ _ => by kernel_rfl, fun _ _ => by kernel_rfl, fun _ _ _ _ _ _ _ _ => by kernel_rfl, fun _ _ _ => by kernel_rfl,
   fun _ _ _ _ _ _ => by kernel_rfl, fun _ _ _ _ _ _ => by kernel_rfl, fun _ _ _ _ _ _ => by kernel_rfl, fun _ _ _ _ _ _ => by kernel_rfl, fun _ _ _ _ _ _ _ => by kernel_rfl, fun _ _ _ _ _ _ _ => by kernel_rfl⟩
theorem af_3_3_0 : AF 3 3 1 [] [.dead] :=
  ⟨fun _ _ _ _ _ _ => by kernel_rfl, fun _ _ _ _ _ _ => by kernel_rfl, fun _ _ _ _ _ _ _ => by kernel_rfl, fun _ _ _ _ _ _ => by kernel_rfl, fun _ _ => by kernel_rfl, fun _ _ _ _ _ _ _ _ => by kernel_rfl, fun _ _ _ => by kernel_rfl,
   fun _ _ _ _ _ _ => by kernel_rfl, fun _ _ _ _ _ _ => by kernel_rfl, fun _ _ _ _ _ _ => by kernel_rfl, fun _ _ _ _ _ _ => by kernel_rfl, fun _ _ _ _ _ _ _ => by kernel_rfl, fun _ _ _ _ _ _ _ => by kernel_rfl⟩
theorem af_3_3_1 (x : SO) : AF 3 3 2 [x] [x, .dead] :=
  ⟨fun _ _ _ _ _ _ => by kernel_rfl, fun _ _ _ _ _ _ => by kernel_rfl, fun _ _ _ _ _ _ _ => by kernel_rfl, fun _ _ _ _ _ _ => by kernel_rfl, fun _ _ => by kernel_rfl, fun _ _ _ _ _ _ _ _ => by kernel_rfl, fun _ _ _ => by kernel_rfl,
   fun _ _ _ _ _ _ => by kernel_rfl, fun _ _ _ _ _ _ => by kernel_rfl, fun _ _ _ _ _ _ => by kernel_rfl, fun _ _ _ _ _ _ => by kernel_rfl, fun _ _ _ _ _ _ _ => by kernel_rfl, fun _ _ _ _ _ _ _ => by kernel_rfl⟩
theorem af_3_4_0 : AF 3 4 1 [] [.dead] :=
  ⟨fun _ _ _ _ _ _ => by kernel_rfl, fun _ _ _ _ _ _ => by kernel_rfl, fun _ _ _ _ _ _ _ => by kernel_rfl, fun _ _ _ _ _ _ => by kernel_rfl, fun _ _ => by kernel_rfl, fun _ _ _ _ _ _ _ _ => by kernel_rfl, fun _ _ _ => by kernel_rfl,
   fun _ _ _ _ _ _ => by kernel_rfl, fun _ _ _ _ _ _ => by kernel_rfl, fun _ _ _ _ _ _ => by kernel_rfl, fun _ _ _ _ _ _ => by kernel_rfl, fun _ _ _ _ _ _ _ => by kernel_rfl, fun _ _ _ _ _ _ _ => by kernel_rfl⟩
theorem af_3_4_1 (x : SO) : AF 3 4 2 [x] [x, .dead] :=
  ⟨fun _ _ _ _ _ _ => by kernel_rfl, fun _ _ _ _ _ _ => by kernel_rfl, fun _ _ _ _ _ _ _ => by kernel_rfl, fun _ _ _ _ _ _ => by kernel_rfl, fun _ _ => by kernel_rfl, fun _ _ _ _ _ _ _ _ => by kernel_rfl, fun _ _ _ => by kernel_rfl,
   fun _ _ _ _ _ _ => by kernel_rfl, fun _ _ _ _ _ _ => by kernel_rfl, fun _ _ _ _ _ _ => by kernel_rfl, fun _ _ _ _ _ _ => by kernel_rfl, fun _ _ _ _ _ _ _ => by kernel_rfl, fun _ _ _ _ _ _ _ => by kernel_rfl⟩
end K65

set_option Elab.async false
set_option linter.all false
set_option maxRecDepth 100000
set_option maxHeartbeats 0
namespace K65
open PySem L2 G
/-! ### the law and its half about finer ones, in pieces -/
def lB1 : SS := (setS 5 (callM tupleF (consM (callPM f_law_states (argN 1 (consM (varM 2) nilM))) nilM)))
def lB2 : SS := (ifS (orT (boolM (op2M neF (callM reprF (consM (callPM f_border_groupings (argN 1 (consM (varM 2) nilM))) nilM)) (callM reprF (consM (varM 5) nilM)))) (boolM (op2M neF (op2M ixF (callPM f_border_groupings (argN 1 (kwM 0 1 [0] nilM (consM (varM 2) nilM)))) (cM (.int 0))) (callM tupleF (consM (lcM (rangeM1 (consM (varM 2) nilM)) (own_law_0.map (·.2)) (.nm 9) yesM (tupM (consM (varM 9) nilM))) nilM))))) (retS (cM (.bl false))) nilS)
def lC : SS := (ifS (boolM (op2M neF (callM reprF (consM (callPM f_is_border_grouping (argN 2 (consM (varM 2) (consM (varM 7) nilM)))) nilM)) (callM reprF (consM (callPM f_law_is_grouping (argN 2 (consM (varM 2) (consM (varM 7) nilM)))) nilM)))) (retS (cM (.bl false))) nilS)
def lB4 : SS := (ifS (boolM (op2M neF (lcM (seqM (varM 5)) (own_law_1.map (·.2)) (.nm 8) (boolM (op2M isNotF (callPM f_is_border_grouping (argN 2 (kwM 0 2 [1, 0] nilM (consM (varM 8) (consM (varM 2) nilM))))) (cM (.bl true)))) (varM 8)) (lstM nilM))) (retS (cM (.bl false))) nilS)
def lAny : SE := (trimM (callSM f_law_any_groups (argN 2 (consM (varM 1) (consM (varM 2) nilM)))))
def lIn : SS := seqS (setS 7 lAny) lC
def lBody : SS := seqS lB1 (seqS lB2 (seqS (forS (.nm 6) (rangeM1 (consM (cM (.int 8)) nilM)) lIn) lB4))
def lOdd : SE := (callSM f_law_pick (argN 2 (consM (varM 1) (consM (lstM (consM (cM (.int 0)) (consM (cM (.int 4)) (consM (op1M negF (cM (.int 1))) (consM (cM (.bl true)) (consM (cM .non) (consM (cM (.str "2")) (consM (lstM (consM (cM (.int 2)) nilM)) (consM (op2M powF (cM (.int 10)) (cM (.int 30))) nilM))))))))) nilM))))
def lH1 : SE := (heardM 4 2 3 okG m_law_heard_rest (callPM f_border_groupings (argN 1 (consM (varM 3) nilM))))
def lH2 : SE := (heardM 4 2 3 okG m_law_heard_rest (callPM f_is_border_grouping (argN 2 (consM (varM 3) (consM (cM .non) nilM)))))
def lEq : SE := (op2M eqF (varM 4) (op2M mulF (lstM (consM (tupM (consM (cM (.str "number")) (consM (cM (.str "many")) nilM))) nilM)) (cM (.int 2))))
def lFin : SE := (callSM f_law_finer_right (argN 1 (consM (varM 1) nilM)))
def lBag : SE := (callSM f_law_bag (argN 1 (consM (varM 0) nilM)))
theorem law_m : m_law = seqS (setS 1 lBag) (seqS (forS (.nm 2) (seqM (tupM (consM (cM (.int 1)) (consM (cM (.int 2)) (consM (cM (.int 3)) nilM))))) lBody) (seqS (setS 3 lOdd) (seqS (setS 4 (newM (consM (trimM lH1) nilM))) (seqS (dropS (appM (varM 4) (consM (trimM lH2) nilM))) (retS (andM lEq lFin)))))) := by kernel_rfl
-- finer 7
-- (parS 4 5 (consM (callSM f_law_pick (argN 2 (consM (varM 0) (consM (lstM (consM (cM (.int 1)) (consM (cM (.int 2)) (consM (cM (.int 3)) (consM (cM (.i
-- (forS (.nm 1) (rangeM1 (consM (cM (.int 6)) nilM)) (seqS (tgtS (.tp [7, 3]) (tupM (consM (callSM f_law_pick (argN 2 (consM (varM 0) (consM (callPM f_l
-- (setS 2 (trimM (callSM f_law_any_groups (argN 2 (consM (varM 0) (consM (varM 4) nilM))))))
-- (ifS (boolM (op2M eqF (lcM (seqM (tupM (consM (cM (.int 1)) (consM (cM (.int 2)) (consM (cM (.int 3)) nilM))))) (own_law_finer_right_0.map (·.2)) (.nm
-- (setS 3 (tupM (consM (tupM (consM (cM (.int 0)) nilM)) (consM (tupM (consM (cM (.int 1)) nilM)) (consM (tupM (consM (cM (.int 2)) nilM)) (consM (tupM 
-- (ifS (boolM (op2M neF (trimM (heardM 4 2 3 okG m_law_heard_rest (callPM f_is_finer (argN 2 (consM (varM 3) (consM (tupM nilM) nilM)))))) (tupM (consM 
-- (retS (op2M eqF (trimM (heardM 4 2 3 okG m_law_heard_rest (callPM f_is_finer (argN 2 (consM (tupM (consM (tupM (consM (cM (.int 0)) (consM (cM (.int 1
def gPar : SM (List D) := (consM (callSM f_law_pick (argN 2 (consM (varM 0) (consM (lstM (consM (cM (.int 1)) (consM (cM (.int 2)) (consM (cM (.int 3)) (consM (cM (.int 3)) nilM))))) nilM)))) (consM (callSM f_law_pick (argN 2 (consM (varM 0) (consM (lstM (consM (cM (.int 1)) (consM (cM (.int 2)) (consM (cM (.int 3)) (consM (cM (.int 3)) nilM))))) nilM)))) nilM))
def gTup : SE := (tupM (consM (callSM f_law_pick (argN 2 (consM (varM 0) (consM (callPM f_law_states (argN 1 (consM (varM 4) nilM))) nilM)))) (consM (callSM f_law_pick (argN 2 (consM (varM 0) (consM (callPM f_law_states (argN 1 (consM (varM 5) nilM))) nilM)))) nilM)))
def gC : SS := (ifS (orT (boolM (op2M neF (callM reprF (consM (callPM f_is_finer (argN 2 (consM (varM 7) (consM (varM 3) nilM)))) nilM)) (callM reprF (consM (callPM f_law_is_finer (argN 2 (consM (varM 7) (consM (varM 3) nilM)))) nilM)))) (boolM (op2M isNotF (callPM f_is_finer (argN 2 (kwM 0 2 [1, 0] nilM (consM (varM 7) (consM (varM 7) nilM))))) (cM (.bl true))))) (retS (cM (.bl false))) nilS)
def gIn : SS := seqS (tgtS (.tp [7, 3]) gTup) gC
def gAny : SE := (trimM (callSM f_law_any_groups (argN 2 (consM (varM 0) (consM (varM 4) nilM)))))
def gCond : SM Bool := (boolM (op2M eqF (lcM (seqM (tupM (consM (cM (.int 1)) (consM (cM (.int 2)) (consM (cM (.int 3)) nilM))))) (own_law_finer_right_0.map (·.2)) (.nm 8) (truM (callPM f_law_is_grouping (argN 2 (consM (varM 8) (consM (varM 2) nilM))))) (varM 8)) (lstM nilM)))
def gK1 : SE := (heardM 4 2 3 okG m_law_heard_rest (callPM f_is_finer (argN 2 (consM (varM 2) (consM (varM 2) nilM)))))
def gK2 : SE := (heardM 4 2 3 okG m_law_heard_rest (callPM f_is_finer (argN 2 (consM (tupM (consM (tupM (consM (cM (.int 0)) nilM)) nilM)) (consM (varM 2) nilM)))))
def gK3 : SE := (heardM 4 2 3 okG m_law_heard_rest (callPM f_is_finer (argN 2 (consM (varM 2) (consM (tupM (consM (tupM (consM (cM (.int 0)) nilM)) nilM)) nilM)))))
def gG4 : SS := (ifS (boolM (op2M neF (varM 6) (lstM (consM (tupM (consM (cM (.str "border")) (consM (cM (.str "one")) nilM))) (consM (tupM (consM (cM (.str "border")) (consM (cM (.str "other")) nilM))) (consM (tupM (consM (cM (.str "border")) (consM (cM (.str "one")) nilM))) nilM)))))) (retS (cM (.bl false))) nilS)
def gBad : SS := seqS (setS 6 (newM (consM (trimM gK1) nilM))) (seqS (dropS (appM (varM 6) (consM (trimM gK2) nilM))) (seqS (dropS (appM (varM 6) (consM (trimM gK3) nilM))) gG4))
def gW : SS := (setS 3 (tupM (consM (tupM (consM (cM (.int 0)) nilM)) (consM (tupM (consM (cM (.int 1)) nilM)) (consM (tupM (consM (cM (.int 2)) nilM)) (consM (tupM (consM (cM (.int 3)) nilM)) nilM))))))
def gK4 : SE := (heardM 4 2 3 okG m_law_heard_rest (callPM f_is_finer (argN 2 (consM (varM 3) (consM (tupM nilM) nilM)))))
def gE4 : SE := (tupM (consM (cM (.str "border")) (consM (cM (.str "one")) nilM)))
def gK5 : SE := (heardM 4 2 3 okG m_law_heard_rest (callPM f_is_finer (argN 2 (consM (tupM (consM (tupM (consM (cM (.int 0)) (consM (cM (.int 1)) nilM))) nilM)) (consM (varM 3) nilM)))))
def gE5 : SE := (tupM (consM (cM (.str "border")) (consM (cM (.str "other")) nilM)))
theorem fin_m : m_law_finer_right = seqS (parS 4 5 gPar) (seqS (forS (.nm 1) (rangeM1 (consM (cM (.int 6)) nilM)) gIn) (seqS (setS 2 gAny) (seqS (ifS gCond gBad nilS) (seqS gW (seqS (ifS (boolM (op2M neF (trimM gK4) gE4)) (retS (cM (.bl false))) nilS) (retS (op2M eqF (trimM gK5) gE5))))))) := by kernel_rfl
end K65

set_option Elab.async false
set_option linter.all false
set_option maxRecDepth 100000
set_option maxHeartbeats 0
namespace K65
open PySem L2 G
/-! ### checks by the kernel -/
def rL (sc x3 x4 x5 x6 x7 x8 x9 : Option D) (m : Int) : G.Env := [sc, some (.loc 0), some (.int m), x3, x4, x5, x6, x7, x8, x9]
def rF (x1 x2 x3 x6 x7 x8 : Option D) (a b : Int) : G.Env := [some (.loc 0), x1, x2, x3, some (.int a), some (.int b), x6, x7, x8]
def triB (n : Nat) (r : Res D) : Bool := match r with
  | .ok v μ => below n v && Nat.ble n μ.length
  | _ => false
def valsR (r : Res D) : List D := match r with
  | .ok v _ => [v]
  | _ => []
def tri (n : Nat) (r : Res D) : Bool × List D × List SO := (triB n r, valsR r, FinS n r)
def goodD (v : D) : Bool := memD v (st 1 ++ st 2 ++ st 3)
def badV (a : Int) : List D := (allV a).filter fun v => !goodD v
def goodV (a : Int) : List D := (allV a).filter goodD
def oddL : List D := [.int 0, .int 4, .int (-1), .bl true, .non, .str "2", .lst [.int 2], .int (10 ^ 30)]
def wNum : D := .tup [.str "number", .str "many"]
def wOne : D := .tup [.str "border", .str "one"]
def wOther : D := .tup [.str "border", .str "other"]
def wideD : D := .tup [.tup [.int 0], .tup [.int 1], .tup [.int 2], .tup [.int 3]]
theorem cC_1 : ∀ sc x3 x4 x5 x6 x8 x9 o, (allV 1).map (fun v => lC (rL sc x3 x4 x5 x6 (some v) x8 x9 1) [o]) = (allV 1).map (fun v => .fl (.nx (rL sc x3 x4 x5 x6 (some v) x8 x9 1)) [o]) := fun _ _ _ _ _ _ _ _ => by kernel_rfl
theorem cB1_1 : ∀ sc x3 x4 x5 x6 x7 x8 x9 o, lB1 (rL sc x3 x4 x5 x6 x7 x8 x9 1) [o] = .fl (.nx (rL sc x3 x4 (some (.tup (st 1))) x6 x7 x8 x9 1)) [o] := fun _ _ _ _ _ _ _ _ _ => by kernel_rfl
theorem cB2_1 : ∀ sc x3 x4 x6 x7 x8 x9 o, lB2 (rL sc x3 x4 (some (.tup (st 1))) x6 x7 x8 x9 1) [o] = .fl (.nx (rL sc x3 x4 (some (.tup (st 1))) x6 x7 x8 x9 1)) [o] := fun _ _ _ _ _ _ _ _ => by kernel_rfl
theorem cB4_1 : ∀ sc x3 x4 x6 x7 x8 x9 o, lB4 (rL sc x3 x4 (some (.tup (st 1))) x6 x7 x8 x9 1) [o] = .fl (.nx (rL sc x3 x4 (some (.tup (st 1))) x6 x7 x8 x9 1)) [o] := fun _ _ _ _ _ _ _ _ => by kernel_rfl
theorem cC_2 : ∀ sc x3 x4 x5 x6 x8 x9 o, (allV 2).map (fun v => lC (rL sc x3 x4 x5 x6 (some v) x8 x9 2) [o]) = (allV 2).map (fun v => .fl (.nx (rL sc x3 x4 x5 x6 (some v) x8 x9 2)) [o]) := fun _ _ _ _ _ _ _ _ => by kernel_rfl
theorem cB1_2 : ∀ sc x3 x4 x5 x6 x7 x8 x9 o, lB1 (rL sc x3 x4 x5 x6 x7 x8 x9 2) [o] = .fl (.nx (rL sc x3 x4 (some (.tup (st 2))) x6 x7 x8 x9 2)) [o] := fun _ _ _ _ _ _ _ _ _ => by kernel_rfl
theorem cB2_2 : ∀ sc x3 x4 x6 x7 x8 x9 o, lB2 (rL sc x3 x4 (some (.tup (st 2))) x6 x7 x8 x9 2) [o] = .fl (.nx (rL sc x3 x4 (some (.tup (st 2))) x6 x7 x8 x9 2)) [o] := fun _ _ _ _ _ _ _ _ => by kernel_rfl
theorem cB4_2 : ∀ sc x3 x4 x6 x7 x8 x9 o, lB4 (rL sc x3 x4 (some (.tup (st 2))) x6 x7 x8 x9 2) [o] = .fl (.nx (rL sc x3 x4 (some (.tup (st 2))) x6 x7 x8 x9 2)) [o] := fun _ _ _ _ _ _ _ _ => by kernel_rfl
theorem cC_3 : ∀ sc x3 x4 x5 x6 x8 x9 o, (allV 3).map (fun v => lC (rL sc x3 x4 x5 x6 (some v) x8 x9 3) [o]) = (allV 3).map (fun v => .fl (.nx (rL sc x3 x4 x5 x6 (some v) x8 x9 3)) [o]) := fun _ _ _ _ _ _ _ _ => by kernel_rfl
theorem cB1_3 : ∀ sc x3 x4 x5 x6 x7 x8 x9 o, lB1 (rL sc x3 x4 x5 x6 x7 x8 x9 3) [o] = .fl (.nx (rL sc x3 x4 (some (.tup (st 3))) x6 x7 x8 x9 3)) [o] := fun _ _ _ _ _ _ _ _ _ => by kernel_rfl
theorem cB2_3 : ∀ sc x3 x4 x6 x7 x8 x9 o, lB2 (rL sc x3 x4 (some (.tup (st 3))) x6 x7 x8 x9 3) [o] = .fl (.nx (rL sc x3 x4 (some (.tup (st 3))) x6 x7 x8 x9 3)) [o] := fun _ _ _ _ _ _ _ _ => by kernel_rfl
theorem cB4_3 : ∀ sc x3 x4 x6 x7 x8 x9 o, lB4 (rL sc x3 x4 (some (.tup (st 3))) x6 x7 x8 x9 3) [o] = .fl (.nx (rL sc x3 x4 (some (.tup (st 3))) x6 x7 x8 x9 3)) [o] := fun _ _ _ _ _ _ _ _ => by kernel_rfl
theorem cH1 : ∀ sc x4 x5 x6 x7 x8 x9 o, oddL.map (fun d => tri 1 (lH1 (rL sc (some d) x4 x5 x6 x7 x8 x9 3) [o])) = oddL.map fun _ => (true, [wNum], [o]) := fun _ _ _ _ _ _ _ _ => by kernel_rfl
theorem cH2 : ∀ sc x5 x6 x7 x8 x9 o, oddL.map (fun d => tri 2 (lH2 (rL sc (some d) (some (.loc 1)) x5 x6 x7 x8 x9 3) [o, .lst [wNum]])) = oddL.map fun _ => (true, [wNum], [o, .lst [wNum]]) := fun _ _ _ _ _ _ _ => by kernel_rfl
theorem cEq : ∀ sc x3 x5 x6 x7 x8 x9 o, lEq (rL sc x3 (some (.loc 1)) x5 x6 x7 x8 x9 3) [o, .lst [wNum, wNum]] = .ok (.bl true) [o, .lst [wNum, wNum]] := fun _ _ _ _ _ _ _ _ => by kernel_rfl
theorem cF_1_1 : ∀ x1 x2 x6 x8 o t, (st 1).map (fun f => (st 1).map fun w => gC (rF x1 x2 (some w) x6 (some f) x8 1 1) [o, t]) = (st 1).map fun f => (st 1).map fun w => .fl (.nx (rF x1 x2 (some w) x6 (some f) x8 1 1)) [o, t] := fun _ _ _ _ _ _ => by kernel_rfl
theorem cF_1_2 : ∀ x1 x2 x6 x8 o t, (st 1).map (fun f => (st 2).map fun w => gC (rF x1 x2 (some w) x6 (some f) x8 1 2) [o, t]) = (st 1).map fun f => (st 2).map fun w => .fl (.nx (rF x1 x2 (some w) x6 (some f) x8 1 2)) [o, t] := fun _ _ _ _ _ _ => by kernel_rfl
theorem cF_1_3 : ∀ x1 x2 x6 x8 o t, (st 1).map (fun f => (st 3).map fun w => gC (rF x1 x2 (some w) x6 (some f) x8 1 3) [o, t]) = (st 1).map fun f => (st 3).map fun w => .fl (.nx (rF x1 x2 (some w) x6 (some f) x8 1 3)) [o, t] := fun _ _ _ _ _ _ => by kernel_rfl
theorem cG0_1 : ∀ x1 x3 x6 x7 x8 b o t, (goodV 1).map (fun v => gCond (rF x1 (some v) x3 x6 x7 x8 1 b) [o, t]) = (goodV 1).map fun _ => .ok false [o, t] := fun _ _ _ _ _ _ _ _ => by kernel_rfl
theorem cG1_1 : ∀ x1 x3 x6 x7 x8 b o t, (badV 1).map (fun v => gCond (rF x1 (some v) x3 x6 x7 x8 1 b) [o, t]) = (badV 1).map fun _ => .ok true [o, t] := fun _ _ _ _ _ _ _ _ => by kernel_rfl
theorem cK1_1 : ∀ x1 x3 x6 x7 x8 b o t, (badV 1).map (fun v => tri 2 (gK1 (rF x1 (some v) x3 x6 x7 x8 1 b) [o, t])) = (badV 1).map fun _ => (true, [wOne], [o, t]) := fun _ _ _ _ _ _ _ _ => by kernel_rfl
theorem cK2_1 : ∀ x1 x3 x6 x7 x8 b o t s, (badV 1).map (fun v => tri 3 (gK2 (rF x1 (some v) x3 x6 x7 x8 1 b) [o, t, s])) = (badV 1).map fun _ => (true, [wOther], [o, t, s]) := fun _ _ _ _ _ _ _ _ _ => by kernel_rfl
theorem cK3_1 : ∀ x1 x3 x6 x7 x8 b o t s, (badV 1).map (fun v => tri 3 (gK3 (rF x1 (some v) x3 x6 x7 x8 1 b) [o, t, s])) = (badV 1).map fun _ => (true, [wOne], [o, t, s]) := fun _ _ _ _ _ _ _ _ _ => by kernel_rfl
theorem cF_2_1 : ∀ x1 x2 x6 x8 o t, (st 2).map (fun f => (st 1).map fun w => gC (rF x1 x2 (some w) x6 (some f) x8 2 1) [o, t]) = (st 2).map fun f => (st 1).map fun w => .fl (.nx (rF x1 x2 (some w) x6 (some f) x8 2 1)) [o, t] := fun _ _ _ _ _ _ => by kernel_rfl
theorem cF_2_2 : ∀ x1 x2 x6 x8 o t, (st 2).map (fun f => (st 2).map fun w => gC (rF x1 x2 (some w) x6 (some f) x8 2 2) [o, t]) = (st 2).map fun f => (st 2).map fun w => .fl (.nx (rF x1 x2 (some w) x6 (some f) x8 2 2)) [o, t] := fun _ _ _ _ _ _ => by kernel_rfl
theorem cF_2_3 : ∀ x1 x2 x6 x8 o t, (st 2).map (fun f => (st 3).map fun w => gC (rF x1 x2 (some w) x6 (some f) x8 2 3) [o, t]) = (st 2).map fun f => (st 3).map fun w => .fl (.nx (rF x1 x2 (some w) x6 (some f) x8 2 3)) [o, t] := fun _ _ _ _ _ _ => by kernel_rfl
theorem cG0_2 : ∀ x1 x3 x6 x7 x8 b o t, (goodV 2).map (fun v => gCond (rF x1 (some v) x3 x6 x7 x8 2 b) [o, t]) = (goodV 2).map fun _ => .ok false [o, t] := fun _ _ _ _ _ _ _ _ => by kernel_rfl
theorem cG1_2 : ∀ x1 x3 x6 x7 x8 b o t, (badV 2).map (fun v => gCond (rF x1 (some v) x3 x6 x7 x8 2 b) [o, t]) = (badV 2).map fun _ => .ok true [o, t] := fun _ _ _ _ _ _ _ _ => by kernel_rfl
theorem cK1_2 : ∀ x1 x3 x6 x7 x8 b o t, (badV 2).map (fun v => tri 2 (gK1 (rF x1 (some v) x3 x6 x7 x8 2 b) [o, t])) = (badV 2).map fun _ => (true, [wOne], [o, t]) := fun _ _ _ _ _ _ _ _ => by kernel_rfl
theorem cK2_2 : ∀ x1 x3 x6 x7 x8 b o t s, (badV 2).map (fun v => tri 3 (gK2 (rF x1 (some v) x3 x6 x7 x8 2 b) [o, t, s])) = (badV 2).map fun _ => (true, [wOther], [o, t, s]) := fun _ _ _ _ _ _ _ _ _ => by kernel_rfl
theorem cK3_2 : ∀ x1 x3 x6 x7 x8 b o t s, (badV 2).map (fun v => tri 3 (gK3 (rF x1 (some v) x3 x6 x7 x8 2 b) [o, t, s])) = (badV 2).map fun _ => (true, [wOne], [o, t, s]) := fun _ _ _ _ _ _ _ _ _ => by kernel_rfl
theorem cF_3_1 : ∀ x1 x2 x6 x8 o t, (st 3).map (fun f => (st 1).map fun w => gC (rF x1 x2 (some w) x6 (some f) x8 3 1) [o, t]) = (st 3).map fun f => (st 1).map fun w => .fl (.nx (rF x1 x2 (some w) x6 (some f) x8 3 1)) [o, t] := fun _ _ _ _ _ _ => by kernel_rfl
theorem cF_3_2 : ∀ x1 x2 x6 x8 o t, (st 3).map (fun f => (st 2).map fun w => gC (rF x1 x2 (some w) x6 (some f) x8 3 2) [o, t]) = (st 3).map fun f => (st 2).map fun w => .fl (.nx (rF x1 x2 (some w) x6 (some f) x8 3 2)) [o, t] := fun _ _ _ _ _ _ => by kernel_rfl
theorem cF_3_3 : ∀ x1 x2 x6 x8 o t, (st 3).map (fun f => (st 3).map fun w => gC (rF x1 x2 (some w) x6 (some f) x8 3 3) [o, t]) = (st 3).map fun f => (st 3).map fun w => .fl (.nx (rF x1 x2 (some w) x6 (some f) x8 3 3)) [o, t] := fun _ _ _ _ _ _ => by kernel_rfl
theorem cG0_3 : ∀ x1 x3 x6 x7 x8 b o t, (goodV 3).map (fun v => gCond (rF x1 (some v) x3 x6 x7 x8 3 b) [o, t]) = (goodV 3).map fun _ => .ok false [o, t] := fun _ _ _ _ _ _ _ _ => by kernel_rfl
theorem cG1_3 : ∀ x1 x3 x6 x7 x8 b o t, (badV 3).map (fun v => gCond (rF x1 (some v) x3 x6 x7 x8 3 b) [o, t]) = (badV 3).map fun _ => .ok true [o, t] := fun _ _ _ _ _ _ _ _ => by kernel_rfl
theorem cK1_3 : ∀ x1 x3 x6 x7 x8 b o t, (badV 3).map (fun v => tri 2 (gK1 (rF x1 (some v) x3 x6 x7 x8 3 b) [o, t])) = (badV 3).map fun _ => (true, [wOne], [o, t]) := fun _ _ _ _ _ _ _ _ => by kernel_rfl
theorem cK2_3 : ∀ x1 x3 x6 x7 x8 b o t s, (badV 3).map (fun v => tri 3 (gK2 (rF x1 (some v) x3 x6 x7 x8 3 b) [o, t, s])) = (badV 3).map fun _ => (true, [wOther], [o, t, s]) := fun _ _ _ _ _ _ _ _ _ => by kernel_rfl
theorem cK3_3 : ∀ x1 x3 x6 x7 x8 b o t s, (badV 3).map (fun v => tri 3 (gK3 (rF x1 (some v) x3 x6 x7 x8 3 b) [o, t, s])) = (badV 3).map fun _ => (true, [wOne], [o, t, s]) := fun _ _ _ _ _ _ _ _ _ => by kernel_rfl
theorem cG4 : ∀ x1 x2 x3 x7 x8 a b o t, gG4 (rF x1 x2 x3 (some (.loc 2)) x7 x8 a b) [o, t, .lst [wOne, wOther, wOne]] = .fl (.nx (rF x1 x2 x3 (some (.loc 2)) x7 x8 a b)) [o, t, .lst [wOne, wOther, wOne]] := fun _ _ _ _ _ _ _ _ _ => by kernel_rfl
theorem cK4_2 : ∀ x1 x2 x6 x7 x8 a b o t, tri 2 (gK4 (rF x1 x2 (some wideD) x6 x7 x8 a b) [o, t]) = (true, [wOne], [o, t]) := fun _ _ _ _ _ _ _ _ _ => by kernel_rfl
theorem cK4_3 : ∀ x1 x2 x6 x7 x8 a b o t s, tri 3 (gK4 (rF x1 x2 (some wideD) x6 x7 x8 a b) [o, t, s]) = (true, [wOne], [o, t, s]) := fun _ _ _ _ _ _ _ _ _ _ => by kernel_rfl
theorem cK5_2 : ∀ x1 x2 x6 x7 x8 a b o t, tri 2 (gK5 (rF x1 x2 (some wideD) x6 x7 x8 a b) [o, t]) = (true, [wOther], [o, t]) := fun _ _ _ _ _ _ _ _ _ => by kernel_rfl
theorem cK5_3 : ∀ x1 x2 x6 x7 x8 a b o t s, tri 3 (gK5 (rF x1 x2 (some wideD) x6 x7 x8 a b) [o, t, s]) = (true, [wOther], [o, t, s]) := fun _ _ _ _ _ _ _ _ _ _ => by kernel_rfl
end K65

set_option Elab.async false
set_option linter.all false
set_option maxRecDepth 100000
set_option maxHeartbeats 0
namespace K65
open PySem L2 G
/-! ### the law is true -/
theorem seq_step {a b : SS} {ρ ρ' : G.Env} {μ μ' : List SO} (h : a ρ μ = .fl (.nx ρ') μ') : seqS a b ρ μ = b ρ' μ' := by
  unfold seqS
  rw [h]
  rfl
theorem set_step {i : Nat} {m : SE} {ρ : G.Env} {μ μ' : List SO} {d : D} (h : m ρ μ = .ok d μ') : setS i m ρ μ = .fl (.nx (ρ.set i (some d))) μ' := by
  unfold setS
  rw [h]
  rfl
theorem for_step {tg : Tg} {mi : SM (List D)} {b : SS} {ρ : G.Env} {μ μ' : List SO} {ds : List D} (h : mi ρ μ = .ok ds μ') : forS tg mi b ρ μ = forL tg b ds ρ μ' := by
  unfold forS
  rw [h]
  rfl
theorem for_turn {tg : Tg} {b : SS} {ρ ρ1 ρ2 : G.Env} {μ μ2 : List SO} {d : D} {ds : List D} (h : assignD tg d ρ = some ρ1) (hb : b ρ1 μ = .fl (.nx ρ2) μ2) : forL tg b (d :: ds) ρ μ = forL tg b ds ρ2 μ2 := by
  rw [forL, h]
  dsimp only
  rw [hb]
theorem trim_of {n : Nat} {r : Res D} {v : D} {t : List SO} (h : tri n r = (true, [v], t)) (hb : t.all (belowO n) = true) : trim r n = .ok v t := by
  cases r with
  | ok w μ =>
    have h1 : (below n w && Nat.ble n μ.length) = true := congrArg (·.1) h
    have h2 : [w] = [v] := congrArg (·.2.1) h
    have h3 : μ.take n = t := congrArg (·.2.2) h
    cases h2
    rw [Bool.and_eq_true] at h1
    unfold trim
    dsimp only
    rw [h3, h1.1, h1.2, hb]
    rfl
  | exc c fs μ => cases (show false = true from congrArg (·.1) h)
  | no => cases (show false = true from congrArg (·.1) h)
theorem cons_of {p : SE} {q : SM (List D)} {ρ : G.Env} {μ μ1 μ2 : List SO} {d : D} {ds : List D} (h : p ρ μ = .ok d μ1) (h2 : q ρ μ1 = .ok ds μ2) : consM p q ρ μ = .ok (d :: ds) μ2 := by
  unfold consM
  rw [h]
  show Res.map (d :: ·) (q ρ μ1) = _
  rw [h2]
  rfl
/-- the bag at the start -/
theorem lc_ints (x : Option D) (μ : List SO) : ∀ (cs : List Int) (y : Option D), lcL (.nm 1) yesM (callM intF (consM (varM 1) nilM)) [x, y] (cs.map .int) μ = .ok (cs.map .int) μ
  | [], y => rfl
  | c :: cs, y => by
    have h := lc_ints x μ cs y
    rw [List.map_cons]
    unfold lcL
    show (Res.map (D.int c :: ·) (lcL (.nm 1) yesM (callM intF (consM (varM 1) nilM)) [x, y] (cs.map .int) μ)) = _
    rw [h]
    rfl
theorem cut_ints (ns : List Int) (h : ns.length ≤ 63) : cutD (ns.map D.int) none (some 61) = (ns.take 61).map D.int := by
  unfold cutD
  rw [show (61 : Int) = ((61 : Nat) : Int) from rfl, HT.sIx_nat, HT.sIx_none, List.drop_zero, Nat.sub_zero, List.length_map, ← List.map_take]
  congr 1
  by_cases h1 : 61 ≤ ns.length
  · rw [Nat.min_eq_left h1]
  · rw [Nat.min_eq_right (by omega), List.take_length, List.take_of_length_le (by omega)]
theorem bag0 (ns : List Int) (h : ns.length ≤ 63) : f_law_bag [.scr (ns.map .int)] [] = .ok (.loc 0) [bag (ns.take 61) 0 0] := by
  have e1 : cutM (varM 0) noneO (someO (cM (.int 61))) [some (.scr (ns.map .int)), none] [] = .ok (.lst ((ns.take 61).map .int)) [] := by
    show optM (cutF [] (.scr (ns.map .int)) none (some 61)) [] = _
    unfold cutF
    dsimp only
    rw [cut_ints ns h]
    rfl
  have hf : few ((ns.take 61).map D.int).length = true := by
    unfold few
    rw [Nat.ble_eq, List.length_map, List.length_take]
    omega
  have e2 : lcM (seqM (cutM (varM 0) noneO (someO (cM (.int 61))))) (own_law_bag_0.map (·.2)) (.nm 1) yesM (callM intF (consM (varM 1) nilM)) [some (.scr (ns.map .int)), none] [] = .ok (.lst ((ns.take 61).map .int)) [] := by
    unfold lcM seqM
    rw [e1]
    show (if few ((ns.take 61).map D.int).length then Res.map D.lst (Res.calm (lcL (.nm 1) yesM (callM intF (consM (varM 1) nilM)) [some (.scr (ns.map .int)), none] ((ns.take 61).map .int) [])) else .no) = _
    rw [hf, lc_ints]
    rfl
  show rz (retS (newM (consM (lcM (seqM (cutM (varM 0) noneO (someO (cM (.int 61))))) (own_law_bag_0.map (·.2)) (.nm 1) yesM (callM intF (consM (varM 1) nilM))) (consM (cM (.int 0)) (consM (cM (.int 0)) nilM)))) [some (.scr (ns.map .int)), none] []) = _
  unfold retS newM
  rw [cons_of e2 (show consM (cM (.int 0)) (consM (cM (.int 0)) nilM) [some (.scr (ns.map .int)), none] [] = .ok [.int 0, .int 0] [] from rfl)]
  rfl
/-! ### any groups, for a turn -/
theorem any_ok {m c : Int} {n : Nat} {t t2 : List SO} {o : SO} (A : ∀ d1, d1 < (st m).length → AF m d1 n t t2) (hl : 1 ≤ (st m).length) (hl2 : (st m).length < 1000)
    (hg : ∀ d1, d1 < (st m).length → (1 ≤ (gsD m d1).length ∧ (gsD m d1).length < 1000) ∧ (i5 m d1).length = 10) (hc : c ≤ 800) (hB : Bg c o) (hn : t.all (belowO n) = true) :
    ∃ v o', trim (f_law_any_groups [.loc 0, .int m] (o :: t)) n = .ok v (o' :: t) ∧ v ∈ allV m ∧ Bg (c + 4) o' := by
  obtain ⟨d1, o1, e1, k1, B1⟩ := pick_b (t := t) (xs := st m) hB (by omega) hl hl2
  obtain ⟨v, o', e, hv, B⟩ := any_case (o := o) (A d1 k1) (by omega) B1 (hg d1 k1).1.1 (hg d1 k1).1.2 (hg d1 k1).2 hn
  refine ⟨v, o', ?_, hv, B.mono (by omega)⟩
  rw [any0, (A d1 k1).e1, e1]
  exact e
theorem st_1 : (st 1).length = 1 := by kernel_rfl
theorem st_2 : (st 2).length = 2 := by kernel_rfl
theorem st_3 : (st 3).length = 5 := by kernel_rfl
theorem g_1 : ∀ d1, d1 < 1 → (1 ≤ (gsD 1 d1).length ∧ (gsD 1 d1).length < 1000) ∧ (i5 1 d1).length = 10 := by decide +kernel
theorem g_2 : ∀ d1, d1 < 2 → (1 ≤ (gsD 2 d1).length ∧ (gsD 2 d1).length < 1000) ∧ (i5 2 d1).length = 10 := by decide +kernel
theorem g_3 : ∀ d1, d1 < 5 → (1 ≤ (gsD 3 d1).length ∧ (gsD 3 d1).length < 1000) ∧ (i5 3 d1).length = 10 := by decide +kernel
theorem A_1_0 : ∀ d1, d1 < 1 → AF 1 d1 1 [] [.dead]
  | 0, _ => af_1_0_0
theorem A_2_0 : ∀ d1, d1 < 2 → AF 2 d1 1 [] [.dead]
  | 0, _ => af_2_0_0
  | 1, _ => af_2_1_0
theorem A_3_0 : ∀ d1, d1 < 5 → AF 3 d1 1 [] [.dead]
  | 0, _ => af_3_0_0
  | 1, _ => af_3_1_0
  | 2, _ => af_3_2_0
  | 3, _ => af_3_3_0
  | 4, _ => af_3_4_0
theorem A_1_1 (x : SO) : ∀ d1, d1 < 1 → AF 1 d1 2 [x] [x, .dead]
  | 0, _ => af_1_0_1 x
theorem A_2_1 (x : SO) : ∀ d1, d1 < 2 → AF 2 d1 2 [x] [x, .dead]
  | 0, _ => af_2_0_1 x
  | 1, _ => af_2_1_1 x
theorem A_3_1 (x : SO) : ∀ d1, d1 < 5 → AF 3 d1 2 [x] [x, .dead]
  | 0, _ => af_3_0_1 x
  | 1, _ => af_3_1_1 x
  | 2, _ => af_3_2_1 x
  | 3, _ => af_3_3_1 x
  | 4, _ => af_3_4_1 x
def One (m : Int) : Prop := m = 1 ∨ m = 2 ∨ m = 3
theorem any_law {m c : Int} {o : SO} (hm : One m) (hc : c ≤ 800) (hB : Bg c o) : ∃ v o', trim (f_law_any_groups [.loc 0, .int m] [o]) 1 = .ok v [o'] ∧ v ∈ allV m ∧ Bg (c + 4) o' := by
  rcases hm with rfl | rfl | rfl
  · exact any_ok (by rw [st_1]; exact A_1_0) (by rw [st_1]; decide) (by rw [st_1]; decide) (by rw [st_1]; exact g_1) hc hB rfl
  · exact any_ok (by rw [st_2]; exact A_2_0) (by rw [st_2]; decide) (by rw [st_2]; decide) (by rw [st_2]; exact g_2) hc hB rfl
  · exact any_ok (by rw [st_3]; exact A_3_0) (by rw [st_3]; decide) (by rw [st_3]; decide) (by rw [st_3]; exact g_3) hc hB rfl
theorem any_fin {m c : Int} {o x : SO} (hm : One m) (hc : c ≤ 800) (hB : Bg c o) (hx : belowO 2 x = true) : ∃ v o', trim (f_law_any_groups [.loc 0, .int m] [o, x]) 2 = .ok v [o', x] ∧ v ∈ allV m ∧ Bg (c + 4) o' := by
  have hn : [x].all (belowO 2) = true := by rw [List.all_cons, hx]; rfl
  rcases hm with rfl | rfl | rfl
  · exact any_ok (by rw [st_1]; exact A_1_1 x) (by rw [st_1]; decide) (by rw [st_1]; decide) (by rw [st_1]; exact g_1) hc hB hn
  · exact any_ok (by rw [st_2]; exact A_2_1 x) (by rw [st_2]; decide) (by rw [st_2]; decide) (by rw [st_2]; exact g_2) hc hB hn
  · exact any_ok (by rw [st_3]; exact A_3_1 x) (by rw [st_3]; decide) (by rw [st_3]; decide) (by rw [st_3]; exact g_3) hc hB hn
/-! ### the law's loops -/
theorem lAny_of {F : List D → List SO → Res D} {sc x3 x4 x5 x6 x7 x8 x9 : Option D} {m : Int} {μ : List SO} :
    trimM (callSM F (argN 2 (consM (varM 1) (consM (varM 2) nilM)))) (rL sc x3 x4 x5 x6 x7 x8 x9 m) μ = trim (F [.loc 0, .int m] μ) μ.length := rfl
theorem lC_of {m : Int} (hm : One m) {sc x3 x4 x5 x6 x8 x9 : Option D} {o : SO} {v : D} (hv : v ∈ allV m) : lC (rL sc x3 x4 x5 x6 (some v) x8 x9 m) [o] = .fl (.nx (rL sc x3 x4 x5 x6 (some v) x8 x9 m)) [o] := by
  rcases hm with rfl | rfl | rfl
  · exact map_at (cC_1 sc x3 x4 x5 x6 x8 x9 o) hv
  · exact map_at (cC_2 sc x3 x4 x5 x6 x8 x9 o) hv
  · exact map_at (cC_3 sc x3 x4 x5 x6 x8 x9 o) hv
theorem inner {m : Int} (hm : One m) {sc x3 x4 x5 x8 x9 : Option D} : ∀ (ds : List D) (x6 x7 : Option D) (o : SO) (c : Int), Bg c o → c + 4 * (ds.length : Int) ≤ 800 →
    ∃ x6' x7' o', forL (.nm 6) lIn ds (rL sc x3 x4 x5 x6 x7 x8 x9 m) [o] = .fl (.nx (rL sc x3 x4 x5 x6' x7' x8 x9 m)) [o'] ∧ Bg (c + 4 * (ds.length : Int)) o'
  | [], x6, x7, o, c, hB, hc => ⟨x6, x7, o, rfl, by simpa using hB⟩
  | d :: ds, x6, x7, o, c, hB, hc => by
    rw [List.length_cons] at hc ⊢
    obtain ⟨v, o1, e, hv, B1⟩ := any_law hm (c := c) (by omega) hB
    obtain ⟨y6, y7, o2, e2, B2⟩ := inner hm (sc := sc) (x3 := x3) (x4 := x4) (x5 := x5) (x8 := x8) (x9 := x9) ds (some d) (some v) o1 (c + 4) B1 (by omega)
    refine ⟨y6, y7, o2, ?_, ?_⟩
    · rw [← e2]
      refine for_turn (ρ1 := rL sc x3 x4 x5 (some d) x7 x8 x9 m) rfl ?_
      unfold lIn
      rw [seq_step (set_step (show lAny (rL sc x3 x4 x5 (some d) x7 x8 x9 m) [o] = .ok v [o1] from lAny_of.trans e))]
      exact lC_of hm hv
    · have : c + 4 * ((ds.length + 1 : Nat) : Int) = c + 4 + 4 * (ds.length : Int) := by omega
      rw [this]
      exact B2
theorem lb1_of {m : Int} (hm : One m) {sc x3 x4 x5 x6 x7 x8 x9 : Option D} {o : SO} : lB1 (rL sc x3 x4 x5 x6 x7 x8 x9 m) [o] = .fl (.nx (rL sc x3 x4 (some (.tup (st m))) x6 x7 x8 x9 m)) [o] := by
  rcases hm with rfl | rfl | rfl
  · exact cB1_1 ..
  · exact cB1_2 ..
  · exact cB1_3 ..
theorem lb2_of {m : Int} (hm : One m) {sc x3 x4 x6 x7 x8 x9 : Option D} {o : SO} : lB2 (rL sc x3 x4 (some (.tup (st m))) x6 x7 x8 x9 m) [o] = .fl (.nx (rL sc x3 x4 (some (.tup (st m))) x6 x7 x8 x9 m)) [o] := by
  rcases hm with rfl | rfl | rfl
  · exact cB2_1 ..
  · exact cB2_2 ..
  · exact cB2_3 ..
theorem lb4_of {m : Int} (hm : One m) {sc x3 x4 x6 x7 x8 x9 : Option D} {o : SO} : lB4 (rL sc x3 x4 (some (.tup (st m))) x6 x7 x8 x9 m) [o] = .fl (.nx (rL sc x3 x4 (some (.tup (st m))) x6 x7 x8 x9 m)) [o] := by
  rcases hm with rfl | rfl | rfl
  · exact cB4_1 ..
  · exact cB4_2 ..
  · exact cB4_3 ..
theorem round {m : Int} (hm : One m) {sc x3 x4 x5 x6 x7 x8 x9 : Option D} {o : SO} {c : Int} (hB : Bg c o) (hc : c ≤ 600) :
    ∃ x5' x6' x7' o', lBody (rL sc x3 x4 x5 x6 x7 x8 x9 m) [o] = .fl (.nx (rL sc x3 x4 x5' x6' x7' x8 x9 m)) [o'] ∧ Bg (c + 32) o' := by
  obtain ⟨y6, y7, o1, e, B⟩ := inner hm (sc := sc) (x3 := x3) (x4 := x4) (x5 := some (.tup (st m))) (x8 := x8) (x9 := x9) (rangeD 0 8) x6 x7 o c hB (by show c + 4 * (8 : Int) ≤ 800; omega)
  refine ⟨some (.tup (st m)), y6, y7, o1, ?_, B⟩
  unfold lBody
  rw [seq_step (lb1_of hm), seq_step (lb2_of hm)]
  have f : forS (.nm 6) (rangeM1 (consM (cM (.int 8)) nilM)) lIn (rL sc x3 x4 (some (.tup (st m))) x6 x7 x8 x9 m) [o] = .fl (.nx (rL sc x3 x4 (some (.tup (st m))) y6 y7 x8 x9 m)) [o1] := (for_step rfl).trans e
  rw [seq_step f]
  exact lb4_of hm
theorem rounds {sc x2 x3 x4 x5 x6 x7 x8 x9 : Option D} {o : SO} {c : Int} (hB : Bg c o) (hc : c ≤ 500) :
    ∃ x5' x6' x7' o', forL (.nm 2) lBody [.int 1, .int 2, .int 3] [sc, some (.loc 0), x2, x3, x4, x5, x6, x7, x8, x9] [o] = .fl (.nx (rL sc x3 x4 x5' x6' x7' x8 x9 3)) [o'] ∧ Bg (c + 96) o' := by
  obtain ⟨a5, a6, a7, o1, e1, B1⟩ := round (sc := sc) (x3 := x3) (x4 := x4) (x5 := x5) (x6 := x6) (x7 := x7) (x8 := x8) (x9 := x9) (m := 1) (.inl rfl) hB (by omega)
  obtain ⟨b5, b6, b7, o2, e2, B2⟩ := round (sc := sc) (x3 := x3) (x4 := x4) (x5 := a5) (x6 := a6) (x7 := a7) (x8 := x8) (x9 := x9) (m := 2) (.inr (.inl rfl)) B1 (by omega)
  obtain ⟨c5, c6, c7, o3, e3, B3⟩ := round (sc := sc) (x3 := x3) (x4 := x4) (x5 := b5) (x6 := b6) (x7 := b7) (x8 := x8) (x9 := x9) (m := 3) (.inr (.inr rfl)) B2 (by omega)
  refine ⟨c5, c6, c7, o3, ?_, B3.mono (by omega)⟩
  rw [for_turn (ρ1 := rL sc x3 x4 x5 x6 x7 x8 x9 1) rfl e1, for_turn (ρ1 := rL sc x3 x4 a5 a6 a7 x8 x9 2) rfl e2, for_turn (ρ1 := rL sc x3 x4 b5 b6 b7 x8 x9 3) rfl e3]
  rfl
/-! ### the half about finer ones -/
theorem tup_of {p q : SE} {ρ : G.Env} {μ μ1 μ2 : List SO} {x y : D} (h : p ρ μ = .ok x μ1) (h2 : q ρ μ1 = .ok y μ2) : tupM (consM p (consM q nilM)) ρ μ = .ok (.tup [x, y]) μ2 := by
  unfold tupM
  rw [cons_of h (cons_of h2 rfl)]
  rfl
theorem pickF {F : List D → List SO → Res D} {ρ : G.Env} {μ : List SO} : callSM F (argN 2 (consM (varM 0) (consM (lstM (consM (cM (.int 1)) (consM (cM (.int 2)) (consM (cM (.int 3)) (consM (cM (.int 3)) nilM))))) nilM))) (some (.loc 0) :: ρ) μ = F [.loc 0, .lst [.int 1, .int 2, .int 3, .int 3]] μ := rfl
theorem one_of {d : Nat} (h : d < 4) : ∃ m : Int, ([.int 1, .int 2, .int 3, .int 3] : List D).getD d .non = .int m ∧ One m := by
  match d, h with
  | 0, _ => exact ⟨1, rfl, .inl rfl⟩
  | 1, _ => exact ⟨2, rfl, .inr (.inl rfl)⟩
  | 2, _ => exact ⟨3, rfl, .inr (.inr rfl)⟩
  | 3, _ => exact ⟨3, rfl, .inr (.inr rfl)⟩
theorem stA_1 : ∀ F x1 x2 x3 x6 x7 x8 b μ, callSM F (argN 2 (consM (varM 0) (consM (callPM f_law_states (argN 1 (consM (varM 4) nilM))) nilM))) (rF x1 x2 x3 x6 x7 x8 1 b) μ = F [.loc 0, .lst (st 1)] μ := fun _ _ _ _ _ _ _ _ _ => by kernel_rfl
theorem stA_2 : ∀ F x1 x2 x3 x6 x7 x8 b μ, callSM F (argN 2 (consM (varM 0) (consM (callPM f_law_states (argN 1 (consM (varM 4) nilM))) nilM))) (rF x1 x2 x3 x6 x7 x8 2 b) μ = F [.loc 0, .lst (st 2)] μ := fun _ _ _ _ _ _ _ _ _ => by kernel_rfl
theorem stA_3 : ∀ F x1 x2 x3 x6 x7 x8 b μ, callSM F (argN 2 (consM (varM 0) (consM (callPM f_law_states (argN 1 (consM (varM 4) nilM))) nilM))) (rF x1 x2 x3 x6 x7 x8 3 b) μ = F [.loc 0, .lst (st 3)] μ := fun _ _ _ _ _ _ _ _ _ => by kernel_rfl
theorem stB_1 : ∀ F x1 x2 x3 x6 x7 x8 a μ, callSM F (argN 2 (consM (varM 0) (consM (callPM f_law_states (argN 1 (consM (varM 5) nilM))) nilM))) (rF x1 x2 x3 x6 x7 x8 a 1) μ = F [.loc 0, .lst (st 1)] μ := fun _ _ _ _ _ _ _ _ _ => by kernel_rfl
theorem stB_2 : ∀ F x1 x2 x3 x6 x7 x8 a μ, callSM F (argN 2 (consM (varM 0) (consM (callPM f_law_states (argN 1 (consM (varM 5) nilM))) nilM))) (rF x1 x2 x3 x6 x7 x8 a 2) μ = F [.loc 0, .lst (st 2)] μ := fun _ _ _ _ _ _ _ _ _ => by kernel_rfl
theorem stB_3 : ∀ F x1 x2 x3 x6 x7 x8 a μ, callSM F (argN 2 (consM (varM 0) (consM (callPM f_law_states (argN 1 (consM (varM 5) nilM))) nilM))) (rF x1 x2 x3 x6 x7 x8 a 3) μ = F [.loc 0, .lst (st 3)] μ := fun _ _ _ _ _ _ _ _ _ => by kernel_rfl
theorem stA {a : Int} (ha : One a) (F : List D → List SO → Res D) (x1 x2 x3 x6 x7 x8 : Option D) (b : Int) (μ : List SO) : callSM F (argN 2 (consM (varM 0) (consM (callPM f_law_states (argN 1 (consM (varM 4) nilM))) nilM))) (rF x1 x2 x3 x6 x7 x8 a b) μ = F [.loc 0, .lst (st a)] μ := by
  rcases ha with
        rfl | rfl | rfl
  · exact stA_1 ..
  · exact stA_2 ..
  · exact stA_3 ..
theorem stB {b : Int} (hb : One b) (F : List D → List SO → Res D) (x1 x2 x3 x6 x7 x8 : Option D) (a : Int) (μ : List SO) : callSM F (argN 2 (consM (varM 0) (consM (callPM f_law_states (argN 1 (consM (varM 5) nilM))) nilM))) (rF x1 x2 x3 x6 x7 x8 a b) μ = F [.loc 0, .lst (st b)] μ := by
  rcases hb with
        rfl | rfl | rfl
  · exact stB_1 ..
  · exact stB_2 ..
  · exact stB_3 ..
theorem gC_of {a b : Int} (ha : One a) (hb : One b) {x1 x2 x6 x8 : Option D} {o t : SO} {f w : D} (hf : f ∈ st a) (hw : w ∈ st b) : gC (rF x1 x2 (some w) x6 (some f) x8 a b) [o, t] = .fl (.nx (rF x1 x2 (some w) x6 (some f) x8 a b)) [o, t] := by
  rcases ha with rfl | rfl | rfl <;> rcases hb with rfl | rfl | rfl
  · exact map_at (map_at (cF_1_1 x1 x2 x6 x8 o t) hf) hw
  · exact map_at (map_at (cF_1_2 x1 x2 x6 x8 o t) hf) hw
  · exact map_at (map_at (cF_1_3 x1 x2 x6 x8 o t) hf) hw
  · exact map_at (map_at (cF_2_1 x1 x2 x6 x8 o t) hf) hw
  · exact map_at (map_at (cF_2_2 x1 x2 x6 x8 o t) hf) hw
  · exact map_at (map_at (cF_2_3 x1 x2 x6 x8 o t) hf) hw
  · exact map_at (map_at (cF_3_1 x1 x2 x6 x8 o t) hf) hw
  · exact map_at (map_at (cF_3_2 x1 x2 x6 x8 o t) hf) hw
  · exact map_at (map_at (cF_3_3 x1 x2 x6 x8 o t) hf) hw
theorem st_len {a : Int} (ha : One a) : 1 ≤ (st a).length ∧ (st a).length < 1000 := by
  rcases ha with
        rfl | rfl | rfl
  · rw [st_1]; decide
  · rw [st_2]; decide
  · rw [st_3]; decide
theorem getD_mem {xs : List D} {d : Nat} (h : d < xs.length) : xs.getD d .non ∈ xs := by
  rw [List.getD_eq_getElem?_getD, List.getElem?_eq_getElem h]
  exact List.getElem_mem _
theorem finer_turns {a b : Int} (ha : One a) (hb : One b) {x2 x6 x8 : Option D} {t : SO} : ∀ (ds : List D) (x1 x3 x7 : Option D) (o : SO) (c : Int), Bg c o → c + 2 * (ds.length : Int) ≤ 800 →
    ∃ y1 y3 y7 o', forL (.nm 1) gIn ds (rF x1 x2 x3 x6 x7 x8 a b) [o, t] = .fl (.nx (rF y1 x2 y3 x6 y7 x8 a b)) [o', t] ∧ Bg (c + 2 * (ds.length : Int)) o'
  | [], x1, x3, x7, o, c, hB, hc => ⟨x1, x3, x7, o, rfl, by simpa using hB⟩
  | d :: ds, x1, x3, x7, o, c, hB, hc => by
    rw [List.length_cons] at hc ⊢
    obtain ⟨d1, o1, e1, k1, B1⟩ := pick_b (t := [t]) (xs := st a) hB (by omega) (st_len ha).1 (st_len ha).2
    obtain ⟨d2, o2, e2, k2, B2⟩ := pick_b (t := [t]) (xs := st b) B1 (by omega) (st_len hb).1 (st_len hb).2
    obtain ⟨y1, y3, y7, o3, e3, B3⟩ := finer_turns ha hb (x2 := x2) (x6 := x6) (x8 := x8) (t := t) ds (some d) (some ((st b).getD d2 .non)) (some ((st a).getD d1 .non)) o2 (c + 1 + 1) B2 (by omega)
    refine ⟨y1, y3, y7, o3, ?_, ?_⟩
    · rw [← e3]
      refine for_turn (ρ1 := rF (some d) x2 x3 x6 x7 x8 a b) rfl ?_
      have g1 : gTup (rF (some d) x2 x3 x6 x7 x8 a b) [o, t] = .ok (.tup [(st a).getD d1 .non, (st b).getD d2 .non]) [o2, t] :=
        tup_of ((stA ha f_law_pick ..).trans e1) ((stB hb f_law_pick ..).trans e2)
      have g2 : tgtS (.tp [7, 3]) gTup (rF (some d) x2 x3 x6 x7 x8 a b) [o, t] = .fl (.nx (rF (some d) x2 (some ((st b).getD d2 .non)) x6 (some ((st a).getD d1 .non)) x8 a b)) [o2, t] := by
        unfold tgtS
        rw [g1]
        rfl
      unfold gIn
      rw [seq_step g2]
      exact gC_of ha hb (getD_mem k1) (getD_mem k2)
    · have : c + 2 * ((ds.length + 1 : Nat) : Int) = c + 1 + 1 + 2 * (ds.length : Int) := by omega
      rw [this]
      exact B3
end K65

set_option Elab.async false
set_option linter.all false
set_option maxRecDepth 100000
set_option maxHeartbeats 0
namespace K65
open PySem L2 G
/-! ### the half about finer ones, its end; the law -/
theorem gAny_of {F : List D → List SO → Res D} {x1 x2 x3 x6 x7 x8 : Option D} {a b : Int} {μ : List SO} :
    trimM (callSM F (argN 2 (consM (varM 0) (consM (varM 4) nilM)))) (rF x1 x2 x3 x6 x7 x8 a b) μ = trim (F [.loc 0, .int a] μ) μ.length := rfl
theorem if_step {c : SM Bool} {a b : SS} {ρ : G.Env} {μ μ' : List SO} {k : Bool} (h : c ρ μ = .ok k μ') : ifS c a b ρ μ = if k then a ρ μ' else b ρ μ' := by
  unfold ifS
  rw [h]
  rfl
theorem new_of {m : SE} {i : Nat} {ρ : G.Env} {μ : List SO} {d : D} (h : m ρ μ = .ok d μ) : setS i (newM (consM m nilM)) ρ μ = .fl (.nx (ρ.set i (some (.loc μ.length)))) (μ ++ [.lst [d]]) := by
  refine set_step ?_
  unfold newM
  rw [cons_of h rfl]
  rfl
theorem bad_split {a : Int} {v : D} (h : v ∈ allV a) : v ∈ goodV a ∨ v ∈ badV a := by
  cases e : goodD v with
  | true => exact .inl (List.mem_filter.mpr ⟨h, e⟩)
  | false => exact .inr (List.mem_filter.mpr ⟨h, by rw [e]; rfl⟩)
theorem cG0 {a : Int} (ha : One a) {x1 x3 x6 x7 x8 : Option D} {b : Int} {o t : SO} {v : D} (h : v ∈ goodV a) : gCond (rF x1 (some v) x3 x6 x7 x8 a b) [o, t] = .ok false [o, t] := by
  rcases ha with
        rfl | rfl | rfl
  · exact map_at (cG0_1 x1 x3 x6 x7 x8 b o t) h
  · exact map_at (cG0_2 x1 x3 x6 x7 x8 b o t) h
  · exact map_at (cG0_3 x1 x3 x6 x7 x8 b o t) h
theorem cG1 {a : Int} (ha : One a) {x1 x3 x6 x7 x8 : Option D} {b : Int} {o t : SO} {v : D} (h : v ∈ badV a) : gCond (rF x1 (some v) x3 x6 x7 x8 a b) [o, t] = .ok true [o, t] := by
  rcases ha with
        rfl | rfl | rfl
  · exact map_at (cG1_1 x1 x3 x6 x7 x8 b o t) h
  · exact map_at (cG1_2 x1 x3 x6 x7 x8 b o t) h
  · exact map_at (cG1_3 x1 x3 x6 x7 x8 b o t) h
theorem cK1 {a : Int} (ha : One a) {x1 x3 x6 x7 x8 : Option D} {b : Int} {o t : SO} {v : D} (h : v ∈ badV a) : tri 2 (gK1 (rF x1 (some v) x3 x6 x7 x8 a b) [o, t]) = (true, [wOne], [o, t]) := by
  rcases ha with
        rfl | rfl | rfl
  · exact map_at (cK1_1 x1 x3 x6 x7 x8 b o t) h
  · exact map_at (cK1_2 x1 x3 x6 x7 x8 b o t) h
  · exact map_at (cK1_3 x1 x3 x6 x7 x8 b o t) h
theorem cK2 {a : Int} (ha : One a) {x1 x3 x6 x7 x8 : Option D} {b : Int} {o t s : SO} {v : D} (h : v ∈ badV a) : tri 3 (gK2 (rF x1 (some v) x3 x6 x7 x8 a b) [o, t, s]) = (true, [wOther], [o, t, s]) := by
  rcases ha with
        rfl | rfl | rfl
  · exact map_at (cK2_1 x1 x3 x6 x7 x8 b o t s) h
  · exact map_at (cK2_2 x1 x3 x6 x7 x8 b o t s) h
  · exact map_at (cK2_3 x1 x3 x6 x7 x8 b o t s) h
theorem cK3 {a : Int} (ha : One a) {x1 x3 x6 x7 x8 : Option D} {b : Int} {o t s : SO} {v : D} (h : v ∈ badV a) : tri 3 (gK3 (rF x1 (some v) x3 x6 x7 x8 a b) [o, t, s]) = (true, [wOne], [o, t, s]) := by
  rcases ha with
        rfl | rfl | rfl
  · exact map_at (cK3_1 x1 x3 x6 x7 x8 b o t s) h
  · exact map_at (cK3_2 x1 x3 x6 x7 x8 b o t s) h
  · exact map_at (cK3_3 x1 x3 x6 x7 x8 b o t s) h
theorem app_of {m : SE} {ρ : G.Env} {o t : SO} {l : Nat} {xs : List D} {d : D} (hv : varM 6 ρ [o, t, .lst xs] = .ok (.loc 2) [o, t, .lst xs]) (h : m ρ [o, t, .lst xs] = .ok d [o, t, .lst xs]) (hf : few (xs.length + 1) = true) :
    dropS (appM (varM 6) (consM m nilM)) ρ [o, t, .lst xs] = .fl (.nx ρ) [o, t, .lst (xs ++ [d])] := by
  unfold dropS appM
  rw [hv]
  show Res.sbind (Res.bind (consM m nilM ρ [o, t, .lst xs]) _) _ _ = _
  rw [cons_of h rfl]
  show Res.sbind (match pushF [o, t, .lst xs] (.loc 2) [d] with | some μ3 => Res.ok D.non μ3 | none => .no) _ _ = _
  have : pushF [o, t, .lst xs] (.loc 2) [d] = some [o, t, .lst (xs ++ [d])] := by
    simp [pushF, hf]
  rw [this]
  rfl
theorem bad_of {a b : Int} (ha : One a) {x1 x3 x6 x7 x8 : Option D} {o t : SO} {v : D} {c : Int} (hB : Bg c o) (ht : ∀ n, belowO (n + 1) t = true) (h : v ∈ badV a) :
    gBad (rF x1 (some v) x3 x6 x7 x8 a b) [o, t] = .fl (.nx (rF x1 (some v) x3 (some (.loc 2)) x7 x8 a b)) [o, t, .lst [wOne, wOther, wOne]] := by
  have n2 : [o, t].all (belowO 2) = true := by rw [List.all_cons, List.all_cons, hB.below, ht]; rfl
  have n3 : ∀ xs : List D, belows 3 xs = true → [o, t, .lst xs].all (belowO 3) = true := fun xs hx => by
    rw [List.all_cons, List.all_cons, List.all_cons, hB.below, ht]
    show (true && (true && (belows 3 xs && true))) = true
    rw [hx]
    rfl
  have e1 : trimM gK1 (rF x1 (some v) x3 x6 x7 x8 a b) [o, t] = .ok wOne [o, t] := trim_of (cK1 ha h) n2
  have e2 : trimM gK2 (rF x1 (some v) x3 (some (.loc 2)) x7 x8 a b) [o, t, .lst [wOne]] = .ok wOther [o, t, .lst [wOne]] := trim_of (cK2 ha h) (n3 _ rfl)
  have e3 : trimM gK3 (rF x1 (some v) x3 (some (.loc 2)) x7 x8 a b) [o, t, .lst [wOne, wOther]] = .ok wOne [o, t, .lst [wOne, wOther]] := trim_of (cK3 ha h) (n3 _ rfl)
  unfold gBad
  have s1 : setS 6 (newM (consM (trimM gK1) nilM)) (rF x1 (some v) x3 x6 x7 x8 a b) [o, t] = .fl (.nx (rF x1 (some v) x3 (some (.loc 2)) x7 x8 a b)) [o, t, .lst [wOne]] := new_of e1
  have s2 : dropS (appM (varM 6) (consM (trimM gK2) nilM)) (rF x1 (some v) x3 (some (.loc 2)) x7 x8 a b) [o, t, .lst [wOne]] = .fl (.nx (rF x1 (some v) x3 (some (.loc 2)) x7 x8 a b)) [o, t, .lst [wOne, wOther]] := app_of (l := 0) rfl e2 rfl
  have s3 : dropS (appM (varM 6) (consM (trimM gK3) nilM)) (rF x1 (some v) x3 (some (.loc 2)) x7 x8 a b) [o, t, .lst [wOne, wOther]] = .fl (.nx (rF x1 (some v) x3 (some (.loc 2)) x7 x8 a b)) [o, t, .lst [wOne, wOther, wOne]] := app_of (l := 0) rfl e3 rfl
  rw [seq_step s1, seq_step s2, seq_step s3]
  exact cG4 ..
theorem tail_of {a b : Int} {x1 x2 x3 x6 x7 x8 : Option D} {μ : List SO} (e4 : ∀ x, trimM gK4 (rF x1 x2 (some wideD) x x7 x8 a b) μ = .ok wOne μ) (e5 : ∀ x, trimM gK5 (rF x1 x2 (some wideD) x x7 x8 a b) μ = .ok wOther μ) :
    seqS gW (seqS (ifS (boolM (op2M neF (trimM gK4) gE4)) (retS (cM (.bl false))) nilS) (retS (op2M eqF (trimM gK5) gE5))) (rF x1 x2 x3 x6 x7 x8 a b) μ = .fl (.rt (.bl true)) μ := by
  have s1 : gW (rF x1 x2 x3 x6 x7 x8 a b) μ = .fl (.nx (rF x1 x2 (some wideD) x6 x7 x8 a b)) μ := rfl
  rw [seq_step s1]
  have e6 : boolM (op2M neF (trimM gK4) gE4) (rF x1 x2 (some wideD) x6 x7 x8 a b) μ = .ok false μ := by
    unfold boolM op2M
    rw [e4]
    kernel_rfl
  have e7 : ifS (boolM (op2M neF (trimM gK4) gE4)) (retS (cM (.bl false))) nilS (rF x1 x2 (some wideD) x6 x7 x8 a b) μ = .fl (.nx (rF x1 x2 (some wideD) x6 x7 x8 a b)) μ := (if_step e6).trans rfl
  rw [seq_step e7]
  unfold retS op2M
  rw [e5]
  kernel_rfl
theorem finer_true {o t : SO} {c : Int} (hB : Bg c o) (hc : c ≤ 500) (ht : ∀ n, belowO (n + 1) t = true) : ∃ μ, f_law_finer_right [.loc 0] [o, t] = .ok (.bl true) μ := by
  obtain ⟨d1, o1, p1, k1, B1⟩ := pick_b (t := [t]) (xs := [.int 1, .int 2, .int 3, .int 3]) hB (by omega) (by decide) (by decide)
  obtain ⟨d2, o2, p2, k2, B2⟩ := pick_b (t := [t]) (xs := [.int 1, .int 2, .int 3, .int 3]) B1 (by omega) (by decide) (by decide)
  obtain ⟨a, ea, ha⟩ := one_of k1
  obtain ⟨b, eb, hb⟩ := one_of k2
  rw [ea] at p1
  rw [eb] at p2
  obtain ⟨y1, y3, y7, o3, e3, B3⟩ := finer_turns ha hb (x2 := none) (x6 := none) (x8 := none) (t := t) (rangeD 0 6) none none none o2 (c + 1 + 1) B2 (by show c + 1 + 1 + 2 * (6 : Int) ≤ 800; omega)
  obtain ⟨v, o4, e4, hv, B4⟩ := any_fin (x := t) ha (c := c + 1 + 1 + 2 * (6 : Int)) (by omega) B3 (ht 1)
  have g0 : parS 4 5 gPar [some (.loc 0), none, none, none, none, none, none, none, none] [o, t] = .fl (.nx (rF none none none none none none a b)) [o2, t] := by
    unfold parS
    rw [show gPar [some (.loc 0), none, none, none, none, none, none, none, none] [o, t] = .ok [.int a, .int b] [o2, t] from cons_of (pickF.trans p1) (cons_of (pickF.trans p2) rfl)]
    rfl
  have g1 : forS (.nm 1) (rangeM1 (consM (cM (.int 6)) nilM)) gIn (rF none none none none none none a b) [o2, t] = .fl (.nx (rF y1 none y3 none y7 none a b)) [o3, t] := (for_step rfl).trans e3
  have g2 : setS 2 gAny (rF y1 none y3 none y7 none a b) [o3, t] = .fl (.nx (rF y1 (some v) y3 none y7 none a b)) [o4, t] := set_step (gAny_of.trans e4)
  have n2 : [o4, t].all (belowO 2) = true := by rw [List.all_cons, List.all_cons, B4.below, ht]; rfl
  have n3 : ∀ xs : List D, belows 3 xs = true → [o4, t, .lst xs].all (belowO 3) = true := fun xs hx => by
    rw [List.all_cons, List.all_cons, List.all_cons, B4.below, ht]
    show (true && (true && (belows 3 xs && true))) = true
    rw [hx]
    rfl
  have hend : ∃ x6 μ, ifS gCond gBad nilS (rF y1 (some v) y3 none y7 none a b) [o4, t] = .fl (.nx (rF y1 (some v) y3 x6 y7 none a b)) μ ∧
      seqS gW (seqS (ifS (boolM (op2M neF (trimM gK4) gE4)) (retS (cM (.bl false))) nilS) (retS (op2M eqF (trimM gK5) gE5))) (rF y1 (some v) y3 x6 y7 none a b) μ = .fl (.rt (.bl true)) μ := by
    rcases bad_split hv with h | h
    · exact ⟨none, [o4, t], (if_step (cG0 ha h)).trans rfl, tail_of (fun x => trim_of (cK4_2 ..) n2) (fun x => trim_of (cK5_2 ..) n2)⟩
    · exact ⟨some (.loc 2), _, (if_step (cG1 ha h)).trans (bad_of ha B4 ht h), tail_of (fun x => trim_of (cK4_3 ..) (n3 _ rfl)) (fun x => trim_of (cK5_3 ..) (n3 _ rfl))⟩
  obtain ⟨x6, μ, h1, h2⟩ := hend
  refine ⟨μ, ?_⟩
  show runS 9 m_law_finer_right _ _ = _
  rw [fin_m, run_rz]
  show rz (seqS (parS 4 5 gPar) _ [some (.loc 0), none, none, none, none, none, none, none, none] [o, t]) = _
  rw [seq_step g0, seq_step g1, seq_step g2, seq_step h1, h2]
  rfl
theorem odd_of {F : List D → List SO → Res D} {sc x3 x4 x5 x6 x7 x8 x9 : Option D} {m : Int} {μ : List SO} :
    callSM F (argN 2 (consM (varM 1) (consM (lstM (consM (cM (.int 0)) (consM (cM (.int 4)) (consM (op1M negF (cM (.int 1))) (consM (cM (.bl true)) (consM (cM .non) (consM (cM (.str "2")) (consM (lstM (consM (cM (.int 2)) nilM)) (consM (op2M powF (cM (.int 10)) (cM (.int 30))) nilM))))))))) nilM))) (rL sc x3 x4 x5 x6 x7 x8 x9 m) μ = F [.loc 0, .lst oddL] μ := by kernel_rfl
theorem app4_of {m : SE} {ρ : G.Env} {o : SO} {xs : List D} {d : D} (hv : varM 4 ρ [o, .lst xs] = .ok (.loc 1) [o, .lst xs]) (h : m ρ [o, .lst xs] = .ok d [o, .lst xs]) (hf : few (xs.length + 1) = true) :
    dropS (appM (varM 4) (consM m nilM)) ρ [o, .lst xs] = .fl (.nx ρ) [o, .lst (xs ++ [d])] := by
  unfold dropS appM
  rw [hv]
  show Res.sbind (Res.bind (consM m nilM ρ [o, .lst xs]) _) _ _ = _
  rw [cons_of h rfl]
  show Res.sbind (match pushF [o, .lst xs] (.loc 1) [d] with | some μ3 => Res.ok D.non μ3 | none => .no) _ _ = _
  have : pushF [o, .lst xs] (.loc 1) [d] = some [o, .lst (xs ++ [d])] := by
    simp [pushF, hf]
  rw [this]
  rfl
theorem law_true (ns : List Int) (h : ns.length ≤ 63) : ∃ μ, f_law [.scr (ns.map .int)] [] = .ok (.bl true) μ := by
  have b0 := bag0 ns h
  have B0 : Bg 0 (bag (ns.take 61) 0 0) := ⟨_, 0, 0, rfl, by rw [List.length_take]; omega, by decide, by decide, by decide⟩
  generalize bag (ns.take 61) 0 0 = o at b0 B0
  generalize hs : D.scr (ns.map .int) = sc at b0 ⊢
  obtain ⟨x5, x6, x7, o1, e1, B1⟩ := rounds (sc := some sc) (x2 := none) (x3 := none) (x4 := none) (x5 := none) (x6 := none) (x7 := none) (x8 := none) (x9 := none) B0 (by decide)
  obtain ⟨d, o2, e2, k2, B2⟩ := pick_b (t := []) (xs := oddL) B1 (by decide) (by decide) (by decide)
  have hd := getD_mem k2
  generalize oddL.getD d .non = od at e2 hd
  have g0 : setS 1 lBag [some sc, none, none, none, none, none, none, none, none, none] [] = .fl (.nx [some sc, some (.loc 0), none, none, none, none, none, none, none, none]) [o] := set_step b0
  have g1 : forS (.nm 2) (seqM (tupM (consM (cM (.int 1)) (consM (cM (.int 2)) (consM (cM (.int 3)) nilM))))) lBody [some sc, some (.loc 0), none, none, none, none, none, none, none, none] [o] = .fl (.nx (rL (some sc) none none x5 x6 x7 none none 3)) [o1] := (for_step rfl).trans e1
  have g2 : setS 3 lOdd (rL (some sc) none none x5 x6 x7 none none 3) [o1] = .fl (.nx (rL (some sc) (some od) none x5 x6 x7 none none 3)) [o2] := set_step (odd_of.trans e2)
  have n1 : [o2].all (belowO 1) = true := by rw [List.all_cons, B2.below]; rfl
  have n2 : [o2, .lst [wNum]].all (belowO 2) = true := by rw [List.all_cons, B2.below]; rfl
  have g3 : setS 4 (newM (consM (trimM lH1) nilM)) (rL (some sc) (some od) none x5 x6 x7 none none 3) [o2] = .fl (.nx (rL (some sc) (some od) (some (.loc 1)) x5 x6 x7 none none 3)) [o2, .lst [wNum]] :=
    new_of (show trimM lH1 (rL (some sc) (some od) none x5 x6 x7 none none 3) [o2] = .ok wNum [o2] from trim_of (map_at (cH1 (some sc) none x5 x6 x7 none none o2) hd) n1)
  have g4 : dropS (appM (varM 4) (consM (trimM lH2) nilM)) (rL (some sc) (some od) (some (.loc 1)) x5 x6 x7 none none 3) [o2, .lst [wNum]] = .fl (.nx (rL (some sc) (some od) (some (.loc 1)) x5 x6 x7 none none 3)) [o2, .lst [wNum, wNum]] :=
    app4_of rfl (show trimM lH2 (rL (some sc) (some od) (some (.loc 1)) x5 x6 x7 none none 3) [o2, .lst [wNum]] = .ok wNum [o2, .lst [wNum]] from trim_of (map_at (cH2 (some sc) x5 x6 x7 none none o2) hd) n2) rfl
  obtain ⟨μ, e5⟩ := finer_true (t := .lst [wNum, wNum]) B2 (by decide) (fun n => rfl)
  refine ⟨μ, ?_⟩
  show runS 10 m_law _ _ = _
  rw [law_m, run_rz]
  show rz (seqS (setS 1 lBag) _ [some sc, none, none, none, none, none, none, none, none, none] []) = _
  rw [seq_step g0, seq_step g1, seq_step g2, seq_step g3, seq_step g4]
  have g6 : G.andM lEq lFin (rL (some sc) (some od) (some (.loc 1)) x5 x6 x7 none none 3) [o2, .lst [wNum, wNum]] = .ok (.bl true) μ := by
    unfold G.andM
    rw [cEq]
    exact e5
  unfold retS
  rw [g6]
  rfl
end K65

set_option Elab.async false
set_option linter.all false
set_option maxRecDepth 100000
set_option maxHeartbeats 0
namespace K65
open PySem PySem.Spec PyProof.Rows L2 G
theorem all_mk {l : PySem.W.OpenLaw} {q : Program} {w : World} {K : PySem.W.Frag} {h : Heap} {mg : Str → Option Value} {fa : Addr} {a0 a1 a2 a3 a4 a5 a6 a7 a8 a9 a10 a11 a12 a13 a14 a15 a16 a17 a18 a19 a20 a21 a22 a23 C0 C1 C2 C3 C4 C5 C6 : Addr} (X : K.In h) (Gm : h.Ns mainGlobals mg) (hfa : mg "law" = some (.ref fa)) (TB : TabsOf q K mg h)
    {od0 an0 : Option Addr} {sl0 : Array (Option Value)} {oc0 kV0 dc0 pm0 cd0 ct0 : Value}
    {od1 an1 : Option Addr} {sl1 : Array (Option Value)} {oc1 kV1 dc1 pm1 cd1 ct1 : Value}
    {od2 an2 : Option Addr} {sl2 : Array (Option Value)} {oc2 kV2 dc2 pm2 cd2 ct2 : Value}
    {od3 an3 : Option Addr} {sl3 : Array (Option Value)} {oc3 kV3 dc3 pm3 cd3 ct3 : Value}
    {od4 an4 : Option Addr} {sl4 : Array (Option Value)} {oc4 kV4 dc4 pm4 cd4 ct4 : Value}
    {od5 an5 : Option Addr} {sl5 : Array (Option Value)} {oc5 kV5 dc5 pm5 cd5 ct5 : Value}
    {od6 an6 : Option Addr} {sl6 : Array (Option Value)} {oc6 kV6 dc6 pm6 cd6 ct6 : Value}
    {od7 an7 : Option Addr} {sl7 : Array (Option Value)} {oc7 kV7 dc7 pm7 cd7 ct7 : Value}
    {od8 an8 : Option Addr} {sl8 : Array (Option Value)} {oc8 kV8 dc8 pm8 cd8 ct8 : Value}
    {od9 an9 : Option Addr} {sl9 : Array (Option Value)} {oc9 kV9 dc9 pm9 cd9 ct9 : Value}
    {od10 an10 : Option Addr} {sl10 : Array (Option Value)} {oc10 kV10 dc10 pm10 cd10 ct10 : Value}
    {od11 an11 : Option Addr} {sl11 : Array (Option Value)} {oc11 kV11 dc11 pm11 cd11 ct11 : Value}
    {od12 an12 : Option Addr} {sl12 : Array (Option Value)} {oc12 kV12 dc12 pm12 cd12 ct12 : Value}
    {od13 an13 : Option Addr} {sl13 : Array (Option Value)} {oc13 kV13 dc13 pm13 cd13 ct13 : Value}
    {od14 an14 : Option Addr} {sl14 : Array (Option Value)} {oc14 kV14 dc14 pm14 cd14 ct14 : Value}
    {od15 an15 : Option Addr} {sl15 : Array (Option Value)} {oc15 kV15 dc15 pm15 cd15 ct15 : Value}
    {od16 an16 : Option Addr} {sl16 : Array (Option Value)} {oc16 kV16 dc16 pm16 cd16 ct16 : Value}
    {od17 an17 : Option Addr} {sl17 : Array (Option Value)} {oc17 kV17 dc17 pm17 cd17 ct17 : Value}
    {od18 an18 : Option Addr} {sl18 : Array (Option Value)} {oc18 kV18 dc18 pm18 cd18 ct18 : Value}
    {od19 an19 : Option Addr} {sl19 : Array (Option Value)} {oc19 kV19 dc19 pm19 cd19 ct19 : Value}
    {od20 an20 : Option Addr} {sl20 : Array (Option Value)} {oc20 kV20 dc20 pm20 cd20 ct20 : Value}
    {od21 an21 : Option Addr} {sl21 : Array (Option Value)} {oc21 kV21 dc21 pm21 cd21 ct21 : Value}
    {od22 an22 : Option Addr} {sl22 : Array (Option Value)} {oc22 kV22 dc22 pm22 ct22 : Value} {cc22 pp22 : Addr} {ee22 : Value} {dd22 : Option Addr} {vs22 : Array Value} {sm22 : Array (Option Value)}
    {od23 an23 : Option Addr} {sl23 : Array (Option Value)} {oc23 kV23 dc23 pm23 ct23 : Value} {cc23 pp23 : Addr} {ee23 : Value} {dd23 : Option Addr} {vs23 : Array Value} {sm23 : Array (Option Value)}
    {nm4 qn4 : Str} {N4 i4 : Addr} {bs4 bm4 sb4 : List Value} {sn4 : List Str} {ab4 : Bool} {co4 : Option Bool} {de4 : Option Addr} {ma4 mb4 mc4 md4 me4 : Option Value} {oi4 ai4 : Option Addr} {si4 : Array (Option Value)} {xc4 xv4 xd4 xp4 xk4 xt4 : Value}
    {nm5 qn5 : Str} {N5 i5 : Addr} {bs5 bm5 sb5 : List Value} {sn5 : List Str} {ab5 : Bool} {co5 : Option Bool} {de5 : Option Addr} {ma5 mb5 mc5 md5 me5 : Option Value} {oi5 ai5 : Option Addr} {si5 : Array (Option Value)} {xc5 xv5 xd5 xp5 xk5 xt5 : Value}
    {tk_MOST_PLACES : Tok}
    (n0 : PySem.W.nsIn K mainGlobals "is_integer" = some (some (.ref a0)))
    (l0 : K.lookup a0 = some ⟨oc0, od0, .func (PySem.W.fnOf "is_integer" "is_integer" (defArgs s_is_integer) (defBody s_is_integer) (defScope s_is_integer) .none kV0 dc0 pm0 an0 cd0 ct0), sl0⟩)
    (c0 : PySem.W.codeIn K cd0 "is_integer" = true)
    (k0 : PySem.W.keepIn K (.ref a0) = true)
    (n1 : PySem.W.nsIn K mainGlobals "is_within" = some (some (.ref a1)))
    (l1 : K.lookup a1 = some ⟨oc1, od1, .func (PySem.W.fnOf "is_within" "is_within" (defArgs s_is_within) (defBody s_is_within) (defScope s_is_within) .none kV1 dc1 pm1 an1 cd1 ct1), sl1⟩)
    (c1 : PySem.W.codeIn K cd1 "is_within" = true)
    (k1 : PySem.W.keepIn K (.ref a1) = true)
    (n2 : PySem.W.nsIn K mainGlobals "is_list" = some (some (.ref a2)))
    (l2 : K.lookup a2 = some ⟨oc2, od2, .func (PySem.W.fnOf "is_list" "is_list" (defArgs s_is_list) (defBody s_is_list) (defScope s_is_list) .none kV2 dc2 pm2 an2 cd2 ct2), sl2⟩)
    (c2 : PySem.W.codeIn K cd2 "is_list" = true)
    (k2 : PySem.W.keepIn K (.ref a2) = true)
    (n3 : PySem.W.nsIn K mainGlobals "are_places" = some (some (.ref a3)))
    (l3 : K.lookup a3 = some ⟨oc3, od3, .func (PySem.W.fnOf "are_places" "are_places" (defArgs s_are_places) (defBody s_are_places) (defScope s_are_places) .none kV3 dc3 pm3 an3 cd3 ct3), sl3⟩)
    (c3 : PySem.W.codeIn K cd3 "are_places" = true)
    (k3 : PySem.W.keepIn K (.ref a3) = true)
    (n4 : PySem.W.nsIn K mainGlobals "ordered" = some (some (.ref a4)))
    (l4 : K.lookup a4 = some ⟨oc4, od4, .func (PySem.W.fnOf "ordered" "ordered" (defArgs s_ordered) (defBody s_ordered) (defScope s_ordered) .none kV4 dc4 pm4 an4 cd4 ct4), sl4⟩)
    (c4 : PySem.W.codeIn K cd4 "ordered" = true)
    (k4 : PySem.W.keepIn K (.ref a4) = true)
    (n5 : PySem.W.nsIn K mainGlobals "grown" = some (some (.ref a5)))
    (l5 : K.lookup a5 = some ⟨oc5, od5, .func (PySem.W.fnOf "grown" "grown" (defArgs s_grown) (defBody s_grown) (defScope s_grown) .none kV5 dc5 pm5 an5 cd5 ct5), sl5⟩)
    (c5 : PySem.W.codeIn K cd5 "grown" = true)
    (k5 : PySem.W.keepIn K (.ref a5) = true)
    (n6 : PySem.W.nsIn K mainGlobals "all_groupings" = some (some (.ref a6)))
    (l6 : K.lookup a6 = some ⟨oc6, od6, .func (PySem.W.fnOf "all_groupings" "all_groupings" (defArgs s_all_groupings) (defBody s_all_groupings) (defScope s_all_groupings) .none kV6 dc6 pm6 an6 cd6 ct6), sl6⟩)
    (c6 : PySem.W.codeIn K cd6 "all_groupings" = true)
    (k6 : PySem.W.keepIn K (.ref a6) = true)
    (n7 : PySem.W.nsIn K mainGlobals "is_grouping_of" = some (some (.ref a7)))
    (l7 : K.lookup a7 = some ⟨oc7, od7, .func (PySem.W.fnOf "is_grouping_of" "is_grouping_of" (defArgs s_is_grouping_of) (defBody s_is_grouping_of) (defScope s_is_grouping_of) .none kV7 dc7 pm7 an7 cd7 ct7), sl7⟩)
    (c7 : PySem.W.codeIn K cd7 "is_grouping_of" = true)
    (k7 : PySem.W.keepIn K (.ref a7) = true)
    (n8 : PySem.W.nsIn K mainGlobals "border_groupings" = some (some (.ref a8)))
    (l8 : K.lookup a8 = some ⟨oc8, od8, .func (PySem.W.fnOf "border_groupings" "border_groupings" (defArgs s_border_groupings) (defBody s_border_groupings) (defScope s_border_groupings) .none kV8 dc8 pm8 an8 cd8 ct8), sl8⟩)
    (c8 : PySem.W.codeIn K cd8 "border_groupings" = true)
    (k8 : PySem.W.keepIn K (.ref a8) = true)
    (n9 : PySem.W.nsIn K mainGlobals "is_border_grouping" = some (some (.ref a9)))
    (l9 : K.lookup a9 = some ⟨oc9, od9, .func (PySem.W.fnOf "is_border_grouping" "is_border_grouping" (defArgs s_is_border_grouping) (defBody s_is_border_grouping) (defScope s_is_border_grouping) .none kV9 dc9 pm9 an9 cd9 ct9), sl9⟩)
    (c9 : PySem.W.codeIn K cd9 "is_border_grouping" = true)
    (k9 : PySem.W.keepIn K (.ref a9) = true)
    (n10 : PySem.W.nsIn K mainGlobals "is_finer" = some (some (.ref a10)))
    (l10 : K.lookup a10 = some ⟨oc10, od10, .func (PySem.W.fnOf "is_finer" "is_finer" (defArgs s_is_finer) (defBody s_is_finer) (defScope s_is_finer) .none kV10 dc10 pm10 an10 cd10 ct10), sl10⟩)
    (c10 : PySem.W.codeIn K cd10 "is_finer" = true)
    (k10 : PySem.W.keepIn K (.ref a10) = true)
    (n11 : PySem.W.nsIn K mainGlobals "is_some_grouping" = some (some (.ref a11)))
    (l11 : K.lookup a11 = some ⟨oc11, od11, .func (PySem.W.fnOf "is_some_grouping" "is_some_grouping" (defArgs s_is_some_grouping) (defBody s_is_some_grouping) (defScope s_is_some_grouping) .none kV11 dc11 pm11 an11 cd11 ct11), sl11⟩)
    (c11 : PySem.W.codeIn K cd11 "is_some_grouping" = true)
    (k11 : PySem.W.keepIn K (.ref a11) = true)
    (n12 : PySem.W.nsIn K mainGlobals "_law_bag" = some (some (.ref a12)))
    (l12 : K.lookup a12 = some ⟨oc12, od12, .func (PySem.W.fnOf "_law_bag" "_law_bag" (defArgs s_law_bag) (defBody s_law_bag) (defScope s_law_bag) .none kV12 dc12 pm12 an12 cd12 ct12), sl12⟩)
    (c12 : PySem.W.codeIn K cd12 "_law_bag" = true)
    (k12 : PySem.W.keepIn K (.ref a12) = true)
    (n13 : PySem.W.nsIn K mainGlobals "_law_draw" = some (some (.ref a13)))
    (l13 : K.lookup a13 = some ⟨oc13, od13, .func (PySem.W.fnOf "_law_draw" "_law_draw" (defArgs s_law_draw) (defBody s_law_draw) (defScope s_law_draw) .none kV13 dc13 pm13 an13 cd13 ct13), sl13⟩)
    (c13 : PySem.W.codeIn K cd13 "_law_draw" = true)
    (k13 : PySem.W.keepIn K (.ref a13) = true)
    (n14 : PySem.W.nsIn K mainGlobals "_law_pick" = some (some (.ref a14)))
    (l14 : K.lookup a14 = some ⟨oc14, od14, .func (PySem.W.fnOf "_law_pick" "_law_pick" (defArgs s_law_pick) (defBody s_law_pick) (defScope s_law_pick) .none kV14 dc14 pm14 an14 cd14 ct14), sl14⟩)
    (c14 : PySem.W.codeIn K cd14 "_law_pick" = true)
    (k14 : PySem.W.keepIn K (.ref a14) = true)
    (n15 : PySem.W.nsIn K mainGlobals "_law_splits" = some (some (.ref a15)))
    (l15 : K.lookup a15 = some ⟨oc15, od15, .func (PySem.W.fnOf "_law_splits" "_law_splits" (defArgs s_law_splits) (defBody s_law_splits) (defScope s_law_splits) .none kV15 dc15 pm15 an15 cd15 ct15), sl15⟩)
    (c15 : PySem.W.codeIn K cd15 "_law_splits" = true)
    (k15 : PySem.W.keepIn K (.ref a15) = true)
    (n16 : PySem.W.nsIn K mainGlobals "_law_grouping" = some (some (.ref a16)))
    (l16 : K.lookup a16 = some ⟨oc16, od16, .func (PySem.W.fnOf "_law_grouping" "_law_grouping" (defArgs s_law_grouping) (defBody s_law_grouping) (defScope s_law_grouping) .none kV16 dc16 pm16 an16 cd16 ct16), sl16⟩)
    (c16 : PySem.W.codeIn K cd16 "_law_grouping" = true)
    (k16 : PySem.W.keepIn K (.ref a16) = true)
    (n17 : PySem.W.nsIn K mainGlobals "_law_states" = some (some (.ref a17)))
    (l17 : K.lookup a17 = some ⟨oc17, od17, .func (PySem.W.fnOf "_law_states" "_law_states" (defArgs s_law_states) (defBody s_law_states) (defScope s_law_states) .none kV17 dc17 pm17 an17 cd17 ct17), sl17⟩)
    (c17 : PySem.W.codeIn K cd17 "_law_states" = true)
    (k17 : PySem.W.keepIn K (.ref a17) = true)
    (n18 : PySem.W.nsIn K mainGlobals "_law_heard" = some (some (.ref a18)))
    (l18 : K.lookup a18 = some ⟨oc18, od18, .func (PySem.W.fnOf "_law_heard" "_law_heard" (defArgs s_law_heard) (defBody s_law_heard) (defScope s_law_heard) .none kV18 dc18 pm18 an18 cd18 ct18), sl18⟩)
    (c18 : PySem.W.codeIn K cd18 "_law_heard" = true)
    (k18 : PySem.W.keepIn K (.ref a18) = true)
    (n19 : PySem.W.nsIn K mainGlobals "_law_any_groups" = some (some (.ref a19)))
    (l19 : K.lookup a19 = some ⟨oc19, od19, .func (PySem.W.fnOf "_law_any_groups" "_law_any_groups" (defArgs s_law_any_groups) (defBody s_law_any_groups) (defScope s_law_any_groups) .none kV19 dc19 pm19 an19 cd19 ct19), sl19⟩)
    (c19 : PySem.W.codeIn K cd19 "_law_any_groups" = true)
    (k19 : PySem.W.keepIn K (.ref a19) = true)
    (n20 : PySem.W.nsIn K mainGlobals "_law_is_grouping" = some (some (.ref a20)))
    (l20 : K.lookup a20 = some ⟨oc20, od20, .func (PySem.W.fnOf "_law_is_grouping" "_law_is_grouping" (defArgs s_law_is_grouping) (defBody s_law_is_grouping) (defScope s_law_is_grouping) .none kV20 dc20 pm20 an20 cd20 ct20), sl20⟩)
    (c20 : PySem.W.codeIn K cd20 "_law_is_grouping" = true)
    (k20 : PySem.W.keepIn K (.ref a20) = true)
    (n21 : PySem.W.nsIn K mainGlobals "_law_is_finer" = some (some (.ref a21)))
    (l21 : K.lookup a21 = some ⟨oc21, od21, .func (PySem.W.fnOf "_law_is_finer" "_law_is_finer" (defArgs s_law_is_finer) (defBody s_law_is_finer) (defScope s_law_is_finer) .none kV21 dc21 pm21 an21 cd21 ct21), sl21⟩)
    (c21 : PySem.W.codeIn K cd21 "_law_is_finer" = true)
    (k21 : PySem.W.keepIn K (.ref a21) = true)
    (n22 : PySem.W.nsIn K mainGlobals "_law_finer_right" = some (some (.ref a22)))
    (l22 : K.lookup a22 = some ⟨oc22, od22, .func (PySem.W.fnOf "_law_finer_right" "_law_finer_right" (defArgs s_law_finer_right) (defBody s_law_finer_right) (defScope s_law_finer_right) .none kV22 dc22 pm22 an22 (.ref cc22) ct22), sl22⟩)
    (c22 : PySem.W.codeIn K (.ref cc22) "_law_finer_right" = true)
    (k22 : PySem.W.keepIn K (.ref a22) = true)
    (q22 : K.lookup cc22 = some ⟨ee22, dd22, .fields vs22, sm22⟩)
    (w22 : vs22[11]? = some (.ref pp22))
    (np22 : K.lookup pp22 = none)
    (rr22 : ((recsOf q).any fun e => e.name == "_law_finer_right") = true)
    (n23 : PySem.W.nsIn K mainGlobals "law" = some (some (.ref a23)))
    (l23 : K.lookup a23 = some ⟨oc23, od23, .func (PySem.W.fnOf "law" "law" (defArgs s_law) (defBody s_law) (defScope s_law) .none kV23 dc23 pm23 an23 (.ref cc23) ct23), sl23⟩)
    (c23 : PySem.W.codeIn K (.ref cc23) "law" = true)
    (k23 : PySem.W.keepIn K (.ref a23) = true)
    (q23 : K.lookup cc23 = some ⟨ee23, dd23, .fields vs23, sm23⟩)
    (w23 : vs23[11]? = some (.ref pp23))
    (np23 : K.lookup pp23 = none)
    (rr23 : ((recsOf q).any fun e => e.name == "law") = true)
    (z_abs : PySem.W.nsIn K mainGlobals "abs" = some none)
    (z_all : PySem.W.nsIn K mainGlobals "all" = some none)
    (z_any : PySem.W.nsIn K mainGlobals "any" = some none)
    (z_bool : PySem.W.nsIn K mainGlobals "bool" = some none)
    (z_enumerate : PySem.W.nsIn K mainGlobals "enumerate" = some none)
    (z_int : PySem.W.nsIn K mainGlobals "int" = some none)
    (z_isinstance : PySem.W.nsIn K mainGlobals "isinstance" = some none)
    (z_len : PySem.W.nsIn K mainGlobals "len" = some none)
    (z_list : PySem.W.nsIn K mainGlobals "list" = some none)
    (z_max : PySem.W.nsIn K mainGlobals "max" = some none)
    (z_range : PySem.W.nsIn K mainGlobals "range" = some none)
    (z_repr : PySem.W.nsIn K mainGlobals "repr" = some none)
    (z_sorted : PySem.W.nsIn K mainGlobals "sorted" = some none)
    (z_sum : PySem.W.nsIn K mainGlobals "sum" = some none)
    (z_tuple : PySem.W.nsIn K mainGlobals "tuple" = some none)
    (z_zip : PySem.W.nsIn K mainGlobals "zip" = some none)
    (g_MOST_PLACES : PySem.W.nsIn K mainGlobals "MOST_PLACES" = some (some (.int 3 tk_MOST_PLACES)))
    (nc0 : PySem.W.nsIn K mainGlobals "GiveError" = some (some (.ref C0)))
    (nc1 : PySem.W.nsIn K mainGlobals "NoPiece" = some (some (.ref C1)))
    (nc2 : PySem.W.nsIn K mainGlobals "BadGroups" = some (some (.ref C2)))
    (nc3 : PySem.W.nsIn K mainGlobals "BadUnit" = some (some (.ref C3)))
    (nc4 : PySem.W.nsIn K mainGlobals "BadBorder" = some (some (.ref C4)))
    (nc5 : PySem.W.nsIn K mainGlobals "BadNumber" = some (some (.ref C5)))
    (nc6 : PySem.W.nsIn K mainGlobals "TooMany" = some (some (.ref C6)))
    (x4 : K.lookup C4 = some (excClassObj nm4 qn4 C4 N4 bs4 bm4 true sn4 sb4 ab4 co4 de4 ma4 mb4 mc4 md4 me4 "ValueError.__new__"))
    (rv4 : PySem.HandSPX.refsVE bm4 = true)
    (sa4 : PySem.W.findIn K (.ref C4) "__setattr__" = some (some (.builtin "object.__setattr__")))
    (ec4 : PySem.W.subIn K (.ref C4) (.type "BaseException") = some true)
    (ty4 : PySem.W.typeIn K (.ref C4) = some (.type "type"))
    (kc4 : PySem.W.keepIn K (.ref C4) = true)
    (in4 : PySem.W.findIn K (.ref C4) "__init__" = some (some (.ref i4)))
    (ti4 : PySem.W.typeIn K (.ref i4) = some (.type "function"))
    (li4 : K.lookup i4 = some ⟨xc4, oi4, .func (PySem.W.fnOf "__init__" "BadBorder.__init__" (defArgs si_BadBorder) (defBody si_BadBorder) (defScope si_BadBorder) .none xv4 xd4 xp4 ai4 xk4 xt4), si4⟩)
    (ci4 : PySem.W.codeIn K xk4 "BadBorder.__init__" = true)
    (ki4 : PySem.W.keepIn K (.ref i4) = true)
    (nf4_most : PySem.W.findIn K (.ref C4) "most" = some none)
    (nf4_part : PySem.W.findIn K (.ref C4) "part" = some none)
    (nf4_value : PySem.W.findIn K (.ref C4) "value" = some none)
    (nf4_what : PySem.W.findIn K (.ref C4) "what" = some none)
    (x5 : K.lookup C5 = some (excClassObj nm5 qn5 C5 N5 bs5 bm5 true sn5 sb5 ab5 co5 de5 ma5 mb5 mc5 md5 me5 "ValueError.__new__"))
    (rv5 : PySem.HandSPX.refsVE bm5 = true)
    (sa5 : PySem.W.findIn K (.ref C5) "__setattr__" = some (some (.builtin "object.__setattr__")))
    (ec5 : PySem.W.subIn K (.ref C5) (.type "BaseException") = some true)
    (ty5 : PySem.W.typeIn K (.ref C5) = some (.type "type"))
    (kc5 : PySem.W.keepIn K (.ref C5) = true)
    (in5 : PySem.W.findIn K (.ref C5) "__init__" = some (some (.ref i5)))
    (ti5 : PySem.W.typeIn K (.ref i5) = some (.type "function"))
    (li5 : K.lookup i5 = some ⟨xc5, oi5, .func (PySem.W.fnOf "__init__" "BadNumber.__init__" (defArgs si_BadNumber) (defBody si_BadNumber) (defScope si_BadNumber) .none xv5 xd5 xp5 ai5 xk5 xt5), si5⟩)
    (ci5 : PySem.W.codeIn K xk5 "BadNumber.__init__" = true)
    (ki5 : PySem.W.keepIn K (.ref i5) = true)
    (nf5_most : PySem.W.findIn K (.ref C5) "most" = some none)
    (nf5_part : PySem.W.findIn K (.ref C5) "part" = some none)
    (nf5_value : PySem.W.findIn K (.ref C5) "value" = some none)
    (nf5_what : PySem.W.findIn K (.ref C5) "what" = some none)
    (hg4 : PySem.W.findIn K (.ref C4) "__getattribute__" = some (some (.builtin "BaseException.__getattribute__")))
    (hk4 : PySem.W.findIn K (.ref C4) "__getattr__" = some none)
    (hd4 : PySem.W.hasDictIn K C4 = true)
    (ha4 : PySem.W.findIn K (.ref C4) "__class__" = some (some (.builtin "object.__class__")))
    (hm4 : PySem.W.mroIn K C4 (.type "object") = some true)
    (sg4 : PySem.W.exmOne K (.ref C4) (.ref C0) = some true)
    (kt4_1 : PySem.W.kitOne K (.ref C4) (.ref C1) = some false)
    (kt4_2 : PySem.W.kitOne K (.ref C4) (.ref C2) = some false)
    (kt4_3 : PySem.W.kitOne K (.ref C4) (.ref C3) = some false)
    (kt4_4 : PySem.W.kitOne K (.ref C4) (.ref C4) = some true)
    (kt4_5 : PySem.W.kitOne K (.ref C4) (.ref C5) = some false)
    (kt4_6 : PySem.W.kitOne K (.ref C4) (.ref C6) = some false)
    (hg5 : PySem.W.findIn K (.ref C5) "__getattribute__" = some (some (.builtin "BaseException.__getattribute__")))
    (hk5 : PySem.W.findIn K (.ref C5) "__getattr__" = some none)
    (hd5 : PySem.W.hasDictIn K C5 = true)
    (ha5 : PySem.W.findIn K (.ref C5) "__class__" = some (some (.builtin "object.__class__")))
    (hm5 : PySem.W.mroIn K C5 (.type "object") = some true)
    (sg5 : PySem.W.exmOne K (.ref C5) (.ref C0) = some true)
    (kt5_1 : PySem.W.kitOne K (.ref C5) (.ref C1) = some false)
    (kt5_2 : PySem.W.kitOne K (.ref C5) (.ref C2) = some false)
    (kt5_3 : PySem.W.kitOne K (.ref C5) (.ref C3) = some false)
    (kt5_4 : PySem.W.kitOne K (.ref C5) (.ref C4) = some false)
    (kt5_5 : PySem.W.kitOne K (.ref C5) (.ref C5) = some true)
    (kt5_6 : PySem.W.kitOne K (.ref C5) (.ref C6) = some false)
    (hn : PySem.W.specialIn K (.builtin "object.__class__") "__get__" = some (some (.builtin "getset_descriptor.__get__")))
    (ht : PySem.W.takesIn K (.builtin "object.__class__") = some true)
    (ne1_0 : pp23 ≠ pp22)
    : LawG l w K 10 63 "script" mg fa h := by
  have hE : fa = a23 := by
    have z := hfa.symm.trans (PySem.W.mg_of X Gm n23)
    cases z
    rfl
  rw [hE]
  clear hE hfa
  have tb22 := TB "_law_finer_right" _ cc22 pp22 _ _ _ _ _ _ rr22 (PySem.W.mg_of X Gm n22) l22 rfl rfl q22 w22
  have tb23 := TB "law" _ cc23 pp23 _ _ _ _ _ _ rr23 (PySem.W.mg_of X Gm n23) l23 rfl rfl q23 w23
  let u : U := ⟨fun c => match c with | 0 => C0 | 1 => C1 | 2 => C2 | 3 => C3 | 4 => C4 | 5 => C5 | 6 => C6 | _ => 0, [(pp22, ("_law_finer_right.<locals>." : Str) ++ "<lambda>"), (pp23, ("law.<locals>." : Str) ++ "<lambda>")]⟩
  let cs : List (Addr × Addr) := [(cc22, pp22), (cc23, pp23)]
  have T : Tx K mg u (fun i => match i with | 0 => a0 | 1 => a1 | 2 => a2 | 3 => a3 | 4 => a4 | 5 => a5 | 6 => a6 | 7 => a7 | 8 => a8 | 9 => a9 | 10 => a10 | 11 => a11 | 12 => a12 | 13 => a13 | 14 => a14 | 15 => a15 | 16 => a16 | 17 => a17 | 18 => a18 | 19 => a19 | 20 => a20 | 21 => a21 | 22 => a22 | 23 => a23 | _ => 0) (fun i => match i with | 0 => (PySem.W.fnOf "is_integer" "is_integer" (defArgs s_is_integer) (defBody s_is_integer) (defScope s_is_integer) .none kV0 dc0 pm0 an0 cd0 ct0) | 1 => (PySem.W.fnOf "is_within" "is_within" (defArgs s_is_within) (defBody s_is_within) (defScope s_is_within) .none kV1 dc1 pm1 an1 cd1 ct1) | 2 => (PySem.W.fnOf "is_list" "is_list" (defArgs s_is_list) (defBody s_is_list) (defScope s_is_list) .none kV2 dc2 pm2 an2 cd2 ct2) | 3 => (PySem.W.fnOf "are_places" "are_places" (defArgs s_are_places) (defBody s_are_places) (defScope s_are_places) .none kV3 dc3 pm3 an3 cd3 ct3) | 4 => (PySem.W.fnOf "ordered" "ordered" (defArgs s_ordered) (defBody s_ordered) (defScope s_ordered) .none kV4 dc4 pm4 an4 cd4 ct4) | 5 => (PySem.W.fnOf "grown" "grown" (defArgs s_grown) (defBody s_grown) (defScope s_grown) .none kV5 dc5 pm5 an5 cd5 ct5) | 6 => (PySem.W.fnOf "all_groupings" "all_groupings" (defArgs s_all_groupings) (defBody s_all_groupings) (defScope s_all_groupings) .none kV6 dc6 pm6 an6 cd6 ct6) | 7 => (PySem.W.fnOf "is_grouping_of" "is_grouping_of" (defArgs s_is_grouping_of) (defBody s_is_grouping_of) (defScope s_is_grouping_of) .none kV7 dc7 pm7 an7 cd7 ct7) | 8 => (PySem.W.fnOf "border_groupings" "border_groupings" (defArgs s_border_groupings) (defBody s_border_groupings) (defScope s_border_groupings) .none kV8 dc8 pm8 an8 cd8 ct8) | 9 => (PySem.W.fnOf "is_border_grouping" "is_border_grouping" (defArgs s_is_border_grouping) (defBody s_is_border_grouping) (defScope s_is_border_grouping) .none kV9 dc9 pm9 an9 cd9 ct9) | 10 => (PySem.W.fnOf "is_finer" "is_finer" (defArgs s_is_finer) (defBody s_is_finer) (defScope s_is_finer) .none kV10 dc10 pm10 an10 cd10 ct10) | 11 => (PySem.W.fnOf "is_some_grouping" "is_some_grouping" (defArgs s_is_some_grouping) (defBody s_is_some_grouping) (defScope s_is_some_grouping) .none kV11 dc11 pm11 an11 cd11 ct11) | 12 => (PySem.W.fnOf "_law_bag" "_law_bag" (defArgs s_law_bag) (defBody s_law_bag) (defScope s_law_bag) .none kV12 dc12 pm12 an12 cd12 ct12) | 13 => (PySem.W.fnOf "_law_draw" "_law_draw" (defArgs s_law_draw) (defBody s_law_draw) (defScope s_law_draw) .none kV13 dc13 pm13 an13 cd13 ct13) | 14 => (PySem.W.fnOf "_law_pick" "_law_pick" (defArgs s_law_pick) (defBody s_law_pick) (defScope s_law_pick) .none kV14 dc14 pm14 an14 cd14 ct14) | 15 => (PySem.W.fnOf "_law_splits" "_law_splits" (defArgs s_law_splits) (defBody s_law_splits) (defScope s_law_splits) .none kV15 dc15 pm15 an15 cd15 ct15) | 16 => (PySem.W.fnOf "_law_grouping" "_law_grouping" (defArgs s_law_grouping) (defBody s_law_grouping) (defScope s_law_grouping) .none kV16 dc16 pm16 an16 cd16 ct16) | 17 => (PySem.W.fnOf "_law_states" "_law_states" (defArgs s_law_states) (defBody s_law_states) (defScope s_law_states) .none kV17 dc17 pm17 an17 cd17 ct17) | 18 => (PySem.W.fnOf "_law_heard" "_law_heard" (defArgs s_law_heard) (defBody s_law_heard) (defScope s_law_heard) .none kV18 dc18 pm18 an18 cd18 ct18) | 19 => (PySem.W.fnOf "_law_any_groups" "_law_any_groups" (defArgs s_law_any_groups) (defBody s_law_any_groups) (defScope s_law_any_groups) .none kV19 dc19 pm19 an19 cd19 ct19) | 20 => (PySem.W.fnOf "_law_is_grouping" "_law_is_grouping" (defArgs s_law_is_grouping) (defBody s_law_is_grouping) (defScope s_law_is_grouping) .none kV20 dc20 pm20 an20 cd20 ct20) | 21 => (PySem.W.fnOf "_law_is_finer" "_law_is_finer" (defArgs s_law_is_finer) (defBody s_law_is_finer) (defScope s_law_is_finer) .none kV21 dc21 pm21 an21 cd21 ct21) | 22 => (PySem.W.fnOf "_law_finer_right" "_law_finer_right" (defArgs s_law_finer_right) (defBody s_law_finer_right) (defScope s_law_finer_right) .none kV22 dc22 pm22 an22 (.ref cc22) ct22) | _ => (PySem.W.fnOf "law" "law" (defArgs s_law) (defBody s_law) (defScope s_law) .none kV23 dc23 pm23 an23 (.ref cc23) ct23))
      (fun i => match i with | 4 => i4 | 5 => i5 | _ => 0) (fun i => match i with | 4 => (PySem.W.fnOf "__init__" "BadBorder.__init__" (defArgs si_BadBorder) (defBody si_BadBorder) (defScope si_BadBorder) .none xv4 xd4 xp4 ai4 xk4 xt4) | _ => (PySem.W.fnOf "__init__" "BadNumber.__init__" (defArgs si_BadNumber) (defBody si_BadNumber) (defScope si_BadNumber) .none xv5 xd5 xp5 ai5 xk5 xt5)) cs
      (fun i => match i with | 22 => (cc22, pp22) | 23 => (cc23, pp23) | _ => (0, 0)) := {
    fn_is_integer := fun_mk (st := s_is_integer) l0 c0 k0
    mg_is_integer := PySem.W.mg_of X Gm n0
    fn_is_within := fun_mk (st := s_is_within) l1 c1 k1
    mg_is_within := PySem.W.mg_of X Gm n1
    fn_is_list := fun_mk (st := s_is_list) l2 c2 k2
    mg_is_list := PySem.W.mg_of X Gm n2
    fn_are_places := fun_mk (st := s_are_places) l3 c3 k3
    mg_are_places := PySem.W.mg_of X Gm n3
    fn_ordered := fun_mk (st := s_ordered) l4 c4 k4
    mg_ordered := PySem.W.mg_of X Gm n4
    fn_grown := fun_mk (st := s_grown) l5 c5 k5
    mg_grown := PySem.W.mg_of X Gm n5
    fn_all_groupings := fun_mk (st := s_all_groupings) l6 c6 k6
    mg_all_groupings := PySem.W.mg_of X Gm n6
    fn_is_grouping_of := fun_mk (st := s_is_grouping_of) l7 c7 k7
    mg_is_grouping_of := PySem.W.mg_of X Gm n7
    fn_border_groupings := fun_mk (st := s_border_groupings) l8 c8 k8
    mg_border_groupings := PySem.W.mg_of X Gm n8
    fn_is_border_grouping := fun_mk (st := s_is_border_grouping) l9 c9 k9
    mg_is_border_grouping := PySem.W.mg_of X Gm n9
    fn_is_finer := fun_mk (st := s_is_finer) l10 c10 k10
    mg_is_finer := PySem.W.mg_of X Gm n10
    fn_is_some_grouping := fun_mk (st := s_is_some_grouping) l11 c11 k11
    mg_is_some_grouping := PySem.W.mg_of X Gm n11
    fn_law_bag := fun_mk (st := s_law_bag) l12 c12 k12
    mg_law_bag := PySem.W.mg_of X Gm n12
    fn_law_draw := fun_mk (st := s_law_draw) l13 c13 k13
    mg_law_draw := PySem.W.mg_of X Gm n13
    fn_law_pick := fun_mk (st := s_law_pick) l14 c14 k14
    mg_law_pick := PySem.W.mg_of X Gm n14
    fn_law_splits := fun_mk (st := s_law_splits) l15 c15 k15
    mg_law_splits := PySem.W.mg_of X Gm n15
    fn_law_grouping := fun_mk (st := s_law_grouping) l16 c16 k16
    mg_law_grouping := PySem.W.mg_of X Gm n16
    fn_law_states := fun_mk (st := s_law_states) l17 c17 k17
    mg_law_states := PySem.W.mg_of X Gm n17
    fn_law_heard := fun_mk (st := s_law_heard) l18 c18 k18
    mg_law_heard := PySem.W.mg_of X Gm n18
    fn_law_any_groups := fun_mk (st := s_law_any_groups) l19 c19 k19
    mg_law_any_groups := PySem.W.mg_of X Gm n19
    fn_law_is_grouping := fun_mk (st := s_law_is_grouping) l20 c20 k20
    mg_law_is_grouping := PySem.W.mg_of X Gm n20
    fn_law_is_finer := fun_mk (st := s_law_is_finer) l21 c21 k21
    mg_law_is_finer := PySem.W.mg_of X Gm n21
    fn_law_finer_right := fun_mk (st := s_law_finer_right) l22 c22 k22
    mg_law_finer_right := PySem.W.mg_of X Gm n22
    fn_law := fun_mk (st := s_law) l23 c23 k23
    mg_law := PySem.W.mg_of X Gm n23
    no_abs := PySem.W.mg_none_of X Gm z_abs
    no_all := PySem.W.mg_none_of X Gm z_all
    no_any := PySem.W.mg_none_of X Gm z_any
    no_bool := PySem.W.mg_none_of X Gm z_bool
    no_enumerate := PySem.W.mg_none_of X Gm z_enumerate
    no_int := PySem.W.mg_none_of X Gm z_int
    no_isinstance := PySem.W.mg_none_of X Gm z_isinstance
    no_len := PySem.W.mg_none_of X Gm z_len
    no_list := PySem.W.mg_none_of X Gm z_list
    no_max := PySem.W.mg_none_of X Gm z_max
    no_range := PySem.W.mg_none_of X Gm z_range
    no_repr := PySem.W.mg_none_of X Gm z_repr
    no_sorted := PySem.W.mg_none_of X Gm z_sorted
    no_sum := PySem.W.mg_none_of X Gm z_sum
    no_tuple := PySem.W.mg_none_of X Gm z_tuple
    no_zip := PySem.W.mg_none_of X Gm z_zip
    gl_MOST_PLACES := ⟨_, PySem.W.mg_of X Gm g_MOST_PLACES⟩
    mc_GiveError := PySem.W.mg_of X Gm nc0
    mc_NoPiece := PySem.W.mg_of X Gm nc1
    mc_BadGroups := PySem.W.mg_of X Gm nc2
    mc_BadUnit := PySem.W.mg_of X Gm nc3
    mc_BadBorder := PySem.W.mg_of X Gm nc4
    mc_BadNumber := PySem.W.mg_of X Gm nc5
    mc_TooMany := PySem.W.mg_of X Gm nc6
    ox_BadBorder := ⟨⟨nm4, qn4, N4, bs4, bm4, sn4, sb4, ab4, co4, de4, ma4, mb4, mc4, md4, me4, x4, rv4⟩, sa4, ec4, ty4, kc4⟩
    in_BadBorder := in4
    ti_BadBorder := ti4
    fi_BadBorder := fun_mk (st := si_BadBorder) li4 ci4 ki4
    nf_BadBorder_part := nf4_part
    ox_BadNumber := ⟨⟨nm5, qn5, N5, bs5, bm5, sn5, sb5, ab5, co5, de5, ma5, mb5, mc5, md5, me5, x5, rv5⟩, sa5, ec5, ty5, kc5⟩
    in_BadNumber := in5
    ti_BadNumber := ti5
    fi_BadNumber := fun_mk (st := si_BadNumber) li5 ci5 ki5
    nf_BadNumber_part := nf5_part
    xc := fun c hc => by
      simp only [okX, okG, Bool.or_eq_true, beq_iff_eq] at hc
      rcases hc with (rfl | rfl)
      · exact ⟨hg4, hk4, ec4, hd4, ha4, hn, ht, hm4⟩
      · exact ⟨hg5, hk5, ec5, hd5, ha5, hn, ht, hm5⟩
    kt := fun c d hc hd => by
      simp only [okX, okY, Bool.or_eq_true, beq_iff_eq] at hc hd
      rcases hc with (rfl | rfl) <;> rcases hd with (((((rfl | rfl) | rfl) | rfl) | rfl) | rfl)
      · exact kt4_1
      · exact kt4_2
      · exact kt4_3
      · exact kt4_4
      · exact kt4_5
      · exact kt4_6
      · exact kt5_1
      · exact kt5_2
      · exact kt5_3
      · exact kt5_4
      · exact kt5_5
      · exact kt5_6
    xf_most := fun c hc => by
      simp only [okX, okG, Bool.or_eq_true, beq_iff_eq] at hc
      rcases hc with (rfl | rfl)
      · exact ⟨⟨hg4, hk4, ec4, hd4, ha4, hn, ht, hm4⟩, nf4_most⟩
      · exact ⟨⟨hg5, hk5, ec5, hd5, ha5, hn, ht, hm5⟩, nf5_most⟩
    xf_part := fun c hc => by
      simp only [okX, okG, Bool.or_eq_true, beq_iff_eq] at hc
      rcases hc with (rfl | rfl)
      · exact ⟨⟨hg4, hk4, ec4, hd4, ha4, hn, ht, hm4⟩, nf4_part⟩
      · exact ⟨⟨hg5, hk5, ec5, hd5, ha5, hn, ht, hm5⟩, nf5_part⟩
    xf_value := fun c hc => by
      simp only [okX, okG, Bool.or_eq_true, beq_iff_eq] at hc
      rcases hc with (rfl | rfl)
      · exact ⟨⟨hg4, hk4, ec4, hd4, ha4, hn, ht, hm4⟩, nf4_value⟩
      · exact ⟨⟨hg5, hk5, ec5, hd5, ha5, hn, ht, hm5⟩, nf5_value⟩
    xf_what := fun c hc => by
      simp only [okX, okG, Bool.or_eq_true, beq_iff_eq] at hc
      rcases hc with (rfl | rfl)
      · exact ⟨⟨hg4, hk4, ec4, hd4, ha4, hn, ht, hm4⟩, nf4_what⟩
      · exact ⟨⟨hg5, hk5, ec5, hd5, ha5, hn, ht, hm5⟩, nf5_what⟩
    gv := fun c hc => by
      simp only [okX, okG, Bool.or_eq_true, beq_iff_eq] at hc
      rcases hc with (rfl | rfl)
      · exact sg4
      · exact sg5
    cs_all := rfl
    cs_law_finer_right := by simp [cs]
    cd_law_finer_right := rfl
    tm_law_finer_right := by simp [u]
    tu_law_finer_right := fun p hp e => by
      simp only [u, List.mem_cons, List.not_mem_nil, or_false] at hp
      rcases hp with rfl | rfl
      · rfl
      · first | exact absurd e ne1_0 | exact absurd e.symm ne1_0
    cs_law := by simp [cs]
    cd_law := rfl
    tm_law := by simp [u]
    tu_law := fun p hp e => by
      simp only [u, List.mem_cons, List.not_mem_nil, or_false] at hp
      rcases hp with rfl | rfl
      · first | exact absurd e ne1_0 | exact absurd e.symm ne1_0
      · rfl
  }
  refine ⟨(PySem.W.fnOf "law" "law" (defArgs s_law) (defBody s_law) (defScope s_law) .none kV23 dc23 pm23 an23 (.ref cc23) ct23), cs, SpS K u 1 f_law, fun p hp => ?_, fun p hp => ?_, fun p hp => ?_, fun s v => .of_eq rfl, fun H a ns hn _ hT hS => ?_, fun base kin gl tb => ok_law T tb⟩
  · simp only [cs, List.mem_cons, List.not_mem_nil, or_false] at hp
    rcases hp with rfl | rfl
    · exact tb22.1
    · exact tb23.1
  · simp only [cs, List.mem_cons, List.not_mem_nil, or_false] at hp
    rcases hp with rfl | rfl
    · exact np22
    · exact np23
  · simp only [cs, List.mem_cons, List.not_mem_nil, or_false] at hp
    rcases hp with rfl | rfl
    · exact tb22.2
    · exact tb23.2
  · obtain ⟨μ, e⟩ := law_true ns hn
    refine sp_law e (fun p hp => ?_) hS
    simp only [u, List.mem_cons, List.not_mem_nil, or_false] at hp
    rcases hp with rfl | rfl
    · exact hT (cc22, pp22) (by simp [cs])
    · exact hT (cc23, pp23) (by simp [cs])
end K65
open PySem PySem.W
      PyProof.Rows
set_option
      maxRecDepth 100000 in
set_option maxHeartbeats 0 in
theorem PySem.Challenge.cw_givesway_k65_groupings_of_places_holds : PySem.Challenge.rw_givesway_k65_groupings_of_places.Holds := by
  w_on; o_law; k_head;
        (case hw => w_witness2)
  k_fill
  refine G.walk_ofG (l := PySem.Challenge.rw_givesway_k65_groupings_of_places) (k := 10) (n := 63) (x := "script") rfl (by decide) rfl ⟨rfl, by decide, by decide⟩ (fun w h Y => PySem.W.km_in_of Y) ?F
  case F =>
    intro w mg fa h Y KX Gm hmg TB
    refine' K65.all_mk KX Gm hmg TB ?n0 ?l0 ?c0 ?k0 ?n1 ?l1 ?c1 ?k1 ?n2 ?l2 ?c2 ?k2 ?n3 ?l3 ?c3 ?k3 ?n4 ?l4 ?c4 ?k4 ?n5 ?l5 ?c5 ?k5 ?n6 ?l6 ?c6 ?k6 ?n7 ?l7 ?c7 ?k7 ?n8 ?l8 ?c8 ?k8 ?n9 ?l9 ?c9 ?k9 ?n10 ?l10 ?c10 ?k10 ?n11 ?l11 ?c11 ?k11 ?n12 ?l12 ?c12 ?k12 ?n13 ?l13 ?c13 ?k13 ?n14 ?l14 ?c14 ?k14 ?n15 ?l15 ?c15 ?k15 ?n16 ?l16 ?c16 ?k16 ?n17 ?l17 ?c17 ?k17 ?n18 ?l18 ?c18 ?k18 ?n19 ?l19 ?c19 ?k19 ?n20 ?l20 ?c20 ?k20 ?n21 ?l21 ?c21 ?k21 ?n22 ?l22 ?c22 ?k22 ?q22 ?w22 ?np22 ?rr22 ?n23 ?l23 ?c23 ?k23 ?q23 ?w23 ?np23 ?rr23 ?z_abs ?z_all ?z_any ?z_bool ?z_enumerate ?z_int ?z_isinstance ?z_len ?z_list ?z_max ?z_range ?z_repr ?z_sorted ?z_sum ?z_tuple ?z_zip ?g_MOST_PLACES ?nc0 ?nc1 ?nc2 ?nc3 ?nc4 ?nc5 ?nc6 ?x4 ?rv4 ?sa4 ?ec4 ?ty4 ?kc4 ?in4 ?ti4 ?li4 ?ci4 ?ki4 ?nf4_most ?nf4_part ?nf4_value ?nf4_what ?x5 ?rv5 ?sa5 ?ec5 ?ty5 ?kc5 ?in5 ?ti5 ?li5 ?ci5 ?ki5 ?nf5_most ?nf5_part ?nf5_value ?nf5_what ?hg4 ?hk4 ?hd4 ?ha4 ?hm4 ?sg4 ?kt4_1 ?kt4_2 ?kt4_3 ?kt4_4 ?kt4_5 ?kt4_6 ?hg5 ?hk5 ?hd5 ?ha5 ?hm5 ?sg5 ?kt5_1 ?kt5_2 ?kt5_3 ?kt5_4 ?kt5_5 ?kt5_6 ?hn ?ht ?ne1_0
    (case n0 => k_is)
    (case l0 => k_is)
    (case c0 => k_is)
    (case k0 => k_is)
    (case n1 => k_is)
    (case l1 => k_is)
    (case c1 => k_is)
    (case k1 => k_is)
    (case n2 => k_is)
    (case l2 => k_is)
    (case c2 => k_is)
    (case k2 => k_is)
    (case n3 => k_is)
    (case l3 => k_is)
    (case c3 => k_is)
    (case k3 => k_is)
    (case n4 => k_is)
    (case l4 => k_is)
    (case c4 => k_is)
    (case k4 => k_is)
    (case n5 => k_is)
    (case l5 => k_is)
    (case c5 => k_is)
    (case k5 => k_is)
    (case n6 => k_is)
    (case l6 => k_is)
    (case c6 => k_is)
    (case k6 => k_is)
    (case n7 => k_is)
    (case l7 => k_is)
    (case c7 => k_is)
    (case k7 => k_is)
    (case n8 => k_is)
    (case l8 => k_is)
    (case c8 => k_is)
    (case k8 => k_is)
    (case n9 => k_is)
    (case l9 => k_is)
    (case c9 => k_is)
    (case k9 => k_is)
    (case n10 => k_is)
    (case l10 => k_is)
    (case c10 => k_is)
    (case k10 => k_is)
    (case n11 => k_is)
    (case l11 => k_is)
    (case c11 => k_is)
    (case k11 => k_is)
    (case n12 => k_is)
    (case l12 => k_is)
    (case c12 => k_is)
    (case k12 => k_is)
    (case n13 => k_is)
    (case l13 => k_is)
    (case c13 => k_is)
    (case k13 => k_is)
    (case n14 => k_is)
    (case l14 => k_is)
    (case c14 => k_is)
    (case k14 => k_is)
    (case n15 => k_is)
    (case l15 => k_is)
    (case c15 => k_is)
    (case k15 => k_is)
    (case n16 => k_is)
    (case l16 => k_is)
    (case c16 => k_is)
    (case k16 => k_is)
    (case n17 => k_is)
    (case l17 => k_is)
    (case c17 => k_is)
    (case k17 => k_is)
    (case n18 => k_is)
    (case l18 => k_is)
    (case c18 => k_is)
    (case k18 => k_is)
    (case n19 => k_is)
    (case l19 => k_is)
    (case c19 => k_is)
    (case k19 => k_is)
    (case n20 => k_is)
    (case l20 => k_is)
    (case c20 => k_is)
    (case k20 => k_is)
    (case n21 => k_is)
    (case l21 => k_is)
    (case c21 => k_is)
    (case k21 => k_is)
    (case n22 => k_is)
    (case l22 => k_is)
    (case c22 => k_is)
    (case k22 => k_is)
    (case q22 => k_is)
    (case w22 => first | rfl | kernel_rfl | k_is)
    (case np22 => kernel_rfl)
    (case rr22 => kernel_rfl)
    (case n23 => k_is)
    (case l23 => k_is)
    (case c23 => k_is)
    (case k23 => k_is)
    (case q23 => k_is)
    (case w23 => first | rfl | kernel_rfl | k_is)
    (case np23 => kernel_rfl)
    (case rr23 => kernel_rfl)
    (case z_abs => k_is)
    (case z_all => k_is)
    (case z_any => k_is)
    (case z_bool => k_is)
    (case z_enumerate => k_is)
    (case z_int => k_is)
    (case z_isinstance => k_is)
    (case z_len => k_is)
    (case z_list => k_is)
    (case z_max => k_is)
    (case z_range => k_is)
    (case z_repr => k_is)
    (case z_sorted => k_is)
    (case z_sum => k_is)
    (case z_tuple => k_is)
    (case z_zip => k_is)
    (case g_MOST_PLACES => k_is)
    (case nc0 => k_is)
    (case nc1 => k_is)
    (case nc2 => k_is)
    (case nc3 => k_is)
    (case nc4 => k_is)
    (case nc5 => k_is)
    (case nc6 => k_is)
    (case x4 => k_is)
    (case rv4 => first | rfl | decide +kernel)
    (case sa4 => k_is)
    (case ec4 => k_is)
    (case ty4 => k_is)
    (case kc4 => k_is)
    (case in4 => k_is)
    (case ti4 => k_is)
    (case li4 => k_is)
    (case ci4 => k_is)
    (case ki4 => k_is)
    (case nf4_most => k_is)
    (case nf4_part => k_is)
    (case nf4_value => k_is)
    (case nf4_what => k_is)
    (case x5 => k_is)
    (case rv5 => first | rfl | decide +kernel)
    (case sa5 => k_is)
    (case ec5 => k_is)
    (case ty5 => k_is)
    (case kc5 => k_is)
    (case in5 => k_is)
    (case ti5 => k_is)
    (case li5 => k_is)
    (case ci5 => k_is)
    (case ki5 => k_is)
    (case nf5_most => k_is)
    (case nf5_part => k_is)
    (case nf5_value => k_is)
    (case nf5_what => k_is)
    (case hg4 => k_is)
    (case hk4 => k_is)
    (case hd4 => k_is)
    (case ha4 => k_is)
    (case hm4 => k_is)
    (case sg4 => first | k_is | rfl | kernel_rfl)
    (case kt4_1 => first | k_is | rfl | kernel_rfl)
    (case kt4_2 => first | k_is | rfl | kernel_rfl)
    (case kt4_3 => first | k_is | rfl | kernel_rfl)
    (case kt4_4 => first | k_is | rfl | kernel_rfl)
    (case kt4_5 => first | k_is | rfl | kernel_rfl)
    (case kt4_6 => first | k_is | rfl | kernel_rfl)
    (case hg5 => k_is)
    (case hk5 => k_is)
    (case hd5 => k_is)
    (case ha5 => k_is)
    (case hm5 => k_is)
    (case sg5 => first | k_is | rfl | kernel_rfl)
    (case kt5_1 => first | k_is | rfl | kernel_rfl)
    (case kt5_2 => first | k_is | rfl | kernel_rfl)
    (case kt5_3 => first | k_is | rfl | kernel_rfl)
    (case kt5_4 => first | k_is | rfl | kernel_rfl)
    (case kt5_5 => first | k_is | rfl | kernel_rfl)
    (case kt5_6 => first | k_is | rfl | kernel_rfl)
    (case hn => k_is)
    (case ht => k_is)
    (case ne1_0 => decide)
