import PyProof.Rows.All
import Wide.All
import OpenK.AllK
import Wide.FinOn
import HandS.ForMost
import HandS.ForExc
import HandS.CallSlots
import HandS.CallLocal
import HandS.Gcd
import HandS.Wide
import HandS.Flow
import HandS.TupAny
import HandS.Style
import HandS.NoneIn
import HandS.IsInst
import HandS.TryMany
import HandS.Small
import HandS.Zip
import HandS.ExcIs
import HandS.EndBits
import PySem.Challenge.RW_solidseen_k91_across_fractions_as_a_fiel
set_option Elab.async false
set_option linter.all false
set_option maxRecDepth 100000
set_option maxHeartbeats 4000000
/-! Sd0: nested data D, a store of lists, what stands for what (RD, Rep), results (Res, SRes) and what they ask (PostR, PostS). -/
namespace Sd
open PySem PySem.Spec PyProof.Rows L2
inductive Ty where
  | int | bool | str | list | tuple | verr
  deriving DecidableEq, Inhabited
def Ty.nm : Ty → String
  | .int => "int" | .bool => "bool" | .str => "str" | .list => "list" | .tuple => "tuple" | .verr => "ValueError"
inductive D where
  | non | bl (b : Bool) | int (i : Int) | str (x : Str) | tup (xs : List D) | lst (r : Nat) | fz (xs : List D) | obj (a : Addr) | ty (t : Ty)
  deriving Inhabited
abbrev Store := List (List D)
abbrev Loc := List (Option D)
inductive Res (α : Type) where
  | ok (a : α) (S : Store)
  | exc (c : Addr) (S : Store)
  | no
def Res.bind {α β : Type} (x : Res α) (f : α → Store → Res β) : Res β :=
  match x with
  | .ok a S => f a S
  | .exc c S => .exc c S
  | .no => .no
inductive SRes where
  | nx (ρ : Loc) (S : Store)
  | rt (d : D) (S : Store)
  | bk (ρ : Loc) (S : Store)
  | ct (ρ : Loc) (S : Store)
  | exc (c : Addr) (ρ : Loc) (S : Store)
  | no
def Res.st {α : Type} (x : Res α) (ρ : Loc) (f : α → Store → SRes) : SRes :=
  match x with
  | .ok a S => f a S
  | .exc c S => .exc c ρ S
  | .no => .no
@[simp] theorem bind_ok {α β : Type} (a : α) (S : Store) (f : α → Store → Res β) : (Res.ok a S).bind f = f a S := rfl
@[simp] theorem bind_exc {α β : Type} (c : Addr) (S : Store) (f : α → Store → Res β) : (Res.exc c S).bind f = .exc c S := rfl
@[simp] theorem bind_no {α β : Type} (f : α → Store → Res β) : (Res.no : Res α).bind f = .no := rfl
@[simp] theorem st_ok {α : Type} (a : α) (S : Store) (ρ : Loc) (f : α → Store → SRes) : (Res.ok a S).st ρ f = f a S := rfl
@[simp] theorem st_exc {α : Type} (c : Addr) (S : Store) (ρ : Loc) (f : α → Store → SRes) : (Res.exc c S : Res α).st ρ f = .exc c ρ S := rfl
@[simp] theorem st_no {α : Type} (ρ : Loc) (f : α → Store → SRes) : (Res.no : Res α).st ρ f = .no := rfl
abbrev Ev := Loc → Store → Res D
abbrev Tv := Loc → Store → Res Bool
abbrev Av := Loc → Store → Res (List D)
abbrev Sv := Loc → Store → SRes
abbrev Gv := D → Loc → Store → Res Loc
abbrev Fv := List D → Store → Res D
/-! ### heaps that only grow in what never changes -/
structure Ext (H H' : Hp) : Prop where
  t : ∀ p xs, H p = some (.tup xs) → H' p = some (.tup xs)
  z : ∀ p o u, H p = some (.frz o u) → H' p = some (.frz o u)
theorem Ext.refl (H : Hp) : Ext H H := ⟨fun _ _ h => h, fun _ _ _ h => h⟩
theorem Ext.trans {H H1 H2 : Hp} (a : Ext H H1) (b : Ext H1 H2) : Ext H H2 := ⟨fun p x h => b.t p x (a.t p x h), fun p o u h => b.z p o u (a.z p o u h)⟩
theorem Ext.new {H : Hp} {p : Addr} {o : HO} (h : H p = none) : Ext H (upd H p o) :=
  ⟨fun q x e => by rw [upd_ne (ne_of_none e h)]; exact e, fun q x u e => by rw [upd_ne (ne_of_none e h)]; exact e⟩
theorem Ext.lst {H : Hp} {p : Addr} {xs : List V} {o : HO} (h : H p = some (.lst xs)) : Ext H (upd H p o) :=
  ⟨fun q x e => by rw [upd_ne (ne_of e h (by intro z; cases z))]; exact e, fun q x u e => by rw [upd_ne (ne_of e h (by intro z; cases z))]; exact e⟩
/-- a list that stands still: the script, or one of the module's own -/
def Fz (K : PySem.W.Frag) (H : Hp) (a : Addr) (xs : List V) : Prop :=
  (∃ o, H a = some (.frz o (.lst xs))) ∨
    ∃ (o : Obj) (its : Array Value) (n : Nat), K.lookup a = some o ∧ o.cls = .type "list" ∧ o.dict = none ∧ o.data = .seq its n ∧ its.size ≤ sizeLine ∧ Vals xs its.toList
theorem Fz.sql {K : PySem.W.Frag} {H : Hp} {a : Addr} {xs : List V} (h : Fz K H a xs) : SqL K H a xs := by
  rcases h with h | h
  · exact .inl (.inr h)
  · exact .inr h
theorem Fz.mono {K : PySem.W.Frag} {H H' : Hp} {a : Addr} {xs : List V} (e : Ext H H') (h : Fz K H a xs) : Fz K H' a xs := by
  rcases h with ⟨o, h⟩ | h
  · exact .inl ⟨o, e.z _ _ _ h⟩
  · exact .inr h
theorem sqt_mono {K : PySem.W.Frag} {H H' : Hp} {a : Addr} {xs : List V} (e : Ext H H') (h : SqT K H a xs) : SqT K H' a xs := by
  rcases h with (h | ⟨o, h⟩) | h
  · exact .inl (.inl (e.t _ _ h))
  · exact .inl (.inr ⟨o, e.z _ _ _ h⟩)
  · exact .inr h
mutual
inductive RD (K : PySem.W.Frag) (m : List Addr) (H : Hp) : D → V → Prop
  | non : RD K m H .non .non
  | bl (b : Bool) : RD K m H (.bl b) (.bl b)
  | int (i : Int) : RD K m H (.int i) (.int i)
  | str (x : Str) : RD K m H (.str x) (.str x)
  | tup {xs : List D} {p : Addr} {vs : List V} : SqT K H p vs → RDs K m H xs vs → RD K m H (.tup xs) (.ref p)
  | lst {r : Nat} {p : Addr} : m[r]? = some p → RD K m H (.lst r) (.ref p)
  | fz {xs : List D} {p : Addr} {vs : List V} : Fz K H p vs → RDs K m H xs vs → RD K m H (.fz xs) (.ref p)
  | obj (a : Addr) : RD K m H (.obj a) (.ref a)
  | ty (t : Ty) : RD K m H (.ty t) (.ty t.nm)
inductive RDs (K : PySem.W.Frag) (m : List Addr) (H : Hp) : List D → List V → Prop
  | nil : RDs K m H [] []
  | cons {d : D} {v : V} {ds : List D} {vs : List V} : RD K m H d v → RDs K m H ds vs → RDs K m H (d :: ds) (v :: vs)
end
theorem pre_get {m m' : List Addr} (p : m <+: m') {r : Nat} {a : Addr} (h : m[r]? = some a) : m'[r]? = some a := by
  obtain ⟨t, rfl⟩ := p
  rw [List.getElem?_append_left (List.getElem?_eq_some_iff.mp h).1]
  exact h
mutual
theorem RD.mono {K : PySem.W.Frag} {m m' : List Addr} {H H' : Hp} (e : Ext H H') (p : m <+: m') : ∀ {d : D} {v : V}, RD K m H d v → RD K m' H' d v
  | _, _, .non => .non
  | _, _, .bl b => .bl b
  | _, _, .int i => .int i
  | _, _, .str x => .str x
  | _, _, .tup h hs => .tup (sqt_mono e h) (RDs.mono e p hs)
  | _, _, .lst h => .lst (pre_get p h)
  | _, _, .fz h hs => .fz (h.mono e) (RDs.mono e p hs)
  | _, _, .obj a => .obj a
  | _, _, .ty n => .ty n
theorem RDs.mono {K : PySem.W.Frag} {m m' : List Addr} {H H' : Hp} (e : Ext H H') (p : m <+: m') : ∀ {ds : List D} {vs : List V}, RDs K m H ds vs → RDs K m' H' ds vs
  | _, _, .nil => .nil
  | _, _, .cons h hs => .cons (RD.mono e p h) (RDs.mono e p hs)
end
section
variable {K : PySem.W.Frag} {m m' : List Addr} {H H' : Hp}
theorem RDs.length : ∀ {ds : List D} {vs : List V}, RDs K m H ds vs → ds.length = vs.length
  | _, _, .nil => rfl
  | _, _, .cons _ t => by rw [List.length_cons, List.length_cons, t.length]
theorem RDs.get : ∀ {ds : List D} {vs : List V} {i : Nat} {d : D}, RDs K m H ds vs → ds[i]? = some d → ∃ v, vs[i]? = some v ∧ RD K m H d v
  | _, _, _, _, .nil, e => by simp at e
  | _, _, 0, _, .cons h _, e => by simp at e; subst e; exact ⟨_, rfl, h⟩
  | _, _, i + 1, d, .cons _ t, e => by
    obtain ⟨v, h1, h2⟩ := t.get (i := i) (d := d) (by simpa using e)
    exact ⟨v, by simpa using h1, h2⟩
theorem RDs.append : ∀ {ds es : List D} {vs ws : List V}, RDs K m H ds vs → RDs K m H es ws → RDs K m H (ds ++ es) (vs ++ ws)
  | _, _, _, _, .nil, s => s
  | _, _, _, _, .cons r t, s => .cons r (t.append s)
theorem RDs.set {d : D} {v : V} (r : RD K m H d v) : ∀ {ds : List D} {vs : List V} (i : Nat), RDs K m H ds vs → RDs K m H (ds.set i d) (vs.set i v)
  | _, _, _, .nil => .nil
  | _, _, 0, .cons _ t => .cons r t
  | _, _, i + 1, .cons q t => .cons q (RDs.set r i t)
theorem RDs.take : ∀ {ds : List D} {vs : List V} (n : Nat), RDs K m H ds vs → RDs K m H (ds.take n) (vs.take n)
  | _, _, 0, _ => .nil
  | _, _, _ + 1, .nil => .nil
  | _, _, n + 1, .cons r t => .cons r (RDs.take n t)
theorem RDs.drop : ∀ {ds : List D} {vs : List V} (n : Nat), RDs K m H ds vs → RDs K m H (ds.drop n) (vs.drop n)
  | _, _, 0, r => r
  | _, _, _ + 1, .nil => .nil
  | _, _, n + 1, .cons _ t => RDs.drop n t
theorem RDs.reverse {ds : List D} {vs : List V} (h : RDs K m H ds vs) : RDs K m H ds.reverse vs.reverse := by
  induction ds generalizing vs with
  | nil => cases h; exact .nil
  | cons d r ih =>
    cases h with
    | cons a b => rw [List.reverse_cons, List.reverse_cons]; exact (ih b).append (.cons a .nil)
theorem RDs.ints (ns : List Int) : RDs K m H (ns.map D.int) (ns.map V.int) := by
  induction ns with
  | nil => exact .nil
  | cons n r ih => exact .cons (.int n) ih
/-- the store stands in the heap -/
structure Rep (K : PySem.W.Frag) (m : List Addr) (S : Store) (H : Hp) : Prop where
  len : m.length = S.length
  nd : m.Nodup
  at_ : ∀ (r : Nat) (p : Addr) (xs : List D), m[r]? = some p → S[r]? = some xs → ∃ vs, H p = some (.lst vs) ∧ RDs K m H xs vs
theorem Rep.nil : Rep K [] [] H := ⟨rfl, List.nodup_nil, fun r p xs h => by simp at h⟩
theorem Rep.cell {S : Store} (R : Rep K m S H) {r : Nat} {xs : List D} (h : S[r]? = some xs) : ∃ p vs, m[r]? = some p ∧ H p = some (.lst vs) ∧ RDs K m H xs vs := by
  have hr : r < m.length := by rw [R.len]; exact (List.getElem?_eq_some_iff.mp h).1
  obtain ⟨vs, a, b⟩ := R.at_ r m[r] xs (List.getElem?_eq_getElem hr) h
  exact ⟨m[r], vs, List.getElem?_eq_getElem hr, a, b⟩
theorem Rep.cellAt {S : Store} (R : Rep K m S H) {r : Nat} {xs : List D} {p : Addr} (h : S[r]? = some xs) (hp : m[r]? = some p) : ∃ vs, H p = some (.lst vs) ∧ RDs K m H xs vs := R.at_ r p xs hp h
theorem Rep.fresh {S : Store} (R : Rep K m S H) {p : Addr} (hp : H p = none) : p ∉ m := by
  intro h
  obtain ⟨i, hi, e⟩ := List.mem_iff_getElem.mp h
  have hS : i < S.length := by rw [← R.len]; exact hi
  obtain ⟨vs, a, _⟩ := R.at_ i p S[i] (by rw [← e]; exact List.getElem?_eq_getElem hi) (List.getElem?_eq_getElem hS)
  rw [hp] at a; cases a
/-- something that is no list of the store's is laid -/
theorem Rep.new {S : Store} {p : Addr} {o : HO} (R : Rep K m S H) (hp : H p = none) : Rep K m S (upd H p o) := by
  refine ⟨R.len, R.nd, fun r q xs h1 h2 => ?_⟩
  obtain ⟨vs, a, b⟩ := R.at_ r q xs h1 h2
  refine ⟨vs, ?_, b.mono (Ext.new hp) (List.prefix_refl _)⟩
  rw [upd_ne (ne_of_none a hp)]
  exact a
/-- a new list -/
theorem Rep.alloc {S : Store} {p : Addr} {xs : List D} {vs : List V} (R : Rep K m S H) (hp : H p = none) (hx : RDs K m H xs vs) : Rep K (m ++ [p]) (S ++ [xs]) (upd H p (.lst vs)) := by
  have pre : m <+: m ++ [p] := List.prefix_append _ _
  have ex : Ext H (upd H p (.lst vs)) := Ext.new hp
  refine ⟨by rw [List.length_append, List.length_append, R.len]; rfl, ?_, fun r q ys h1 h2 => ?_⟩
  · rw [List.nodup_append]
    refine ⟨R.nd, by simp, fun a ha b hb => ?_⟩
    have : b = p := by simpa using hb
    subst this
    rintro rfl
    exact R.fresh hp ha
  · by_cases hr : r < m.length
    · rw [List.getElem?_append_left hr] at h1
      rw [List.getElem?_append_left (by rw [← R.len]; exact hr)] at h2
      obtain ⟨ws, a, b⟩ := R.at_ r q ys h1 h2
      refine ⟨ws, ?_, b.mono ex pre⟩
      rw [upd_ne (ne_of_none a hp)]
      exact a
    · have hr' : m.length ≤ r := Nat.le_of_not_lt hr
      rw [List.getElem?_append_right hr'] at h1
      rw [List.getElem?_append_right (by rw [← R.len]; exact hr')] at h2
      have e : r - m.length = 0 := by
        rcases Nat.eq_zero_or_pos (r - m.length) with z | z
        · exact z
        · rw [List.getElem?_eq_none (by simp; omega)] at h1; cases h1
      rw [e] at h1
      rw [← R.len, e] at h2
      have e1 : p = q := by simpa using h1
      have e2 : xs = ys := by simpa using h2
      subst e1; subst e2
      exact ⟨vs, upd_same, hx.mono ex pre⟩
/-- a list is written -/
theorem Rep.write {S : Store} {r : Nat} {p : Addr} {xs : List D} {vs ws : List V} (R : Rep K m S H) (hp : m[r]? = some p) (hH : H p = some (.lst ws)) (hx : RDs K m H xs vs) : Rep K m (S.set r xs) (upd H p (.lst vs)) := by
  have ex : Ext H (upd H p (.lst vs)) := Ext.lst hH
  refine ⟨by rw [List.length_set]; exact R.len, R.nd, fun r' q ys h1 h2 => ?_⟩
  by_cases e : r' = r
  · subst e
    have hq : p = q := by rw [hp] at h1; exact Option.some.inj h1
    subst hq
    have hr : r' < S.length := by rw [← R.len]; exact (List.getElem?_eq_some_iff.mp hp).1
    rw [List.getElem?_set_self hr] at h2
    cases h2
    exact ⟨vs, upd_same, hx.mono ex (List.prefix_refl _)⟩
  · rw [List.getElem?_set_ne (Ne.symm e)] at h2
    obtain ⟨us, a, b⟩ := R.at_ r' q ys h1 h2
    have hne : q ≠ p := fun z => by
      subst z
      exact e (nd_ix R.nd h1 hp)
    exact ⟨us, by rw [upd_ne hne]; exact a, b.mono ex (List.prefix_refl _)⟩
/-- the names' values -/
def RS (K : PySem.W.Frag) (m : List Addr) (H : Hp) (ρ : Loc) (σ : L2.St) : Prop :=
  ρ.length = σ.length ∧ ∀ (i : Nat) (d : D), ρ[i]? = some (some d) → ∃ v, σ[i]? = some (some v) ∧ RD K m H d v
theorem RS.mono {ρ : Loc} {σ : L2.St} (e : Ext H H') (p : m <+: m') (h : RS K m H ρ σ) : RS K m' H' ρ σ :=
  ⟨h.1, fun i d hi => let ⟨v, a, b⟩ := h.2 i d hi; ⟨v, a, b.mono e p⟩⟩
theorem RS.set {ρ : Loc} {σ : L2.St} {d : D} {v : V} (h : RS K m H ρ σ) (r : RD K m H d v) (i : Nat) : RS K m H (ρ.set i (some d)) (σ.set i (some v)) := by
  refine ⟨by rw [List.length_set, List.length_set]; exact h.1, fun j e hj => ?_⟩
  by_cases q : i = j
  · subst q
    by_cases hl : i < ρ.length
    · rw [List.getElem?_set_self hl] at hj
      cases hj
      exact ⟨v, List.getElem?_set_self (by rw [← h.1]; exact hl), r⟩
    · rw [List.getElem?_eq_none (by rw [List.length_set]; omega)] at hj; cases hj
  · rw [List.getElem?_set_ne q] at hj
    rw [List.getElem?_set_ne q]
    exact h.2 j e hj
theorem RS.forget {ρ : Loc} {σ : L2.St} (h : RS K m H ρ σ) (i : Nat) : RS K m H (ρ.set i none) σ := by
  refine ⟨by rw [List.length_set]; exact h.1, fun j e hj => ?_⟩
  by_cases q : i = j
  · subst q
    by_cases hl : i < ρ.length
    · rw [List.getElem?_set_self hl] at hj; cases hj
    · rw [List.getElem?_eq_none (by rw [List.length_set]; omega)] at hj; cases hj
  · rw [List.getElem?_set_ne q] at hj
    exact h.2 j e hj
theorem RS.unset {ρ : Loc} {σ : L2.St} (h : RS K m H ρ σ) (i : Nat) : RS K m H (ρ.set i none) (σ.set i none) := by
  refine ⟨by rw [List.length_set, List.length_set]; exact h.1, fun j e hj => ?_⟩
  by_cases q : i = j
  · subst q
    by_cases hl : i < ρ.length
    · rw [List.getElem?_set_self hl] at hj; cases hj
    · rw [List.getElem?_eq_none (by rw [List.length_set]; omega)] at hj; cases hj
  · rw [List.getElem?_set_ne q] at hj
    rw [List.getElem?_set_ne q]
    exact h.2 j e hj
/-! ### what a result asks -/
abbrev Rl (α β : Type) := List Addr → Hp → α → β → Prop
def PostR {α β : Type} (K : PySem.W.Frag) (R : Rl α β) (m : List Addr) (H : Hp) (x : Res α) (Q : β → Hp → Prop) (Wc : Addr → Hp → Prop) : Prop :=
  match x with
  | .ok a S' => ∀ b H' m', Ext H H' → m <+: m' → Rep K m' S' H' → R m' H' a b → Q b H'
  | .exc c S' => ∀ H' m', Ext H H' → m <+: m' → Rep K m' S' H' → Wc c H'
  | .no => False
theorem PostR.at {α β : Type} {R : Rl α β} {x : Res α} {Q : β → Hp → Prop} {Wc : Addr → Hp → Prop} (e : Ext H H') (p : m <+: m') (h : PostR K R m H x Q Wc) : PostR K R m' H' x Q Wc := by
  cases x with
  | ok a S => exact fun b H2 m2 e2 p2 => h b H2 m2 (e.trans e2) (p.trans p2)
  | exc c S => exact fun H2 m2 e2 p2 => h H2 m2 (e.trans e2) (p.trans p2)
  | no => exact h
theorem PostR.bind {α β γ δ : Type} {R : Rl α β} {R' : Rl γ δ} {x : Res α} {f : α → Store → Res γ} {Q : δ → Hp → Prop} {Q' : β → Hp → Prop} {Wc : Addr → Hp → Prop} (h : PostR K R' m H (x.bind f) Q Wc)
    (hk : ∀ a S1 b H1 m1, Ext H H1 → m <+: m1 → Rep K m1 S1 H1 → R m1 H1 a b → PostR K R' m1 H1 (f a S1) Q Wc → Q' b H1) : PostR K R m H x Q' Wc := by
  cases x with
  | ok a S => exact fun b H2 m2 e2 p2 r d => hk a S b H2 m2 e2 p2 r d (PostR.at e2 p2 h)
  | exc c S => exact h
  | no => exact h
theorem PostR.mono {α β : Type} {R : Rl α β} {x : Res α} {Q Q' : β → Hp → Prop} {Wc : Addr → Hp → Prop} (h : PostR K R m H x Q Wc) (hq : ∀ b H', Q b H' → Q' b H') : PostR K R m H x Q' Wc := by
  cases x with
  | ok a S => exact fun b H2 m2 e2 p2 r d => hq _ _ (h b H2 m2 e2 p2 r d)
  | exc c S => exact h
  | no => exact h
theorem PostR.ok {α β : Type} {R : Rl α β} {a : α} {S : Store} {b : β} {Q : β → Hp → Prop} {Wc : Addr → Hp → Prop} (h : PostR K R m H (.ok a S) Q Wc) (r : Rep K m S H) (d : R m H a b) : Q b H := h b H m (Ext.refl H) (List.prefix_refl _) r d
def PostS (K : PySem.W.Frag) (W : WX) (m : List Addr) (H : Hp) (x : SRes) (E : Ends) : Prop :=
  match x with
  | .nx ρ S => ∀ σ' H' m', Ext H H' → m <+: m' → Rep K m' S H' → RS K m' H' ρ σ' → E.nx σ' H'
  | .rt d S => ∀ v H' m', Ext H H' → m <+: m' → Rep K m' S H' → RD K m' H' d v → E.rt v H'
  | .bk ρ S => ∀ σ' H' m', Ext H H' → m <+: m' → Rep K m' S H' → RS K m' H' ρ σ' → E.bk σ' H'
  | .ct ρ S => ∀ σ' H' m', Ext H H' → m <+: m' → Rep K m' S H' → RS K m' H' ρ σ' → E.ct σ' H'
  | .exc c ρ S => ∀ σ' H' m', Ext H H' → m <+: m' → Rep K m' S H' → RS K m' H' ρ σ' → W (.ref c) none σ' H'
  | .no => False
theorem PostS.at {W : WX} {x : SRes} {E : Ends} (e : Ext H H') (p : m <+: m') (h : PostS K W m H x E) : PostS K W m' H' x E := by
  cases x with
  | nx ρ S => exact fun b H2 m2 e2 p2 => h b H2 m2 (e.trans e2) (p.trans p2)
  | rt ρ S => exact fun b H2 m2 e2 p2 => h b H2 m2 (e.trans e2) (p.trans p2)
  | bk ρ S => exact fun b H2 m2 e2 p2 => h b H2 m2 (e.trans e2) (p.trans p2)
  | ct ρ S => exact fun b H2 m2 e2 p2 => h b H2 m2 (e.trans e2) (p.trans p2)
  | exc c ρ S => exact fun b H2 m2 e2 p2 => h b H2 m2 (e.trans e2) (p.trans p2)
  | no => exact h
/-- an expression's part of a statement -/
theorem PostS.st {α β : Type} {W : WX} {R : Rl α β} {x : Res α} {ρ : Loc} {σ : L2.St} {f : α → Store → SRes} {E : Ends} {Q' : β → Hp → Prop} (h : PostS K W m H (x.st ρ f) E) (hσ : RS K m H ρ σ)
    (hk : ∀ a S1 b H1 m1, Ext H H1 → m <+: m1 → Rep K m1 S1 H1 → R m1 H1 a b → PostS K W m1 H1 (f a S1) E → Q' b H1) : PostR K R m H x Q' (fun c H' => W (.ref c) none σ H') := by
  cases x with
  | ok a S => exact fun b H2 m2 e2 p2 r d => hk a S b H2 m2 e2 p2 r d (PostS.at e2 p2 h)
  | exc c S => exact fun H2 m2 e2 p2 r => h σ H2 m2 e2 p2 r (hσ.mono e2 p2)
  | no => exact h
end
/-! ### the readings -/
section
variable (K : PySem.W.Frag)
def tG {α β : Type} (R : Rl α β) (W : WX) (f : Loc → Store → Res α) : L2.St → Hp → (β → Hp → Prop) → Prop := fun σ H Q =>
  ∃ m S ρ, Rep K m S H ∧ RS K m H ρ σ ∧ PostR K R m H (f ρ S) Q (fun c H' => W (.ref c) none σ H')
abbrev tE (W : WX) (f : Ev) : TE := tG K (RD K) W f
abbrev tT (W : WX) (f : Tv) : TT := tG K (fun _ _ a b => a = b) W f
abbrev tA (W : WX) (f : Av) : TA := tG K (RDs K) W f
def tS (W : WX) (f : Sv) : TS := fun E σ H => ∃ m S ρ, Rep K m S H ∧ RS K m H ρ σ ∧ PostS K W m H (f ρ S) E
def tGt (W : WX) (g : Gv) : TG := fun v σ H Q => ∃ m S ρ d, Rep K m S H ∧ RS K m H ρ σ ∧ RD K m H d v ∧ PostR K (RS K) m H (g d ρ S) Q (fun c H' => W (.ref c) none σ H')
end
structure EE (X : Cx) (W : WX) (e : Expr) (f : Ev) : Prop where
  pe : PE X e (tE X.K W f)
structure ET (X : Cx) (W : WX) (e : Expr) (f : Tv) : Prop where
  pt : PT X e (tT X.K W f)
structure EW (X : Cx) (W : WX) (e : Expr) (f : Tv) : Prop where
  pw : PW X e (tT X.K W f)
structure EA (X : Cx) (W : WX) (es : List Expr) (f : Av) : Prop where
  pa : PA X es (tA X.K W f)
structure ES (X : Cx) (W : WX) (st : Stmt) (f : Sv) : Prop where
  ps : PS X st (tS X.K W f)
structure ESs (X : Cx) (W : WX) (st : List Stmt) (f : Sv) : Prop where
  pss : PSs X st (tS X.K W f)
structure EG (X : Cx) (W : WX) (tg : Expr) (g : Gv) : Prop where
  pg : PG X tg (tGt X.K W g)
theorem PE.imp {X : Cx} {e : Expr} {t t' : TE} (h : PE X e t) (i : ∀ σ H Q, t' σ H Q → t σ H Q) : PE X e t' := ⟨fun pins s σ H Q I q => h.run pins s σ H Q I (i σ H Q q)⟩
theorem PT.imp {X : Cx} {e : Expr} {t t' : TT} (h : PT X e t) (i : ∀ σ H Q, t' σ H Q → t σ H Q) : PT X e t' := ⟨fun pins s σ H Q I q => h.run pins s σ H Q I (i σ H Q q)⟩
theorem PW.imp {X : Cx} {e : Expr} {t t' : TT} (h : PW X e t) (i : ∀ σ H Q, t' σ H Q → t σ H Q) : PW X e t' := ⟨fun wh pins s σ H Q I q => h.run wh pins s σ H Q I (i σ H Q q)⟩
theorem PA.imp {X : Cx} {e : List Expr} {t t' : TA} (h : PA X e t) (i : ∀ σ H Q, t' σ H Q → t σ H Q) : PA X e t' := ⟨fun pos pins s σ H Q I q => h.run pos pins s σ H Q I (i σ H Q q)⟩
theorem PS.imp {X : Cx} {e : Stmt} {t t' : TS} (h : PS X e t) (i : ∀ D σ H, t' D σ H → t D σ H) : PS X e t' := ⟨fun pins s σ H D I q => h.run pins s σ H D I (i D σ H q)⟩
theorem PSs.imp {X : Cx} {e : List Stmt} {t t' : TS} (h : PSs X e t) (i : ∀ D σ H, t' D σ H → t D σ H) : PSs X e t' := ⟨fun pins s σ H D I q => h.run pins s σ H D I (i D σ H q)⟩
theorem PG.imp {X : Cx} {e : Expr} {t t' : TG} (h : PG X e t) (i : ∀ v σ H Q, t' v σ H Q → t v σ H Q) : PG X e t' := ⟨fun pins s σ H v u Q I r q => h.run pins s σ H v u Q I r (i v σ H Q q)⟩
end Sd
/-! Sd1: expressions: names, constants, operators, comparisons, tests, tuples, lists, items, built-ins. -/
namespace Sd
open PySem PySem.Spec PyProof.Rows L2
structure Okx (X : Cx) (W : WX) (k : Nat) : Prop where
  tk : Takes X W
  calm : X.calm = true
  room : Room k X.A
  nd : X.N.Nodup
theorem Okx.mono {X : Cx} {W : WX} {j k : Nat} (O : Okx X W k) (h : j ≤ k) : Okx X W j := ⟨O.tk, O.calm, O.room.mono h, O.nd⟩
def lim : Nat := 1000000
theorem lim_le : lim ≤ sizeLine := by rw [sizeLine_eq]; decide
theorem lim_lt {n : Nat} (h : n < lim) : n < sizeLine := Nat.lt_of_lt_of_le h lim_le
theorem le_lim {n : Nat} (h : n ≤ lim) : n ≤ sizeLine := Nat.le_trans h lim_le
def lget : Loc → Nat → Option D
  | [], _ => none
  | x :: _, 0 => x
  | _ :: r, n + 1 => lget r n
theorem lget_eq : ∀ {ρ : Loc} {i : Nat} {d : D}, lget ρ i = some d → ρ[i]? = some (some d)
  | [], _, _, h => by simp [lget] at h
  | x :: _, 0, d, h => by simp [lget] at h; simp [h]
  | _ :: r, n + 1, d, h => by simp only [lget] at h; simpa using lget_eq h
/-! ### what a pure step asks -/
abbrev Out := Option (D × Store)
def Fin (K : PySem.W.Frag) (m : List Addr) (H : Hp) (r : Out) (Q : VK) : Prop :=
  ∃ d S', r = some (d, S') ∧ ∀ v H' m', Ext H H' → m <+: m' → Rep K m' S' H' → RD K m' H' d v → Q v H'
def Out.res : Out → Res D
  | some (d, S) => .ok d S
  | none => .no
@[simp] theorem res_some (d : D) (S : Store) : Out.res (some (d, S)) = .ok d S := rfl
@[simp] theorem res_none : Out.res (none : Out) = .no := rfl
section
variable {K : PySem.W.Frag} {m m' : List Addr} {H H' : Hp} {S S' : Store} {Q : VK} {d : D} {v : V} {xs : List D} {vs : List V}
theorem Fin.of {r : Out} {Wc : Addr → Hp → Prop} (h : PostR K (RD K) m H r.res Q Wc) : Fin K m H r Q := by
  cases r with
  | none => exact h.elim
  | some p => exact ⟨p.1, p.2, rfl, h⟩
theorem Fin.here (h : Fin K m H (some (d, S)) Q) (R : Rep K m S H) (r : RD K m H d v) : Q v H := by
  obtain ⟨d', S', e, q⟩ := h
  cases e
  exact q v H m (Ext.refl H) (List.prefix_refl _) R r
theorem Fin.newTup (h : Fin K m H (some (.tup xs, S)) Q) (R : Rep K m S H) (r : RDs K m H xs vs) : ∀ p, H p = none → Q (.ref p) (upd H p (.tup vs)) := by
  obtain ⟨d', S', e, q⟩ := h
  cases e
  intro p hp
  exact q _ _ m (Ext.new hp) (List.prefix_refl _) (R.new hp) (.tup (SqT.of upd_same) (r.mono (Ext.new hp) (List.prefix_refl _)))
theorem Fin.newLst (h : Fin K m H (some (.lst S.length, S ++ [xs])) Q) (R : Rep K m S H) (r : RDs K m H xs vs) : ∀ p, H p = none → Q (.ref p) (upd H p (.lst vs)) := by
  obtain ⟨d', S', e, q⟩ := h
  cases e
  intro p hp
  refine q _ _ (m ++ [p]) (Ext.new hp) (List.prefix_append _ _) (R.alloc hp r) (.lst ?_)
  rw [← R.len, List.getElem?_append_right (Nat.le_refl _)]
  simp
theorem Fin.written {r : Nat} {p : Addr} {ws : List V} (h : Fin K m H (some (d, S.set r xs)) Q) (R : Rep K m S H) (hp : m[r]? = some p) (hH : H p = some (.lst ws)) (rx : RDs K m H xs vs) (rd : RD K m H d v) : Q v (upd H p (.lst vs)) := by
  obtain ⟨d', S', e, q⟩ := h
  cases e
  exact q _ _ m (Ext.lst hH) (List.prefix_refl _) (R.write hp hH rx) (rd.mono (Ext.lst hH) (List.prefix_refl _))
end
/-! ### names, constants -/
def eVar (i : Nat) : Ev := fun ρ S => match lget ρ i with | some d => .ok d S | none => .no
def eC (d : D) : Ev := fun _ S => .ok d S
section
variable {X : Cx} {W : WX} {e : Expr}
theorem ee_var (i : Nat) {x : Str} {pos : Pos} (hN : X.N[i]? = some x := by rfl) (hv : Vis X.env.scope x := by first | exact Or.inl rfl | exact Or.inr (Or.inl rfl) | exact Or.inr (Or.inr rfl)) (hd : (x == ("__debug__" : Str)) = false := by decide)
    (hcd : (x == ("__classdict__" : Str)) = false := by decide) : EE X W (.Name x pos) (eVar i) :=
  ⟨PE.imp (pv i hN hv hd hcd) fun σ H Q ⟨m, S, ρ, R, hσ, h⟩ => by
    unfold eVar at h
    cases e : lget ρ i with
    | none => rw [e] at h; exact h.elim
    | some d =>
      rw [e] at h
      obtain ⟨v, a, b⟩ := hσ.2 i d (lget_eq e)
      exact ⟨v, a, h.ok R b⟩⟩
theorem ee_c {d : D} {v : V} (h : PE X e (tC v)) (r : ∀ m H, RD X.K m H d v) : EE X W e (eC d) := ⟨PE.imp h fun σ H Q ⟨m, S, ρ, R, hσ, q⟩ => PostR.ok (R := RD X.K) q R (r m H)⟩
theorem ee_int {i : Int} {j pos} : EE X W (.Constant (.int i) j pos) (eC (.int i)) := ee_c pe_int fun _ _ => .int i
theorem ee_bl {b : Bool} {j pos} : EE X W (.Constant (.bool b) j pos) (eC (.bl b)) := ee_c pe_bl fun _ _ => .bl b
theorem ee_non {j pos} : EE X W (.Constant .none j pos) (eC .non) := ee_c pe_non fun _ _ => .non
theorem ee_str {x : Str} {j pos} : EE X W (.Constant (.str x) j pos) (eC (.str x)) := ee_c pe_str fun _ _ => .str x
/-- a def or a class of the module, as a value -/
theorem ee_obj {x : Str} {a : Addr} {pos : Pos} (hg : Gl X x) (hm : X.mg x = some (.ref a)) (hd : (x == ("__debug__" : Str)) = false := by decide) : EE X W (.Name x pos) (eC (.obj a)) := ee_c (pe_glob hg hm (v := .ref a) rfl hd) fun _ _ => .obj a
theorem ee_ty {x : Str} (t : Ty) {pos : Pos} (hg : Gl X x) (hm : X.mg x = none) (hv : bootBuiltins x = some (.type t.nm)) (hn : x ≠ "__name__" := by decide) (hd : (x == ("__debug__" : Str)) = false := by decide) : EE X W (.Name x pos) (eC (.ty t)) :=
  ee_c (pe_bltn hg hm hv (v := .ty t.nm) rfl hn hd) fun _ _ => .ty t
end
/-! ### operators -/
abbrev Op2 := D → D → Store → Out
def rD (K : PySem.W.Frag) (o : Op2) : R2 := fun v w H Q => ∃ m S a b, Rep K m S H ∧ RD K m H a v ∧ RD K m H b w ∧ Fin K m H (o a b S) Q
def OpD (X : Cx) (f : Value → Value → Sem Value) (o : Op2) : Prop := OpR X f (rD X.K o)
theorem OpR.imp {X : Cx} {f : Value → Value → Sem Value} {r r' : R2} (h : OpR X f r) (i : ∀ v w H Q, r' v w H Q → r v w H Q) : OpR X f r' := fun pins s σ H x y v u Q I rx ry q => h pins s σ H x y v u Q I rx ry (i _ _ _ _ q)
def eBin (o : Op2) (fa fb : Ev) : Ev := fun ρ S => (fa ρ S).bind fun a S1 => (fb ρ S1).bind fun b S2 => (o a b S2).res
theorem bin_imp {K : PySem.W.Frag} {W : WX} {fa fb : Ev} {o : Op2} : ∀ σ H Q, tE K W (eBin o fa fb) σ H Q → tOp (rD K o) (tE K W fa) (tE K W fb) σ H Q := fun σ H Q ⟨m, S, ρ, R, hσ, h⟩ =>
  ⟨m, S, ρ, R, hσ, h.bind fun a S1 v H1 m1 e1 p1 R1 d1 h1 => ⟨m1, S1, ρ, R1, hσ.mono e1 p1, h1.bind fun b S2 w H2 m2 e2 p2 R2 d2 h2 => ⟨m2, S2, a, b, R2, d1.mono e2 p2, d2, Fin.of h2⟩⟩⟩
section
variable {X : Cx} {W : WX} {a b c : Expr} {fa fb fc : Ev} {pos : Pos}
theorem ee_op {op : Operator} {o : Op2} (ho : OpD X (binaryOp op) o) (ha : EE X W a fa) (hb : EE X W b fb) : EE X W (.BinOp a op b pos) (eBin o fa fb) := ⟨PE.imp (pe_op ho ha.pe hb.pe) bin_imp⟩
theorem ee_cmp {op : CmpOp} {o : Op2} (ho : OpD X (compareOp op) o) (ha : EE X W a fa) (hb : EE X W b fb) (hm : behindInMarks op b = false) : EE X W (.Compare a [op] [b] pos) (eBin o fa fb) := ⟨PE.imp (pe_cmpR ho ha.pe hb.pe hm) bin_imp⟩
/-- a value that is a truth, as a test -/
def tvB (f : Ev) : Tv := fun ρ S => (f ρ S).bind fun d S1 => match d with | .bl b => .ok b S1 | _ => .no
theorem tvB_imp {K : PySem.W.Frag} {t : TE} (hd : ∀ (W : WX) (f : Ev), True) {W : WX} {f : Ev} (ht : ∀ σ H Q, tE K W f σ H Q → t σ H Q) : ∀ σ H Q, tT K W (tvB f) σ H Q → tTest t σ H Q := fun σ H Q ⟨m, S, ρ, R, hσ, h⟩ =>
  ht _ _ _ ⟨m, S, ρ, R, hσ, h.bind fun d S1 v H1 m1 e1 p1 R1 d1 h1 => by
    cases d1 with
    | bl b => exact ⟨b, rfl, h1.ok R1 rfl⟩
    | _ => exact h1.elim⟩
theorem et_cmp {op : CmpOp} {o : Op2} (ho : OpD X (compareOp op) o) (ha : EE X W a fa) (hb : EE X W b fb) (hm : behindInMarks op b = false) : ET X W (.Compare a [op] [b] pos) (tvB (eBin o fa fb)) :=
  ⟨PT.imp (pt_cmpR ho ha.pe hb.pe hm) (tvB_imp (fun _ _ => trivial) bin_imp)⟩
/-- a op b op' c -/
def eChain (o o' : Op2) (fa fb fc : Ev) : Ev := fun ρ S => (fa ρ S).bind fun a S1 => (fb ρ S1).bind fun b S2 => (o a b S2).res.bind fun z S3 => match z with
  | .bl true => (fc ρ S3).bind fun c S4 => (o' b c S4).res
  | .bl false => .ok (.bl false) S3
  | _ => .no
theorem chain_imp {K : PySem.W.Frag} {o o' : Op2} : ∀ σ H Q, tE K W (eChain o o' fa fb fc) σ H Q → tChain (rD K o) (rD K o') (tE K W fa) (tE K W fb) (tE K W fc) σ H Q := fun σ H Q ⟨m, S, ρ, R, hσ, h⟩ =>
  ⟨m, S, ρ, R, hσ, h.bind fun a S1 v H1 m1 e1 p1 R1 d1 h1 => ⟨m1, S1, ρ, R1, hσ.mono e1 p1, h1.bind fun b S2 w H2 m2 e2 p2 R2 d2 h2 => ⟨m2, S2, a, b, R2, d1.mono e2 p2, d2,
    Fin.of (h2.bind fun z S3 u H3 m3 e3 p3 R3 d3 h3 => by
      cases d3 with
      | bl k =>
        refine ⟨k, rfl, ?_⟩
        cases k with
        | true => exact iteT ⟨m3, S3, ρ, R3, ((hσ.mono e1 p1).mono e2 p2).mono e3 p3, h3.bind fun c S4 y H4 m4 e4 p4 R4 d4 h4 => ⟨m4, S4, b, c, R4, (d2.mono e3 p3).mono e4 p4, d4, Fin.of h4⟩⟩
        | false => exact iteF (h3.ok R3 (.bl false))
      | _ => exact h3.elim)⟩⟩⟩
theorem ee_chain {op op' : CmpOp} {o o' : Op2} (ho : OpD X (compareOp op) o) (ho' : OpD X (compareOp op') o') (ha : EE X W a fa) (hb : EE X W b fb) (hc : EE X W c fc) (hm : lastMarks [op, op'] [b, c] = false := by with_unfolding_all rfl) :
    EE X W (.Compare a [op, op'] [b, c] pos) (eChain o o' fa fb fc) := ⟨PE.imp (pe_chain ho ho' ha.pe hb.pe hc.pe hm) chain_imp⟩
theorem et_chain {op op' : CmpOp} {o o' : Op2} (ho : OpD X (compareOp op) o) (ho' : OpD X (compareOp op') o') (ha : EE X W a fa) (hb : EE X W b fb) (hc : EE X W c fc) (hm : lastMarks [op, op'] [b, c] = false := by with_unfolding_all rfl) :
    ET X W (.Compare a [op, op'] [b, c] pos) (tvB (eChain o o' fa fb fc)) := ⟨PT.imp (pt_chain ho ho' ha.pe hb.pe hc.pe hm) (tvB_imp (fun _ _ => trivial) chain_imp)⟩
end
/-- a value by cases: what stands for a written form -/
theorem RD.tup_inv {K : PySem.W.Frag} {m : List Addr} {H : Hp} {xs : List D} {v : V} (h : RD K m H (.tup xs) v) : ∃ p vs, v = .ref p ∧ SqT K H p vs ∧ RDs K m H xs vs := by
  cases h with
  | tup a b => exact ⟨_, _, rfl, a, b⟩
theorem RD.lst_inv {K : PySem.W.Frag} {m : List Addr} {H : Hp} {r : Nat} {v : V} (h : RD K m H (.lst r) v) : ∃ p, v = .ref p ∧ m[r]? = some p := by
  cases h with
  | lst a => exact ⟨_, rfl, a⟩
theorem RD.fz_inv {K : PySem.W.Frag} {m : List Addr} {H : Hp} {xs : List D} {v : V} (h : RD K m H (.fz xs) v) : ∃ p vs, v = .ref p ∧ Fz K H p vs ∧ RDs K m H xs vs := by
  cases h with
  | fz a b => exact ⟨_, _, rfl, a, b⟩
theorem RD.int_inv {K : PySem.W.Frag} {m : List Addr} {H : Hp} {i : Int} {v : V} (h : RD K m H (.int i) v) : v = .int i := by cases h; rfl
theorem RD.bl_inv {K : PySem.W.Frag} {m : List Addr} {H : Hp} {i : Bool} {v : V} (h : RD K m H (.bl i) v) : v = .bl i := by cases h; rfl
theorem RD.str_inv {K : PySem.W.Frag} {m : List Addr} {H : Hp} {i : Str} {v : V} (h : RD K m H (.str i) v) : v = .str i := by cases h; rfl
theorem RD.non_inv {K : PySem.W.Frag} {m : List Addr} {H : Hp} {v : V} (h : RD K m H .non v) : v = .non := by cases h; rfl
def oAdd : Op2
  | .int i, .int j, S => some (.int (i + j), S)
  | .tup xs, .tup ys, S => if xs.length + ys.length ≤ lim then some (.tup (xs ++ ys), S) else none
  | .lst r, .lst q, S => match S[r]?, S[q]? with
    | some xs, some ys => if xs.length + ys.length ≤ lim then some (.lst S.length, S ++ [xs ++ ys]) else none
    | _, _ => none
  | .str x, .str y, S => if x.length + y.length ≤ lim then some (.str (x ++ y), S) else none
  | _, _, _ => none
def oSub : Op2
  | .int i, .int j, S => some (.int (i - j), S)
  | _, _, _ => none
def oMul : Op2
  | .int i, .int j, S => if i.natAbs.log2 + j.natAbs.log2 < 9000000 then some (.int (i * j), S) else none
  | _, _, _ => none
def oDiv : Op2
  | .int i, .int j, S => if 0 < j ∧ j.natAbs.log2 < 9000 then some (.int (i / j), S) else none
  | _, _, _ => none
def oMod : Op2
  | .int i, .int j, S => if 0 < j then some (.int (i % j), S) else none
  | _, _, _ => none
def oPow : Op2
  | .int i, .int j, S => if 0 ≤ j ∧ j ≤ 1000000 ∧ i.natAbs < 2 ^ 64 then some (.int (i ^ j.toNat), S) else none
  | _, _, _ => none
def oCmp (f : Int → Int → Bool) : Op2
  | .int i, .int j, S => some (.bl (f i j), S)
  | _, _, _ => none
abbrev oLt := oCmp fun i j => decide (i < j)
abbrev oLe := oCmp fun i j => decide (i ≤ j)
abbrev oGt := oCmp fun i j => decide (j < i)
abbrev oGe := oCmp fun i j => decide (j ≤ i)
def oIs (neg : Bool) : Op2
  | .obj _, .non, _ => none
  | .ty _, .non, _ => none
  | .non, .non, S => some (.bl (!neg), S)
  | _, .non, S => some (.bl neg, S)
  | _, _, _ => none
end Sd
/-! Sd2: the operators' rules. -/
namespace Sd
open PySem PySem.Spec PyProof.Rows L2
def mapO {α β : Type} (f : α → Option β) : List α → Option (List β)
  | [] => some []
  | a :: r => match f a, mapO f r with
    | some b, some s => some (b :: s)
    | _, _ => none
/-- data, without the store -/
def toP : Nat → Store → D → Option PyData
  | 0, _, _ => none
  | _ + 1, _, .non => some .none
  | _ + 1, _, .bl b => some (.bool b)
  | _ + 1, _, .int i => some (.int i)
  | _ + 1, _, .str x => if PyData.strOk x = true then some (.str x) else none
  | n + 1, S, .tup xs => (mapO (toP n S) xs).map .tuple
  | n + 1, S, .fz xs => (mapO (toP n S) xs).map .list
  | n + 1, S, .lst r => match S[r]? with | some xs => (mapO (toP n S) xs).map .list | none => none
  | _ + 1, _, _ => none
def oEq : Op2 := fun a b S => match toP 64 S a, toP 64 S b with
  | some p, some q => some (.bl (PyData.eqv p q), S)
  | _, _ => none
def oNe : Op2 := fun a b S => match toP 64 S a, toP 64 S b with
  | some p, some q => some (.bl (!PyData.eqv p q), S)
  | _, _ => none
section
variable {K : PySem.W.Frag} {m : List Addr} {H : Hp} {S : Store}
theorem mapO_dp {n : Nat} (ih : ∀ (d : D) (v : V) (p : PyData), toP n S d = some p → RD K m H d v → Dp K H v p) : ∀ {xs : List D} {vs : List V} {ps : List PyData}, mapO (toP n S) xs = some ps → RDs K m H xs vs → DpAll K H vs ps
  | [], _, _, e, .nil => by simp [mapO] at e; subst e; exact .nil
  | d :: r, _, ps, e, .cons h t => by
    unfold mapO at e
    split at e
    · rename_i b s e1 e2
      cases e
      exact .cons (ih _ _ _ e1 h) (mapO_dp ih e2 t)
    · cases e
theorem toP_dp (R : Rep K m S H) : ∀ (n : Nat) (d : D) (v : V) (p : PyData), toP n S d = some p → RD K m H d v → Dp K H v p
  | 0, d, _, _, e, _ => by unfold toP at e; cases e
  | n + 1, d, v, p, e, h => by
    cases h with
    | non => simp only [toP] at e; cases e; exact .non
    | bl b => simp only [toP] at e; cases e; exact .bl b
    | int i => simp only [toP] at e; cases e; exact .int i
    | str x =>
      simp only [toP] at e
      split at e
      · cases e; exact .str x
      · cases e
    | tup hs hx =>
      simp only [toP, Option.map_eq_some_iff] at e
      obtain ⟨ps, e1, rfl⟩ := e
      exact .tup hs (mapO_dp (toP_dp R n) e1 hx)
    | fz hs hx =>
      simp only [toP, Option.map_eq_some_iff] at e
      obtain ⟨ps, e1, rfl⟩ := e
      exact .lst hs.sql (mapO_dp (toP_dp R n) e1 hx)
    | lst hp =>
      simp only [toP] at e
      split at e
      · rename_i xs hx
        obtain ⟨ps, e1, rfl⟩ := Option.map_eq_some_iff.mp e
        obtain ⟨vs, a, b⟩ := R.cellAt hx hp
        exact .lst (SqL.of a) (mapO_dp (toP_dp R n) e1 b)
      · cases e
    | obj a => simp only [toP] at e; cases e
    | ty t => simp only [toP] at e; cases e
theorem mapO_sh {n : Nat} (ih : ∀ (d : D) (p : PyData), toP n S d = some p → p.canLay0 = true ∧ p.depth ≤ n) : ∀ {xs : List D} {ps : List PyData}, mapO (toP n S) xs = some ps → PyData.canLayAll0 ps = true ∧ PyData.depthAll ps ≤ n
  | [], _, e => by simp [mapO] at e; subst e; exact ⟨by simp only [PyData.canLayAll0], by simp only [PyData.depthAll]; exact Nat.zero_le _⟩
  | d :: r, ps, e => by
    unfold mapO at e
    split at e
    · rename_i b s e1 e2
      cases e
      obtain ⟨a1, a2⟩ := ih _ _ e1
      obtain ⟨b1, b2⟩ := mapO_sh ih e2
      refine ⟨by simp only [PyData.canLayAll0, a1, b1, Bool.and_self], ?_⟩
      simp only [PyData.depthAll]
      omega
    · cases e
theorem toP_sh : ∀ (n : Nat) (d : D) (p : PyData), toP n S d = some p → p.canLay0 = true ∧ p.depth ≤ n
  | 0, _, _, e => by unfold toP at e; cases e
  | n + 1, d, p, e => by
    have seq : ∀ {xs : List D} {ps : List PyData}, mapO (toP n S) xs = some ps → PyData.canLayAll0 ps = true ∧ PyData.depthAll ps + 1 ≤ n + 1 := fun {xs ps} e => by
      obtain ⟨a, b⟩ := mapO_sh (toP_sh n) e
      exact ⟨a, by omega⟩
    cases d with
    | non => simp only [toP] at e; cases e; exact ⟨by simp only [PyData.canLay0], by simp only [PyData.depth]; omega⟩
    | bl b => simp only [toP] at e; cases e; exact ⟨by simp only [PyData.canLay0], by simp only [PyData.depth]; omega⟩
    | int i => simp only [toP] at e; cases e; exact ⟨by simp only [PyData.canLay0], by simp only [PyData.depth]; omega⟩
    | str x =>
      simp only [toP] at e
      split at e
      · rename_i hx; cases e; exact ⟨by simp only [PyData.canLay0]; exact hx, by simp only [PyData.depth]; omega⟩
      · cases e
    | tup xs =>
      simp only [toP, Option.map_eq_some_iff] at e
      obtain ⟨ps, e1, rfl⟩ := e
      obtain ⟨a, b⟩ := seq e1
      exact ⟨by simp only [PyData.canLay0]; exact a, by simp only [PyData.depth]; exact b⟩
    | fz xs =>
      simp only [toP, Option.map_eq_some_iff] at e
      obtain ⟨ps, e1, rfl⟩ := e
      obtain ⟨a, b⟩ := seq e1
      exact ⟨by simp only [PyData.canLay0]; exact a, by simp only [PyData.depth]; exact b⟩
    | lst r =>
      simp only [toP] at e
      split at e
      · obtain ⟨ps, e1, rfl⟩ := Option.map_eq_some_iff.mp e
        obtain ⟨a, b⟩ := seq e1
        exact ⟨by simp only [PyData.canLay0]; exact a, by simp only [PyData.depth]; exact b⟩
      · cases e
    | obj a => simp only [toP] at e; cases e
    | ty t => simp only [toP] at e; cases e
theorem toP_shaped {d : D} {p : PyData} (e : toP 64 S d = some p) : SeqAt.shaped p = true := by
  obtain ⟨a, b⟩ := toP_sh _ _ _ e
  unfold SeqAt.shaped
  rw [a, decide_eq_true b]
  rfl
end
section
variable {X : Cx}
theorem od_eq (hu : X.A.units + 64 < cLine) : OpD X (compareOp .Eq) oEq := OpR.imp (op_eqD hu) fun v w H Q ⟨m, S, a, b, R, ra, rb, q⟩ => by
  unfold oEq at q
  cases ea : toP 64 S a with
  | none => rw [ea] at q; obtain ⟨_, _, z, _⟩ := q; simp at z
  | some p =>
    cases eb : toP 64 S b with
    | none => rw [ea, eb] at q; obtain ⟨_, _, z, _⟩ := q; simp at z
    | some p' =>
      rw [ea, eb] at q
      exact ⟨p, p', toP_dp R _ _ _ _ ea ra, toP_dp R _ _ _ _ eb rb, toP_shaped ea, toP_shaped eb, q.here R (.bl _)⟩
theorem od_ne (hu : X.A.units + 64 < cLine) : OpD X (compareOp .NotEq) oNe := OpR.imp (op_neD hu) fun v w H Q ⟨m, S, a, b, R, ra, rb, q⟩ => by
  unfold oNe at q
  cases ea : toP 64 S a with
  | none => rw [ea] at q; obtain ⟨_, _, z, _⟩ := q; simp at z
  | some p =>
    cases eb : toP 64 S b with
    | none => rw [ea, eb] at q; obtain ⟨_, _, z, _⟩ := q; simp at z
    | some p' =>
      rw [ea, eb] at q
      exact ⟨p, p', toP_dp R _ _ _ _ ea ra, toP_dp R _ _ _ _ eb rb, toP_shaped ea, toP_shaped eb, q.here R (.bl _)⟩
theorem Fin.no {K : PySem.W.Frag} {m : List Addr} {H : Hp} {Q : VK} {P : Prop} (h : Fin K m H none Q) : P := by
  obtain ⟨_, _, z, _⟩ := h
  cases z
/-- an operator on two ints -/
theorem od_int {f : Value → Value → Sem Value} {o : Op2} {r : R2} (h : OpR X f r) (hi : ∀ i j S m H Q, Rep X.K m S H → Fin X.K m H (o (.int i) (.int j) S) Q → r (.int i) (.int j) H Q)
    (hn : ∀ a b S, (∀ i j, ¬ (a = .int i ∧ b = .int j)) → o a b S = none) : OpD X f o := OpR.imp h fun v w H Q ⟨m, S, a, b, R, ra, rb, q⟩ => by
  by_cases z : ∃ i j, a = .int i ∧ b = .int j
  · obtain ⟨i, j, rfl, rfl⟩ := z
    rw [ra.int_inv, rb.int_inv]
    exact hi i j S m H Q R q
  · rw [hn a b S fun i j e => z ⟨i, j, e⟩] at q
    exact q.no
theorem od_sub : OpD X (binaryOp .Sub) oSub := od_int op_sub (fun i j S m H Q R q => ⟨i, j, rfl, rfl, q.here R (.int _)⟩) fun a b S h => by
  cases a <;> cases b <;> first | rfl | exact (h _ _ ⟨rfl, rfl⟩).elim
/-- * of two factors of together less than nine million bits -/
def MulV (i j : Int) : Prop := i.natAbs.log2 + j.natAbs.log2 < 9000000
theorem bits_log (x : Int) : Builtin.Int.intBits x ≤ x.natAbs.log2 + 1 := by
  unfold Builtin.Int.intBits
  split
  · exact Nat.zero_le _
  · exact Nat.le_refl _
theorem MulV.ok {i j : Int} (h : MulV i j) : IntMulOk i j := fun z => by
  have hb := of_decide_eq_true (show decide (_ > _) = true from (Bool.and_eq_true _ _ ▸ z : _ ∧ _).2)
  have e : bitsLine = 134217728 := by decide
  have hi := bits_log i
  have hj := bits_log j
  have hh : i.natAbs.log2 + j.natAbs.log2 < 9000000 := h
  omega
theorem op_mulV : OpR X (binaryOp .Mult) (rI MulV fun i j => .int (i * j)) := opI fun _ _ _ _ _ _ _ hc q => mul_int q hc.ok
theorem od_mul0 : OpD X (binaryOp .Mult) oMul := od_int op_mulV (fun i j S m H Q R q => by
  unfold oMul at q
  dsimp only at q
  split at q
  · rename_i h; exact ⟨i, j, rfl, rfl, h, q.here R (.int _)⟩
  · exact q.no) fun a b S h => by
  cases a <;> cases b <;> first | rfl | exact (h _ _ ⟨rfl, rfl⟩).elim
theorem od_div : OpD X (binaryOp .FloorDiv) oDiv := od_int op_fdivW (fun i j S m H Q R q => by
  unfold oDiv at q
  dsimp only at q
  split at q
  · rename_i h; exact ⟨i, j, rfl, rfl, h, q.here R (.int _)⟩
  · exact q.no) fun a b S h => by
  cases a <;> cases b <;> first | rfl | exact (h _ _ ⟨rfl, rfl⟩).elim
theorem od_mod : OpD X (binaryOp .Mod) oMod := od_int op_mod (fun i j S m H Q R q => by
  unfold oMod at q
  dsimp only at q
  split at q
  · rename_i h; exact ⟨i, j, rfl, rfl, h, q.here R (.int _)⟩
  · exact q.no) fun a b S h => by
  cases a <;> cases b <;> first | rfl | exact (h _ _ ⟨rfl, rfl⟩).elim
theorem od_pow : OpD X (binaryOp .Pow) oPow := od_int op_pow (fun i j S m H Q R q => by
  unfold oPow at q
  dsimp only at q
  split at q
  · rename_i h; exact ⟨i, j, rfl, rfl, h, q.here R (.int _)⟩
  · exact q.no) fun a b S h => by
  cases a <;> cases b <;> first | rfl | exact (h _ _ ⟨rfl, rfl⟩).elim
theorem od_cmp {f : Value → Value → Sem Value} {g : Int → Int → Bool} (h : OpR X f (rI0 fun i j => .bl (g i j))) : OpD X f (oCmp g) := od_int h (fun i j S m H Q R q => ⟨i, j, rfl, rfl, q.here R (.bl _)⟩) fun a b S h => by
  cases a <;> cases b <;> first | rfl | exact (h _ _ ⟨rfl, rfl⟩).elim
theorem od_lt : OpD X (compareOp .Lt) oLt := od_cmp op_lt
theorem od_le : OpD X (compareOp .LtE) oLe := od_cmp op_le
theorem od_gt : OpD X (compareOp .Gt) oGt := od_cmp op_gt
theorem od_ge : OpD X (compareOp .GtE) oGe := od_cmp op_ge
theorem od_add : OpD X (binaryOp .Add) oAdd := OpR.imp (op_add.or (op_catA.or (op_cat.or op_add_str))) fun v w H Q ⟨m, S, a, b, R, ra, rb, q⟩ => by
  cases a <;> cases b <;> first | exact Fin.no q | skip
  · rename_i i j
    rw [ra.int_inv, rb.int_inv]
    exact .inl ⟨i, j, rfl, rfl, q.here R (.int _)⟩
  · rename_i x y
    rw [ra.str_inv, rb.str_inv]
    unfold oAdd at q
    dsimp only at q
    split at q
    · rename_i h; exact .inr (.inr (.inr ⟨x, y, rfl, rfl, le_lim h, q.here R (.str _)⟩))
    · exact q.no
  · rename_i xs ys
    obtain ⟨p, vs, rfl, hp, hv⟩ := ra.tup_inv
    obtain ⟨p', ws, rfl, hp', hw⟩ := rb.tup_inv
    unfold oAdd at q
    dsimp only at q
    split at q
    · rename_i h
      refine .inr (.inl ⟨p, p', vs, ws, rfl, rfl, hp, hp', le_lim (by rw [← hv.length, ← hw.length]; exact h), fun e => ?_, fun _ e => ?_, fun _ _ => q.newTup R (hv.append hw)⟩)
      · subst e
        cases hv
        exact q.here R (.tup hp' hw)
      · subst e
        cases hw
        rw [List.append_nil] at q
        exact q.here R (.tup hp hv)
    · exact q.no
  · rename_i r s
    obtain ⟨p, rfl, hp⟩ := ra.lst_inv
    obtain ⟨p', rfl, hp'⟩ := rb.lst_inv
    unfold oAdd at q
    dsimp only at q
    split at q
    · rename_i xs ys hx hy
      obtain ⟨vs, h1, h2⟩ := R.cellAt hx hp
      obtain ⟨ws, h3, h4⟩ := R.cellAt hy hp'
      split at q
      · rename_i h
        exact .inr (.inr (.inl ⟨p, p', vs, ws, rfl, rfl, h1, h3, le_lim (by rw [← h2.length, ← h4.length]; exact h), q.newLst R (h2.append h4)⟩))
      · exact q.no
    · exact q.no
theorem od_is : OpD X (compareOp .Is) (oIs false) := OpR.imp op_isN fun v w H Q ⟨m, S, a, b, R, ra, rb, q⟩ => by
  cases b <;> cases a <;> first | exact Fin.no q | skip
  all_goals
    rw [rb.non_inv]
    refine ⟨rfl, ?_⟩
    have z := q.here R (.bl _)
    cases ra
    exact z
theorem od_isnot : OpD X (compareOp .IsNot) (oIs true) := OpR.imp op_notN fun v w H Q ⟨m, S, a, b, R, ra, rb, q⟩ => by
  cases b <;> cases a <;> first | exact Fin.no q | skip
  all_goals
    rw [rb.non_inv]
    refine ⟨rfl, ?_⟩
    have z := q.here R (.bl _)
    cases ra
    exact z
end
/-! ### unary minus -/
def eNeg (f : Ev) : Ev := fun ρ S => (f ρ S).bind fun a S1 => match a with | .int i => .ok (.int (-i)) S1 | _ => .no
theorem ee_neg {X : Cx} {W : WX} {a : Expr} {f : Ev} {pos : Pos} (ha : EE X W a f) : EE X W (.UnaryOp .USub a pos) (eNeg f) := ⟨PE.imp (pe_un un_neg ha.pe) fun σ H Q ⟨m, S, ρ, R, hσ, h⟩ =>
  ⟨m, S, ρ, R, hσ, h.bind fun a S1 v H1 m1 e1 p1 R1 d1 h1 => by
    cases d1 with
    | int i => exact ⟨i, rfl, h1.ok R1 (.int _)⟩
    | _ => exact h1.elim⟩⟩
/-! ### truth, tests -/
def truD (d : D) (S : Store) : Option Bool := match d with
  | .non => some false
  | .bl b => some b
  | .int i => some (i != 0)
  | .str x => if x.length ≤ lim then some ((x.length : Int) != 0) else none
  | .tup xs => some (!xs.isEmpty)
  | .fz xs => some (!xs.isEmpty)
  | .lst r => (S[r]?).map fun xs => !xs.isEmpty
  | _ => none
theorem RDs.empty {K : PySem.W.Frag} {m : List Addr} {H : Hp} {xs : List D} {vs : List V} (h : RDs K m H xs vs) : xs.isEmpty = vs.isEmpty := by cases h <;> rfl
theorem truD_v {K : PySem.W.Frag} {m : List Addr} {H : Hp} {S : Store} {d : D} {v : V} {k : Bool} (R : Rep K m S H) (h : RD K m H d v) (e : truD d S = some k) : TruV K v H k := by
  cases h with
  | non => cases e; rfl
  | bl b => cases e; rfl
  | int i => cases e; rfl
  | str x =>
    simp only [truD] at e
    split at e
    · rename_i hx; cases e; exact ⟨le_lim hx, rfl⟩
    · cases e
  | tup a b => cases e; exact .inr (.inl ⟨_, a, by rw [b.empty]⟩)
  | fz a b => cases e; exact .inl ⟨_, a.sql, by rw [b.empty]⟩
  | lst hp =>
    simp only [truD] at e
    obtain ⟨xs, hx, rfl⟩ := Option.map_eq_some_iff.mp e
    obtain ⟨vs, a, b⟩ := R.cellAt hx hp
    exact .inl ⟨vs, SqL.of a, by rw [b.empty]⟩
  | obj a => cases e
  | ty t => cases e
def tvT (f : Ev) : Tv := fun ρ S => (f ρ S).bind fun d S1 => match truD d S1 with | some b => .ok b S1 | none => .no
section
variable {X : Cx} {W : WX} {a b : Expr} {fa fb : Ev} {ta tb : Tv} {pos : Pos} {rest : List Expr}
theorem tru_imp {K : PySem.W.Frag} {f : Ev} {m : List Addr} {S : Store} {ρ : Loc} {σ : L2.St} {H : Hp} {Q : Bool → Hp → Prop} (R : Rep K m S H) (hσ : RS K m H ρ σ) (h : PostR K (fun _ _ a b => a = b) m H (tvT f ρ S) Q (fun c H' => W (.ref c) none σ H')) :
    tE K W f σ H fun x H' => ∃ k, TruV K x H' k ∧ Q k H' :=
  ⟨m, S, ρ, R, hσ, h.bind fun d S1 v H1 m1 e1 p1 R1 d1 h1 => by
    cases e : truD d S1 with
    | none => rw [e] at h1; exact h1.elim
    | some k => rw [e] at h1; exact ⟨k, truD_v R1 d1 e, h1.ok R1 rfl⟩⟩
/-- any value as a test -/
theorem et_truth (ha : EE X W a fa) (he : ∀ whole, isTrue a X.env whole = (do let v ← whole; standAt a.pos; holding [v] (truthy v)) := by intro _; rfl) : ET X W a (tvT fa) :=
  ⟨PT.imp (pt_truth ha.pe he) fun σ H Q ⟨m, S, ρ, R, hσ, h⟩ => tru_imp R hσ h⟩
def tvAnd (p q : Tv) : Tv := fun ρ S => (p ρ S).bind fun b S1 => if b = true then q ρ S1 else .ok false S1
def tvOr (p q : Tv) : Tv := fun ρ S => (p ρ S).bind fun b S1 => if b = true then .ok true S1 else q ρ S1
def tvNot (p : Tv) : Tv := fun ρ S => (p ρ S).bind fun b S1 => .ok (!b) S1
theorem ew_and1 (ha : ET X W a ta) : EW X W (.BoolOp .And [a] pos) ta := ⟨pw_and1 ha.pt⟩
theorem ew_or1 (ha : ET X W a ta) : EW X W (.BoolOp .Or [a] pos) ta := ⟨pw_or1 ha.pt⟩
theorem ew_and (ha : ET X W a ta) (hb : EW X W (.BoolOp .And (b :: rest) pos) tb) : EW X W (.BoolOp .And (a :: b :: rest) pos) (tvAnd ta tb) := ⟨PW.imp (pw_and ha.pt hb.pw) fun σ H Q ⟨m, S, ρ, R, hσ, h⟩ =>
  ⟨m, S, ρ, R, hσ, h.bind fun c S1 k H1 m1 e1 p1 R1 d1 h1 => by
    subst d1
    cases c with
    | true => exact iteT ⟨m1, S1, ρ, R1, hσ.mono e1 p1, h1⟩
    | false => exact iteF (h1.ok R1 rfl)⟩⟩
theorem ew_or (ha : ET X W a ta) (hb : EW X W (.BoolOp .Or (b :: rest) pos) tb) : EW X W (.BoolOp .Or (a :: b :: rest) pos) (tvOr ta tb) := ⟨PW.imp (pw_or ha.pt hb.pw) fun σ H Q ⟨m, S, ρ, R, hσ, h⟩ =>
  ⟨m, S, ρ, R, hσ, h.bind fun c S1 k H1 m1 e1 p1 R1 d1 h1 => by
    subst d1
    cases c with
    | true => exact iteT (h1.ok R1 rfl)
    | false => exact iteF ⟨m1, S1, ρ, R1, hσ.mono e1 p1, h1⟩⟩⟩
theorem EW.et (h : EW X W a ta) : ET X W a ta := ⟨h.pw.pt⟩
theorem et_not (ha : ET X W a ta) : ET X W (.UnaryOp .Not a pos) (tvNot ta) := ⟨PT.imp (pt_not ha.pt) fun σ H Q ⟨m, S, ρ, R, hσ, h⟩ =>
  ⟨m, S, ρ, R, hσ, h.bind fun c S1 k H1 m1 e1 p1 R1 d1 h1 => by subst d1; exact h1.ok R1 rfl⟩⟩
/-- .. as values -/
def eAnd (p q : Ev) : Ev := fun ρ S => (p ρ S).bind fun d S1 => match truD d S1 with | some true => q ρ S1 | some false => .ok d S1 | none => .no
def eOr (p q : Ev) : Ev := fun ρ S => (p ρ S).bind fun d S1 => match truD d S1 with | some true => .ok d S1 | some false => q ρ S1 | none => .no
def eNot (p : Ev) : Ev := fun ρ S => (p ρ S).bind fun d S1 => match truD d S1 with | some k => .ok (.bl (!k)) S1 | none => .no
theorem ee_one {op} (ha : EE X W a fa) : EE X W (.BoolOp op [a] pos) fa := ⟨pe_one ha.pe⟩
theorem ee_and (ha : EE X W a fa) (hb : EE X W (.BoolOp .And (b :: rest) pos) fb) : EE X W (.BoolOp .And (a :: b :: rest) pos) (eAnd fa fb) := ⟨PE.imp (pe_andT ha.pe hb.pe) fun σ H Q ⟨m, S, ρ, R, hσ, h⟩ =>
  ⟨m, S, ρ, R, hσ, h.bind fun d S1 v H1 m1 e1 p1 R1 d1 h1 => by
    cases e : truD d S1 with
    | none => rw [e] at h1; exact h1.elim
    | some k =>
      rw [e] at h1
      refine ⟨k, truD_v R1 d1 e, ?_⟩
      cases k with
      | true => exact iteT ⟨m1, S1, ρ, R1, hσ.mono e1 p1, h1⟩
      | false => exact iteF (h1.ok R1 d1)⟩⟩
theorem ee_or (ha : EE X W a fa) (hb : EE X W (.BoolOp .Or (b :: rest) pos) fb) : EE X W (.BoolOp .Or (a :: b :: rest) pos) (eOr fa fb) := ⟨PE.imp (pe_orT ha.pe hb.pe) fun σ H Q ⟨m, S, ρ, R, hσ, h⟩ =>
  ⟨m, S, ρ, R, hσ, h.bind fun d S1 v H1 m1 e1 p1 R1 d1 h1 => by
    cases e : truD d S1 with
    | none => rw [e] at h1; exact h1.elim
    | some k =>
      rw [e] at h1
      refine ⟨k, truD_v R1 d1 e, ?_⟩
      cases k with
      | true => exact iteT (h1.ok R1 d1)
      | false => exact iteF ⟨m1, S1, ρ, R1, hσ.mono e1 p1, h1⟩⟩⟩
theorem ee_not (ha : EE X W a fa) : EE X W (.UnaryOp .Not a pos) (eNot fa) := ⟨PE.imp (pe_notT ha.pe) fun σ H Q ⟨m, S, ρ, R, hσ, h⟩ =>
  ⟨m, S, ρ, R, hσ, h.bind fun d S1 v H1 m1 e1 p1 R1 d1 h1 => by
    cases e : truD d S1 with
    | none => rw [e] at h1; exact h1.elim
    | some k => rw [e] at h1; exact ⟨k, truD_v R1 d1 e, h1.ok R1 (.bl _)⟩⟩⟩
def eIf (c : Tv) (p q : Ev) : Ev := fun ρ S => (c ρ S).bind fun b S1 => if b = true then p ρ S1 else q ρ S1
theorem ee_if {c : Expr} {tc : Tv} (hc : ET X W c tc) (ha : EE X W a fa) (hb : EE X W b fb) : EE X W (.IfExp c a b pos) (eIf tc fa fb) := ⟨PE.imp (pe_ifExp hc.pt ha.pe hb.pe) fun σ H Q ⟨m, S, ρ, R, hσ, h⟩ =>
  ⟨m, S, ρ, R, hσ, h.bind fun c S1 k H1 m1 e1 p1 R1 d1 h1 => by
    subst d1
    cases c with
    | true => exact iteT ⟨m1, S1, ρ, R1, hσ.mono e1 p1, h1⟩
    | false => exact iteF ⟨m1, S1, ρ, R1, hσ.mono e1 p1, h1⟩⟩⟩
end
end Sd
/-! Sd3: arguments, tuples, lists, items, slices, built-ins by name. -/
namespace Sd
open PySem PySem.Spec PyProof.Rows L2
section
variable {X : Cx} {W : WX} {e : Expr} {es : List Expr} {f : Ev} {g : Av} {pos : Pos}
def aNil : Av := fun _ S => .ok [] S
def aCons (f : Ev) (g : Av) : Av := fun ρ S => (f ρ S).bind fun d S1 => (g ρ S1).bind fun ds S2 => .ok (d :: ds) S2
theorem ea_nil : EA X W [] aNil := ⟨PA.imp pa_nil fun σ H Q ⟨m, S, ρ, R, hσ, h⟩ => PostR.ok (R := RDs X.K) h R .nil⟩
theorem ea_cons (ha : EE X W e f) (hr : EA X W es g) (hs : starEach (e :: es) X.env = (false, eval e X.env) :: starEach es X.env := by rfl) : EA X W (e :: es) (aCons f g) := ⟨PA.imp (pa_cons ha.pe hr.pa hs) fun σ H Q ⟨m, S, ρ, R, hσ, h⟩ =>
  ⟨m, S, ρ, R, hσ, h.bind fun d S1 v H1 m1 e1 p1 R1 d1 h1 => ⟨m1, S1, ρ, R1, hσ.mono e1 p1, h1.bind fun ds S2 vs H2 m2 e2 p2 R2 d2 h2 => PostR.ok (R := RDs X.K) h2 R2 (.cons (d1.mono e2 p2) d2)⟩⟩⟩
def eTup (g : Av) : Ev := fun ρ S => (g ρ S).bind fun ds S1 => if ds.length ≤ lim then .ok (.tup ds) S1 else .no
def eLst (g : Av) : Ev := fun ρ S => (g ρ S).bind fun ds S1 => if ds.length ≤ lim then .ok (.lst S1.length) (S1 ++ [ds]) else .no
theorem ee_tup {x1 : Nat} (h : EA X W es g) : EE X W (.Tuple es x1 pos) (eTup g) := ⟨PE.imp (pe_tup h.pa) fun σ H Q ⟨m, S, ρ, R, hσ, h⟩ =>
  ⟨m, S, ρ, R, hσ, h.bind fun ds S1 vs H1 m1 e1 p1 R1 d1 h1 => by
    split at h1
    · rename_i hl
      exact ⟨le_lim (by rw [← d1.length]; exact hl), Fin.newTup (Fin.of (r := some (.tup ds, S1)) h1) R1 d1⟩
    · exact h1.elim⟩⟩
theorem ee_lst (h : EA X W es g) : EE X W (.List es pos) (eLst g) := ⟨PE.imp (pe_lst h.pa) fun σ H Q ⟨m, S, ρ, R, hσ, h⟩ =>
  ⟨m, S, ρ, R, hσ, h.bind fun ds S1 vs H1 m1 e1 p1 R1 d1 h1 => by
    split at h1
    · rename_i hl
      exact ⟨le_lim (by rw [← d1.length]; exact hl), Fin.newLst (Fin.of (r := some (.lst S1.length, S1 ++ [ds])) h1) R1 d1⟩
    · exact h1.elim⟩⟩
end
/-! ### items -/
theorem RDs.atI {K : PySem.W.Frag} {m : List Addr} {H : Hp} {xs : List D} {vs : List V} {i : Int} {d : D} (h : RDs K m H xs vs) (e : L2.atI xs i = some d) : ∃ v, L2.atI vs i = some v ∧ RD K m H d v := by
  unfold L2.atI at e ⊢
  rw [← h.length]
  cases q : L2.ixN xs.length i with
  | none => rw [q] at e; cases e
  | some j =>
    rw [q] at e
    exact h.get e
def oIx : Op2
  | .tup xs, .int i, S => (atI xs i).map fun d => (d, S)
  | .fz xs, .int i, S => (atI xs i).map fun d => (d, S)
  | .lst r, .int i, S => (S[r]?).bind fun xs => (atI xs i).map fun d => (d, S)
  | .str x, .int i, S => if x.length ≤ lim then (atI x.cps.toList i).map fun c => (.str ⟨#[c]⟩, S) else none
  | _, _, _ => none
theorem IxR.imp {X : Cx} {r r' : R2} (h : IxR X r) (i : ∀ v w H Q, r' v w H Q → r v w H Q) : IxR X r' := fun va sl pins s σ H x y v u Q I rx ry q => h va sl pins s σ H x y v u Q I rx ry (i _ _ _ _ q)
section
variable {K : PySem.W.Frag} {m : List Addr} {H : Hp} {S : Store}
theorem Fin.map {Q : VK} {o : Option D} (h : Fin K m H (o.map fun d => (d, S)) Q) : ∃ d, o = some d ∧ Fin K m H (some (d, S)) Q := by
  cases o with
  | none => exact Fin.no h
  | some d => exact ⟨d, rfl, h⟩
end
theorem ix_d {X : Cx} : IxR X (rD X.K oIx) := IxR.imp ix_seq fun v w H Q ⟨m, S, a, b, R, ra, rb, q⟩ => by
  cases b <;> cases a <;> first | exact Fin.no q | skip
  · rename_i i x
    rw [ra.str_inv, rb.int_inv]
    unfold oIx at q
    dsimp only at q
    split at q
    · rename_i h
      cases e : atI x.cps.toList i with
      | none => rw [e] at q; exact Fin.no q
      | some c =>
        rw [e] at q
        exact .inr (.inr ⟨x, i, c, rfl, rfl, le_lim h, e, q.here R (.str _)⟩)
    · exact Fin.no q
  · rename_i i xs
    obtain ⟨p, vs, rfl, hp, hv⟩ := ra.tup_inv
    rw [rb.int_inv]
    obtain ⟨d, e, q⟩ := Fin.map q
    obtain ⟨v, e2, rv⟩ := hv.atI e
    exact .inr (.inl ⟨p, vs, i, v, rfl, rfl, hp, e2, q.here R rv⟩)
  · rename_i i r
    obtain ⟨p, rfl, hp⟩ := ra.lst_inv
    rw [rb.int_inv]
    unfold oIx at q
    dsimp only at q
    cases e0 : S[r]? with
    | none => rw [e0] at q; exact Fin.no q
    | some xs =>
      rw [e0] at q
      obtain ⟨vs, h1, h2⟩ := R.cellAt e0 hp
      obtain ⟨d, e, q⟩ := Fin.map q
      obtain ⟨v, e2, rv⟩ := h2.atI e
      exact .inl ⟨p, vs, i, v, rfl, rfl, SqL.of h1, e2, q.here R rv⟩
  · rename_i i xs
    obtain ⟨p, vs, rfl, hp, hv⟩ := ra.fz_inv
    rw [rb.int_inv]
    obtain ⟨d, e, q⟩ := Fin.map q
    obtain ⟨v, e2, rv⟩ := hv.atI e
    exact .inl ⟨p, vs, i, v, rfl, rfl, hp.sql, e2, q.here R rv⟩
section
variable {X : Cx} {W : WX} {a b e : Expr} {es : List Expr} {fa fb f : Ev} {g : Av} {pos : Pos}
theorem ee_ix (ha : EE X W a fa) (hb : EE X W b fb) (hs : PlainIx b := by intro _ _; rfl) : EE X W (.Subscript a b pos) (eBin oIx fa fb) := ⟨PE.imp (pe_ix ix_d ha.pe hb.pe hs) bin_imp⟩
/-! ### slices -/
abbrev Ov := Loc → Store → Res (Option Int)
structure EO (X : Cx) (W : WX) (e : Option Expr) (f : Ov) : Prop where
  po : PO X e (tG X.K (fun _ _ a b => a = b) W f)
def oNone : Ov := fun _ S => .ok none S
def oSome (f : Ev) : Ov := fun ρ S => (f ρ S).bind fun d S1 => match d with | .int i => .ok (some i) S1 | _ => .no
theorem PO.imp {X : Cx} {e : Option Expr} {t t' : TO} (h : PO X e t) (i : ∀ σ H Q, t' σ H Q → t σ H Q) : PO X e t' := ⟨fun pins s σ H Q I q => h.run pins s σ H Q I (i σ H Q q)⟩
theorem eo_none : EO X W none oNone := ⟨PO.imp po_none fun σ H Q ⟨m, S, ρ, R, hσ, h⟩ => PostR.ok (R := fun _ _ a b => a = b) h R rfl⟩
theorem eo_some (h : EE X W e f) : EO X W (some e) (oSome f) := ⟨PO.imp (po_some h.pe) fun σ H Q ⟨m, S, ρ, R, hσ, h⟩ =>
  ⟨m, S, ρ, R, hσ, h.bind fun d S1 v H1 m1 e1 p1 R1 d1 h1 => by
    cases d1 with
    | int i => exact ⟨i, rfl, h1.ok R1 rfl⟩
    | _ => exact h1.elim⟩⟩
def cutD (xs : List D) (lo hi : Option Int) : List D := (xs.drop (HT.sIx xs.length 0 lo)).take (HT.sIx xs.length xs.length hi - HT.sIx xs.length 0 lo)
theorem RDs.cut {K : PySem.W.Frag} {m : List Addr} {H : Hp} {xs : List D} {vs : List V} (h : RDs K m H xs vs) (lo hi : Option Int) : RDs K m H (cutD xs lo hi) (cutV vs lo hi) := by
  unfold cutD cutV
  rw [h.length]
  exact (h.drop _).take _
def oSl (d : D) (lo hi : Option Int) (S : Store) : Out := match d with
  | .tup xs => some (.tup (cutD xs lo hi), S)
  | .lst r => (S[r]?).map fun xs => (.lst S.length, S ++ [cutD xs lo hi])
  | .fz xs => some (.lst S.length, S ++ [cutD xs lo hi])
  | _ => none
def eSl (f : Ev) (l u : Ov) : Ev := fun ρ S => (f ρ S).bind fun d S1 => (l ρ S1).bind fun lo S2 => (u ρ S2).bind fun hi S3 => (oSl d lo hi S3).res
def rSlD (K : PySem.W.Frag) : V → Option Int → Option Int → Hp → VK → Prop := fun v lo hi H Q => ∃ m S d, Rep K m S H ∧ RD K m H d v ∧ Fin K m H (oSl d lo hi S) Q
theorem SlR.imp {X : Cx} {r r' : V → Option Int → Option Int → Hp → VK → Prop} (h : SlR X r) (i : ∀ v lo hi H Q, r' v lo hi H Q → r v lo hi H Q) : SlR X r' := fun pins s σ H x v vl vu lo hi sl Q I rx hs pl pu q => h pins s σ H x v vl vu lo hi sl Q I rx hs pl pu (i _ _ _ _ _ q)
theorem sl_d : SlR X (rSlD X.K) := SlR.imp (sl_list.or sl_tupA) fun v lo hi H Q ⟨m, S, d, R, rd, q⟩ => by
  cases d <;> first | exact Fin.no q | skip
  · rename_i xs
    obtain ⟨p, vs, rfl, hp, hv⟩ := rd.tup_inv
    refine .inr ⟨p, vs, rfl, hp, fun h => ?_, fun _ => q.newTup R (hv.cut lo hi)⟩
    have e : cutD xs lo hi = xs := by
      unfold cutD
      rw [hv.length, h.1, h.2, ← hv.length]
      simp
    simp only [oSl, e] at q
    exact q.here R (.tup hp hv)
  · rename_i r
    obtain ⟨p, rfl, hp⟩ := rd.lst_inv
    simp only [oSl] at q
    cases e0 : S[r]? with
    | none => rw [e0] at q; exact Fin.no q
    | some xs =>
      rw [e0] at q
      obtain ⟨vs, h1, h2⟩ := R.cellAt e0 hp
      exact .inl ⟨p, vs, rfl, SqL.of h1, Fin.newLst q R (h2.cut lo hi)⟩
  · rename_i xs
    obtain ⟨p, vs, rfl, hp, hv⟩ := rd.fz_inv
    exact .inl ⟨p, vs, rfl, hp.sql, Fin.newLst q R (hv.cut lo hi)⟩
theorem ee_sl {lo hi : Option Expr} {l u : Ov} {p2 : Pos} (he : EE X W e f) (hl : EO X W lo l) (hu : EO X W hi u) : EE X W (.Subscript e (.Slice lo hi none p2) pos) (eSl f l u) := ⟨PE.imp (pe_slice sl_d he.pe hl.po hu.po) fun σ H Q ⟨m, S, ρ, R, hσ, h⟩ =>
  ⟨m, S, ρ, R, hσ, h.bind fun d S1 v H1 m1 e1 p1 R1 d1 h1 => ⟨m1, S1, ρ, R1, hσ.mono e1 p1, h1.bind fun lo S2 lo' H2 m2 e2 p2 R2 d2 h2 => by
    subst d2
    exact ⟨m2, S2, ρ, R2, (hσ.mono e1 p1).mono e2 p2, h2.bind fun hi S3 hi' H3 m3 e3 p3 R3 d3 h3 => by
      subst d3
      exact ⟨m3, S3, d, R3, (d1.mono e2 p2).mono e3 p3, Fin.of h3⟩⟩⟩⟩⟩
/-- e[::-1] of a list -/
def eRev (f : Ev) : Ev := fun ρ S => (f ρ S).bind fun d S1 => match d with
  | .lst r => match S1[r]? with | some xs => .ok (.lst S1.length) (S1 ++ [xs.reverse]) | none => .no
  | .fz xs => .ok (.lst S1.length) (S1 ++ [xs.reverse])
  | _ => .no
theorem ee_rev {k : Nat} {p1 p2 p3 : Pos} (he : EE X W e f) : EE X W (.Subscript e (.Slice none none (some (.UnaryOp .USub (.Constant (.int 1) k p1) p2)) p3) pos) (eRev f) := ⟨PE.imp (pe_revL he.pe) fun σ H Q ⟨m, S, ρ, R, hσ, h⟩ =>
  ⟨m, S, ρ, R, hσ, h.bind fun d S1 v H1 m1 e1 p1 R1 d1 h1 => by
    cases d1 with
    | lst hp =>
      dsimp only at h1
      split at h1
      · rename_i xs hx
        obtain ⟨vs, a1, a2⟩ := R1.cellAt hx hp
        exact ⟨_, vs, rfl, SqL.of a1, Fin.newLst (Fin.of (r := some (.lst S1.length, S1 ++ [xs.reverse])) h1) R1 a2.reverse⟩
      · exact h1.elim
    | fz a1 a2 => exact ⟨_, _, rfl, a1.sql, Fin.newLst (Fin.of (r := some (.lst S1.length, S1 ++ [_])) h1) R1 a2.reverse⟩
    | _ => exact h1.elim⟩⟩
/-! ### built-ins by name -/
abbrev OpN := List D → Store → Out
def rC (K : PySem.W.Frag) (o : OpN) : List V → Hp → VK → Prop := fun vs H Q => ∃ m S ds, Rep K m S H ∧ RDs K m H ds vs ∧ Fin K m H (o ds S) Q
def CallD (X : Cx) (f : Value) (o : OpN) : Prop := CallR X f (rC X.K o)
theorem CallR.imp {X : Cx} {f : Value} {r r' : List V → Hp → VK → Prop} (h : CallR X f r) (i : ∀ vs H Q, r' vs H Q → r vs H Q) : CallR X f r' := fun pins s σ H xs us Q I rx q => h pins s σ H xs us Q I rx (i _ _ _ q)
def eCallO (o : OpN) (g : Av) : Ev := fun ρ S => (g ρ S).bind fun ds S1 => (o ds S1).res
theorem callO_imp {K : PySem.W.Frag} {o : OpN} : ∀ σ H Q, tE K W (eCallO o g) σ H Q → tCB (rC K o) (tA K W g) σ H Q := fun σ H Q ⟨m, S, ρ, R, hσ, h⟩ =>
  ⟨m, S, ρ, R, hσ, h.bind fun ds S1 vs H1 m1 e1 p1 R1 d1 h1 => ⟨m1, S1, ds, R1, d1, Fin.of h1⟩⟩
variable {x : Str} {p : Pos} {id T : String} {o : OpN}
theorem ee_callB (hc : CallD X (.builtin id) o) (hg : Gl X x) (hm : X.mg x = none) (hv : bootBuiltins x = some (.builtin id)) (ha : EA X W (e :: es) g) (hn : x ≠ "__name__" := by decide) (hdb : (x == ("__debug__" : Str)) = false := by decide)
    (he : starEach (e :: es) X.env = (false, eval e X.env) :: starEach es X.env := by rfl) (hpl : (backTo pos (starEach es X.env)).any (·.1) = false := by rfl) : EE X W (.Call (.Name x p) (e :: es) [] pos) (eCallO o g) :=
  ⟨PE.imp (pe_callB hc hg hm hv ha.pa hn hdb he hpl) callO_imp⟩
theorem ee_callTy (hc : CallD X (.type T) o) (hg : Gl X x) (hm : X.mg x = none) (hv : bootBuiltins x = some (.type T)) (ha : EA X W (e :: es) g) (hn : x ≠ "__name__" := by decide) (hdb : (x == ("__debug__" : Str)) = false := by decide)
    (he : starEach (e :: es) X.env = (false, eval e X.env) :: starEach es X.env := by rfl) (hpl : (backTo pos (starEach es X.env)).any (·.1) = false := by rfl) : EE X W (.Call (.Name x p) (e :: es) [] pos) (eCallO o g) :=
  ⟨PE.imp (pe_callTy hc hg hm hv ha.pa hn hdb he hpl) callO_imp⟩
/-- a module's name for a built-in -/
theorem ee_callF (hc : CallD X (.builtin id) o) (hg : Gl X x) (hm : X.mg x = some (.builtin id)) (ha : EA X W (e :: es) g) (hdb : (x == ("__debug__" : Str)) = false := by decide)
    (he : starEach (e :: es) X.env = (false, eval e X.env) :: starEach es X.env := by rfl) (hpl : (backTo pos (starEach es X.env)).any (·.1) = false := by rfl) : EE X W (.Call (.Name x p) (e :: es) [] pos) (eCallO o g) :=
  ⟨PE.imp (pe_callBfun hc hg hm ha.pa hdb he hpl) callO_imp⟩
end
/-- the items of a list or a tuple -/
def items (d : D) (S : Store) : Option (List D) := match d with
  | .tup xs => some xs
  | .fz xs => some xs
  | .lst r => S[r]?
  | _ => none
def cLen : OpN
  | [.str x], S => if x.length ≤ lim then some (.int x.length, S) else none
  | [d], S => (items d S).map fun xs => (.int xs.length, S)
  | _, _ => none
def cAbs : OpN
  | [.int i], S => some (.int (if i < 0 then -i else i), S)
  | _, _ => none
def cInt : OpN
  | [.int i], S => some (.int i, S)
  | [.bl k], S => some (.int (if k then 1 else 0), S)
  | _, _ => none
def cMin2 : OpN
  | [.int i, .int j], S => some (.int (if j < i then j else i), S)
  | _, _ => none
def cMax2 : OpN
  | [.int i, .int j], S => some (.int (if j > i then j else i), S)
  | _, _ => none
def cGcd : OpN
  | [.int i, .int j], S => some (.int ((Nat.gcd i.natAbs j.natAbs : Nat) : Int), S)
  | _, _ => none
def cTuple : OpN
  | [d], S => (items d S).map fun xs => (.tup xs, S)
  | _, _ => none
def cList : OpN
  | [d], S => (items d S).map fun xs => (.lst S.length, S ++ [xs])
  | _, _ => none
def asB : D → Option Bool | .bl b => some b | _ => none
def asI : D → Option Int | .int b => some b | _ => none
def cAll : OpN
  | [.lst r], S => (S[r]?).bind fun xs => (mapO asB xs).map fun bs => (.bl (bs.all id), S)
  | _, _ => none
def cAny : OpN
  | [.lst r], S => (S[r]?).bind fun xs => (mapO asB xs).map fun bs => (.bl (bs.any id), S)
  | _, _ => none
def cSum : OpN
  | [.lst r], S => (S[r]?).bind fun xs => (mapO asI xs).map fun bs => (.int bs.sum, S)
  | _, _ => none
theorem RDs.nil_inv {K : PySem.W.Frag} {m : List Addr} {H : Hp} {vs : List V} (h : RDs K m H [] vs) : vs = [] := by cases h; rfl
theorem RDs.one_inv {K : PySem.W.Frag} {m : List Addr} {H : Hp} {a : D} {vs : List V} (h : RDs K m H [a] vs) : ∃ v, vs = [v] ∧ RD K m H a v := by
  cases h with
  | cons h1 h2 => cases h2; exact ⟨_, rfl, h1⟩
theorem RDs.two_inv {K : PySem.W.Frag} {m : List Addr} {H : Hp} {a b : D} {vs : List V} (h : RDs K m H [a, b] vs) : ∃ v w, vs = [v, w] ∧ RD K m H a v ∧ RD K m H b w := by
  cases h with
  | cons h1 h2 =>
    obtain ⟨w, rfl, h3⟩ := h2.one_inv
    exact ⟨_, _, rfl, h1, h3⟩
theorem RDs.bools {K : PySem.W.Frag} {m : List Addr} {H : Hp} : ∀ {xs : List D} {vs : List V} {bs : List Bool}, RDs K m H xs vs → mapO asB xs = some bs → vs = bs.map V.bl
  | [], _, _, .nil, e => by simp [mapO] at e; subst e; rfl
  | d :: r, _, bs, .cons h t, e => by
    unfold mapO at e
    split at e
    · rename_i b s e1 e2
      cases e
      have := t.bools e2
      cases d <;> simp [asB] at e1
      subst e1
      rw [h.bl_inv, this]
      rfl
    · cases e
theorem RDs.ints_inv {K : PySem.W.Frag} {m : List Addr} {H : Hp} : ∀ {xs : List D} {vs : List V} {bs : List Int}, RDs K m H xs vs → mapO asI xs = some bs → vs = bs.map V.int
  | [], _, _, .nil, e => by simp [mapO] at e; subst e; rfl
  | d :: r, _, bs, .cons h t, e => by
    unfold mapO at e
    split at e
    · rename_i b s e1 e2
      cases e
      have := t.ints_inv e2
      cases d <;> simp [asI] at e1
      subst e1
      rw [h.int_inv, this]
      rfl
    · cases e
theorem items_sq {K : PySem.W.Frag} {m : List Addr} {H : Hp} {S : Store} {d : D} {v : V} {xs : List D} (R : Rep K m S H) (h : RD K m H d v) (e : items d S = some xs) : ∃ p vs, v = .ref p ∧ RDs K m H xs vs ∧ (SqL K H p vs ∨ (SqT K H p vs ∧ d = .tup xs)) := by
  cases h with
  | tup a b => cases e; exact ⟨_, _, rfl, b, .inr ⟨a, rfl⟩⟩
  | fz a b => cases e; exact ⟨_, _, rfl, b, .inl a.sql⟩
  | lst hp =>
    obtain ⟨vs, a, b⟩ := R.cellAt e hp
    exact ⟨_, vs, rfl, b, .inl (SqL.of a)⟩
  | _ => cases e
section
variable {X : Cx}
theorem cd_len : CallD X (.builtin "len") cLen := CallR.imp (call_len_seq.or call_len_str) fun vs H Q ⟨m, S, ds, R, rd, q⟩ => by
  have other : ∀ d, Fin X.K m H ((items d S).map fun xs => (D.int xs.length, S)) Q → ∀ v, RD X.K m H d v → ∃ p ys, [v] = [V.ref p] ∧ (SqL X.K H p ys ∨ SqT X.K H p ys) ∧ Q (.int ys.length) H := fun d q v r => by
    cases e : items d S with
    | none => rw [e] at q; exact Fin.no q
    | some xs =>
      rw [e] at q
      obtain ⟨p, vs, rfl, h1, h2⟩ := items_sq R r e
      refine ⟨p, vs, rfl, ?_, by rw [← h1.length]; exact q.here R (.int _)⟩
      rcases h2 with h2 | ⟨h2, _⟩
      · exact .inl h2
      · exact .inr h2
  match ds, rd, q with
  | [], rd, q => exact Fin.no q
  | a :: b :: t, rd, q =>
    have e : cLen (a :: b :: t) S = none := by cases a <;> rfl
    rw [e] at q
    exact Fin.no q
  | [d], rd, q =>
    obtain ⟨v, rfl, r⟩ := rd.one_inv
    cases d with
    | str x =>
      simp only [cLen] at q
      split at q
      · rename_i h
        rw [r.str_inv]
        exact .inr ⟨x, rfl, le_lim h, q.here R (.int _)⟩
      · exact Fin.no q
    | non => exact .inl (other .non q v r)
    | bl b => exact .inl (other (.bl b) q v r)
    | int b => exact .inl (other (.int b) q v r)
    | tup b => exact .inl (other (.tup b) q v r)
    | lst b => exact .inl (other (.lst b) q v r)
    | fz b => exact .inl (other (.fz b) q v r)
    | obj b => exact .inl (other (.obj b) q v r)
    | ty b => exact .inl (other (.ty b) q v r)
theorem cd_abs : CallD X (.builtin "abs") cAbs := CallR.imp call_abs fun vs H Q ⟨m, S, ds, R, rd, q⟩ => by
  unfold cAbs at q
  split at q
  · obtain ⟨v, rfl, r⟩ := rd.one_inv
    rw [r.int_inv]
    exact ⟨_, rfl, q.here R (.int _)⟩
  · exact Fin.no q
theorem cd_int : CallD X (.type "int") cInt := CallR.imp call_int1 fun vs H Q ⟨m, S, ds, R, rd, q⟩ => by
  unfold cInt at q
  split at q
  · obtain ⟨v, rfl, r⟩ := rd.one_inv
    rw [r.int_inv]
    exact .inl ⟨_, rfl, q.here R (.int _)⟩
  · obtain ⟨v, rfl, r⟩ := rd.one_inv
    rw [r.bl_inv]
    exact .inr ⟨_, rfl, q.here R (.int _)⟩
  · exact Fin.no q
theorem cd_min2 (hc : X.calm = true) : CallD X (.builtin "min") cMin2 := CallR.imp (call_min2 hc) fun vs H Q ⟨m, S, ds, R, rd, q⟩ => by
  unfold cMin2 at q
  split at q
  · obtain ⟨v, w, rfl, r1, r2⟩ := rd.two_inv
    rw [r1.int_inv, r2.int_inv]
    exact ⟨_, _, rfl, q.here R (.int _)⟩
  · exact Fin.no q
theorem cd_max2 (hc : X.calm = true) : CallD X (.builtin "max") cMax2 := CallR.imp (call_max2 hc) fun vs H Q ⟨m, S, ds, R, rd, q⟩ => by
  unfold cMax2 at q
  split at q
  · obtain ⟨v, w, rfl, r1, r2⟩ := rd.two_inv
    rw [r1.int_inv, r2.int_inv]
    exact ⟨_, _, rfl, q.here R (.int _)⟩
  · exact Fin.no q
theorem cd_gcd : CallD X (.builtin "math.gcd") cGcd := CallR.imp cr_gcd fun vs H Q ⟨m, S, ds, R, rd, q⟩ => by
  unfold cGcd at q
  split at q
  · obtain ⟨v, w, rfl, r1, r2⟩ := rd.two_inv
    rw [r1.int_inv, r2.int_inv]
    exact ⟨_, _, rfl, q.here R (.int _)⟩
  · exact Fin.no q
theorem cd_tuple : CallD X (.type "tuple") cTuple := CallR.imp call_tuple_of fun vs H Q ⟨m, S, ds, R, rd, q⟩ => by
  match ds, rd, q with
  | [], rd, q => exact Fin.no q
  | _ :: _ :: _, rd, q => exact Fin.no q
  | [d], rd, q =>
    obtain ⟨v, rfl, r⟩ := rd.one_inv
    simp only [cTuple] at q
    cases e : items d S with
    | none => rw [e] at q; exact Fin.no q
    | some xs =>
      rw [e] at q
      obtain ⟨p, vs, rfl, h1, h2⟩ := items_sq R r e
      rcases h2 with h2 | ⟨h2, rfl⟩
      · exact ⟨p, vs, rfl, .inl ⟨h2, Fin.newTup q R h1⟩⟩
      · exact ⟨p, vs, rfl, .inr ⟨h2, q.here R r⟩⟩
theorem cd_list : CallD X (.type "list") cList := CallR.imp call_list_of fun vs H Q ⟨m, S, ds, R, rd, q⟩ => by
  match ds, rd, q with
  | [], rd, q => exact Fin.no q
  | _ :: _ :: _, rd, q => exact Fin.no q
  | [d], rd, q =>
    obtain ⟨v, rfl, r⟩ := rd.one_inv
    simp only [cList] at q
    cases e : items d S with
    | none => rw [e] at q; exact Fin.no q
    | some xs =>
      rw [e] at q
      obtain ⟨p, vs, rfl, h1, h2⟩ := items_sq R r e
      refine ⟨p, vs, rfl, ?_, Fin.newLst q R h1⟩
      rcases h2 with h2 | ⟨h2, _⟩
      · exact .inl h2
      · exact .inr h2
theorem cell_sql {K : PySem.W.Frag} {m : List Addr} {H : Hp} {S : Store} {r : Nat} {v : V} {xs : List D} (R : Rep K m S H) (h : RD K m H (.lst r) v) (e : S[r]? = some xs) : ∃ p vs, v = .ref p ∧ RDs K m H xs vs ∧ H p = some (.lst vs) := by
  obtain ⟨p, rfl, hp⟩ := h.lst_inv
  obtain ⟨vs, a, b⟩ := R.cellAt e hp
  exact ⟨p, vs, rfl, b, a⟩
theorem cd_all (hc : X.calm = true) : CallD X (.builtin "all") cAll := CallR.imp (cr_all hc) fun vs H Q ⟨m, S, ds, R, rd, q⟩ => by
  unfold cAll at q
  split at q
  · rename_i r
    obtain ⟨v, rfl, rv⟩ := rd.one_inv
    cases e : S[r]? with
    | none => rw [e] at q; exact Fin.no q
    | some xs =>
      rw [e] at q
      obtain ⟨p, vs, rfl, h1, h2⟩ := cell_sql R rv e
      dsimp only [Option.bind_some] at q
      cases e2 : mapO asB xs with
      | none => rw [e2] at q; exact Fin.no q
      | some bs =>
        rw [e2] at q
        have := h1.bools e2
        subst this
        exact ⟨p, bs, rfl, SqL.of h2, q.here R (.bl _)⟩
  · exact Fin.no q
theorem cd_any (hc : X.calm = true) : CallD X (.builtin "any") cAny := CallR.imp (cr_any hc) fun vs H Q ⟨m, S, ds, R, rd, q⟩ => by
  unfold cAny at q
  split at q
  · rename_i r
    obtain ⟨v, rfl, rv⟩ := rd.one_inv
    cases e : S[r]? with
    | none => rw [e] at q; exact Fin.no q
    | some xs =>
      rw [e] at q
      obtain ⟨p, vs, rfl, h1, h2⟩ := cell_sql R rv e
      dsimp only [Option.bind_some] at q
      cases e2 : mapO asB xs with
      | none => rw [e2] at q; exact Fin.no q
      | some bs =>
        rw [e2] at q
        have := h1.bools e2
        subst this
        exact ⟨p, bs, rfl, SqL.of h2, q.here R (.bl _)⟩
  · exact Fin.no q
theorem cd_sum (hc : X.calm = true) : CallD X (.builtin "sum") cSum := CallR.imp (cr_sum hc) fun vs H Q ⟨m, S, ds, R, rd, q⟩ => by
  unfold cSum at q
  split at q
  · rename_i r
    obtain ⟨v, rfl, rv⟩ := rd.one_inv
    cases e : S[r]? with
    | none => rw [e] at q; exact Fin.no q
    | some xs =>
      rw [e] at q
      obtain ⟨p, vs, rfl, h1, h2⟩ := cell_sql R rv e
      dsimp only [Option.bind_some] at q
      cases e2 : mapO asI xs with
      | none => rw [e2] at q; exact Fin.no q
      | some bs =>
        rw [e2] at q
        have := h1.ints_inv e2
        subst this
        exact ⟨p, bs, rfl, SqL.of h2, q.here R (.int _)⟩
  · exact Fin.no q
end
/-! ### isinstance -/
def isTy (d : D) (t : Ty) : Option Bool := match d, t with
  | _, .verr => none
  | .obj _, _ => none
  | .ty _, _ => none
  | .non, _ => some false
  | .bl _, .int => some true
  | .bl _, .bool => some true
  | .int _, .int => some true
  | .str _, .str => some true
  | .tup _, .tuple => some true
  | .lst _, .list => some true
  | .fz _, .list => some true
  | _, _ => some false
def tyN (d : D) : Option String := match d with
  | .non => some "NoneType" | .bl _ => some "bool" | .int _ => some "int" | .str _ => some "str" | .tup _ => some "tuple" | .lst _ => some "list" | .fz _ => some "list" | _ => none
def anyTy (d : D) : List D → Option Bool
  | [] => (tyN d).map fun _ => false
  | .ty t :: r => match isTy d t, anyTy d r with
    | some a, some b => some (a || b)
    | _, _ => none
  | _ => none
def cIsi : OpN
  | [d, .ty t], S => (isTy d t).map fun b => (.bl b, S)
  | [d, .tup ts], S => (anyTy d ts).map fun b => (.bl b, S)
  | _, _ => none
theorem isTy_kit {K : PySem.W.Frag} {d : D} {t : Ty} {b : Bool} (h : isTy d t = some b) : ∃ n, tyN d = some n ∧ PySem.W.kitOne K (.type n) (.type t.nm) = some b := by
  cases d <;> cases t <;> simp only [isTy] at h <;> cases h <;> exact ⟨_, rfl, kit_ty (by decide +kernel)⟩
theorem tyN_x {K : PySem.W.Frag} {m : List Addr} {H : Hp} {S : Store} {d : D} {v : V} {n : String} (R : Rep K m S H) (hx : ∀ r, d = .lst r → ∃ xs, S[r]? = some xs) (h : RD K m H d v) (e : tyN d = some n) : TyX K H v (.type n) := by
  cases h with
  | non => cases e; exact .base .non
  | bl b => cases e; exact .base (.bl b)
  | int i => cases e; exact .base (.int i)
  | str x => cases e; exact .base (.str x)
  | tup a b =>
    cases e
    rcases a with (a | ⟨o, a⟩) | ⟨o, its, nn, a, c, _⟩
    · exact .base (.tup a)
    · exact .fTuple a
    · exact .kTuple a c
  | fz a b =>
    cases e
    rcases a with ⟨o, a⟩ | ⟨o, its, nn, a, c, _⟩
    · exact .base (.frz a)
    · exact .kList a c
  | @lst r p hp =>
    cases e
    obtain ⟨xs, hxs⟩ := hx r rfl
    obtain ⟨vs, a, b⟩ := R.cellAt hxs hp
    exact .base (.lst a)
  | obj a => cases e
  | ty t => cases e
theorem RD.cell {K : PySem.W.Frag} {m : List Addr} {H : Hp} {S : Store} {d : D} {v : V} (R : Rep K m S H) (h : RD K m H d v) : ∀ r, d = .lst r → ∃ xs, S[r]? = some xs := fun r e => by
  subst e
  obtain ⟨p, rfl, hp⟩ := h.lst_inv
  have hr : r < S.length := by rw [← R.len]; exact (List.getElem?_eq_some_iff.mp hp).1
  exact ⟨S[r], List.getElem?_eq_getElem hr⟩
theorem isTy_none {d : D} {t : Ty} (h : tyN d = none) : isTy d t = none := by cases d <;> cases t <;> first | rfl | cases h
theorem anyTy_kit {K : PySem.W.Frag} {m : List Addr} {H : Hp} {d : D} {n : String} (hn : tyN d = some n) : ∀ {ts : List D} {vs : List V} {b : Bool}, RDs K m H ts vs → anyTy d ts = some b → ∃ us : List Value, Paired ClsV vs us ∧ PySem.W.kitAny K (.type n) us = some b
  | [], _, b, .nil, e => by simp only [anyTy, hn] at e; cases e; exact ⟨[], .nil, kitAny_nil⟩
  | t :: r, _, b, .cons h hr, e => by
    cases h with
    | ty t =>
      simp only [anyTy] at e
      split at e
      · rename_i a c e1 e2
        cases e
        obtain ⟨n', h1, h2⟩ := isTy_kit (K := K) e1
        rw [hn] at h1; cases h1
        obtain ⟨us, h3, h4⟩ := anyTy_kit hn hr e2
        refine ⟨.type t.nm :: us, .cons (.ty _) h3, kitAny_cons h2 (fun z => ?_) fun z => ?_⟩
        · subst z; exact h4
        · subst z; rfl
      · cases e
    | _ => cases e
theorem call_isiX {X : Cx} : CallR X (.builtin "isinstance") (fun xs H Q => ∃ (x : V) (tp : Addr) (cs : List V) (t : Value) (us : List Value) (b : Bool), xs = [x, .ref tp] ∧ SqT X.K H tp cs ∧ Paired ClsV cs us ∧ TyX X.K H x t ∧ PySem.W.kitAny X.K t us = some b ∧ Q (.bl b) H) := by
  intro pins s σ H xs us Q I r h
  obtain ⟨x, tp, cs, t, ws, b, rfl, hT, k, ty, e, q⟩ := h
  obtain ⟨u1, u2, rfl, r1, r2⟩ := vals2 r
  cases (show u2 = Value.ref tp from r2)
  obtain ⟨P, Z, p, hx⟩ := kit_of I r1 ty
  obtain ⟨its, rv, ⟨o, h1, h2, n, h3⟩, _⟩ := I.tuple hT
  have e3 := ClsV.all k rv
  subst e3
  obtain ⟨oc, od, dt, sl⟩ := o
  simp only at h2 h3
  subst h2 h3
  exact PySem.W.kia_tup Z I.kIn p h1 e hx fun tk => ⟨.bl b, H, I.tok tk, rfl, q⟩
theorem tyN_of {d : D} {t : Ty} {b : Bool} (h : isTy d t = some b) : ∃ n, tyN d = some n := by
  cases e : tyN d with
  | none => rw [isTy_none e] at h; cases h
  | some n => exact ⟨n, rfl⟩
theorem cd_isi {X : Cx} : CallD X (.builtin "isinstance") cIsi := CallR.imp (call_isi.or call_isiX) fun vs H Q ⟨m, S, ds, R, rd, q⟩ => by
  unfold cIsi at q
  split at q
  · rename_i d t
    obtain ⟨v, w, rfl, r1, r2⟩ := rd.two_inv
    cases e : isTy d t with
    | none => rw [e] at q; exact Fin.no q
    | some b =>
      rw [e] at q
      obtain ⟨n, h1, h2⟩ := isTy_kit (K := X.K) e
      cases r2
      exact .inl ⟨v, _, _, _, b, rfl, .ty _, tyN_x R (r1.cell R) r1 h1, h2, q.here R (.bl _)⟩
  · rename_i d ts
    obtain ⟨v, w, rfl, r1, r2⟩ := rd.two_inv
    cases e : anyTy d ts with
    | none => rw [e] at q; exact Fin.no q
    | some b =>
      rw [e] at q
      obtain ⟨p, vs, rfl, hp, hv⟩ := r2.tup_inv
      cases e3 : tyN d with
      | none =>
        cases ts with
        | nil => simp [anyTy, e3] at e
        | cons t r => cases t <;> simp [anyTy, isTy_none e3] at e
      | some n =>
        obtain ⟨us, h3, h4⟩ := anyTy_kit e3 hv e
        exact .inr ⟨v, p, vs, _, us, b, rfl, hp, h3, tyN_x R (r1.cell R) r1 e3, h4, q.here R (.bl _)⟩
  · exact Fin.no q
end Sd
/-! Sd4: defs, calls, statements, targets, loops, comprehensions, raise. -/
namespace Sd
open PySem PySem.Spec PyProof.Rows L2
/-! ### defs and their calls -/
def spE (K : PySem.W.Frag) (n : Nat) (F : Fv) : Sp := fun vs H Q E => vs.length = n ∧ ∃ m S ds, Rep K m S H ∧ RDs K m H ds vs ∧ PostR K (RD K) m H (F ds S) Q (fun c H' => E (.ref c) none H')
/-- the def x at f is worth F -/
structure Dfn (P : Program) (w : World) (K : PySem.W.Frag) (mg : Str → Option Value) (base : Heap) (x : Str) (f : Addr) (fd : FuncData) (ps : List Str) (k : Nat) (F : Fv) : Prop where
  ok : FnOk P w K mg base (L2.CX P w) k f fd ps (spE K ps.length F)
  len : ∀ ds S, ds.length ≠ ps.length → F ds S = .no
  mg : mg x = some (.ref f)
  kp : PySem.W.keepIn K (.ref f) = true
  bd : Binds K fd ps []
def eCall (F : Fv) (g : Av) : Ev := fun ρ S => (g ρ S).bind fun ds S1 => F ds S1
section
variable {X : Cx} {W : WX} {e : Expr} {es : List Expr} {f : Addr} {fd : FuncData} {ps : List Str} {j k : Nat} {F : Fv} {g gk : Av} {x : Str} {p pos : Pos} {kws : List Keyword}
theorem sp_of {E : XK} {Q : VK} {m : List Addr} {H : Hp} {S : Store} {ds : List D} {vs : List V} {Wc : Addr → Hp → Prop} (Df : Dfn X.prog X.w X.K X.mg X.base x f fd ps j F) (R : Rep X.K m S H) (rd : RDs X.K m H ds vs) (h : PostR X.K (RD X.K) m H (F ds S) Q Wc) (hw : ∀ c H', Wc c H' → E (.ref c) none H') :
    spE X.K ps.length F vs H Q E := by
  refine ⟨?_, m, S, ds, R, rd, ?_⟩
  · by_cases z : ds.length = ps.length
    · rw [← z]; exact rd.length.symm
    · rw [Df.len ds S z] at h; exact h.elim
  · cases q : F ds S with
    | ok a S' => rw [q] at h; exact h
    | exc c S' => rw [q] at h; exact fun H' m' e1 p1 r1 => hw _ _ (h H' m' e1 p1 r1)
    | no => rw [q] at h; exact h
theorem ee_call (O : Okx X W k) (Df : Dfn X.prog X.w X.K X.mg X.base x f fd ps j F) (hg : Gl X x) (ha : EA X W (e :: es) g) (hj : j ≤ k := by decide) (hdb : (x == ("__debug__" : Str)) = false := by decide)
    (he : starEach (e :: es) X.env = (false, eval e X.env) :: starEach es X.env := by rfl) (hpl : (backTo pos (starEach es X.env)).any (·.1) = false := by rfl) : EE X W (.Call (.Name x p) (e :: es) [] pos) (eCall F g) :=
  ⟨PE.imp (pe_callS Df.ok (O.room.mono hj) hg Df.mg Df.kp Df.bd (fun σ => passAt O.tk σ) ha.pa hdb he hpl) fun σ H Q ⟨m, S, ρ, R, hσ, h⟩ =>
    ⟨m, S, ρ, R, hσ, h.bind fun ds S1 vs H1 m1 e1 p1 R1 d1 h1 => sp_of Df R1 d1 h1 fun c H' q => q⟩⟩
/-- f() -/
theorem pe_callS0 {CX : CXT} {sp : Sp} {E : L2.St → XK} (F : FnOk X.prog X.w X.K X.mg X.base CX k f fd ps sp) (hr : Room k X.A) (hg : Gl X x) (hm : X.mg x = some (.ref f)) (hk : PySem.W.keepIn X.K (.ref f) = true) (hb : Binds X.K fd ps []) (hx : ∀ σ, PassesAt CX X σ (E σ))
    (hdb : (x == ("__debug__" : Str)) = false := by decide) : PE X (.Call (.Name x p) [] [] pos) (tCallS sp E tNil) := by
  refine ⟨fun pins s σ H Q I h => ?_⟩
  refine wpAny_Call_Name_kw (ld_glob I hg hm ?_ hdb)
  exact PySem.W.callWith_K0 I.kIn hk (run_fnS (us := []) F hr hb (hx σ) I .nil h)
theorem ee_call0 (O : Okx X W k) (Df : Dfn X.prog X.w X.K X.mg X.base x f fd ps j F) (hg : Gl X x) (hj : j ≤ k := by decide) (hdb : (x == ("__debug__" : Str)) = false := by decide) : EE X W (.Call (.Name x p) [] [] pos) (eCall F aNil) :=
  ⟨PE.imp (pe_callS0 Df.ok (O.room.mono hj) hg Df.mg Df.kp Df.bd (fun σ => passAt O.tk σ) hdb) fun σ H Q ⟨m, S, ρ, R, hσ, h⟩ => sp_of Df R .nil h fun c H' q => q⟩
/-- keywords: pi tells where each parameter's value stands among the positional ones and the keywords' -/
def perm {α : Type} (pi : List Nat) (xs : List α) : List α := pi.filterMap fun i => xs[i]?
theorem RDs.perm {K : PySem.W.Frag} {m : List Addr} {H : Hp} {xs : List D} {vs : List V} (h : RDs K m H xs vs) : ∀ pi : List Nat, RDs K m H (Sd.perm pi xs) (Sd.perm pi vs)
  | [] => .nil
  | i :: r => by
    have ih := RDs.perm h r
    unfold Sd.perm at ih ⊢
    rw [List.filterMap_cons, List.filterMap_cons]
    cases q : xs[i]? with
    | none =>
      have : vs[i]? = none := by
        rw [List.getElem?_eq_none_iff] at q ⊢
        rw [← h.length]; exact q
      rw [this]; exact ih
    | some d =>
      obtain ⟨v, h1, h2⟩ := h.get q
      rw [h1]; exact .cons h2 ih
theorem Vals.perm {vs : List V} {us : List Value} (h : Vals vs us) : ∀ pi : List Nat, Vals (Sd.perm pi vs) (Sd.perm pi us)
  | [] => .nil
  | i :: r => by
    have ih := Vals.perm h r
    unfold Sd.perm at ih ⊢
    rw [List.filterMap_cons, List.filterMap_cons]
    cases q : vs[i]? with
    | none => rw [h.none_of q]; exact ih
    | some d =>
      obtain ⟨v, h1, h2⟩ := h.get q
      rw [h1]; exact .cons h2 ih
structure EK (X : Cx) (W : WX) (kws : List Keyword) (f : Av) : Prop where
  pk : PK X kws (tA X.K W f)
theorem PK.imp {X : Cx} {e : List Keyword} {t t' : TA} (h : PK X e t) (i : ∀ σ H Q, t' σ H Q → t σ H Q) : PK X e t' := ⟨fun pos pins s σ H Q I q => h.run pos pins s σ H Q I (i σ H Q q)⟩
theorem ek_nil : EK X W [] aNil := ⟨PK.imp pk_nil fun σ H Q ⟨m, S, ρ, R, hσ, h⟩ => PostR.ok (R := RDs X.K) h R .nil⟩
theorem ek_cons {nm : Option Str} {kpos : Pos} {fe : Ev} (ha : EE X W e fe) (hr : EK X W kws g) : EK X W (⟨nm, e, kpos⟩ :: kws) (aCons fe g) := ⟨PK.imp (pk_cons ha.pe hr.pk) fun σ H Q ⟨m, S, ρ, R, hσ, h⟩ =>
  ⟨m, S, ρ, R, hσ, h.bind fun d S1 v H1 m1 e1 p1 R1 d1 h1 => ⟨m1, S1, ρ, R1, hσ.mono e1 p1, h1.bind fun ds S2 vs H2 m2 e2 p2 R2 d2 h2 => PostR.ok (R := RDs X.K) h2 R2 (.cons (d1.mono e2 p2) d2)⟩⟩⟩
def KBd (fd : FuncData) (ps : List Str) (n : Nat) (ks : List Str) (pi : List Nat) : Prop :=
  ∀ (s : Shared) (us ws : List Value), us.length = n → ws.length = ks.length → BindsTo s fd ⟨us, ks.zip ws⟩ (ps.zip (perm pi (us ++ ws)))
theorem run_fnKS {CX : CXT} {sp : Sp} {E : XK} {n : Nat} {ks : List Str} {pi : List Nat} {pins : List (Addr × Obj)} {σ : L2.St} {H : Hp} {s : Shared} {Q : VK} {us ws : List Value} {vs zs : List V} (F : FnOk X.prog X.w X.K X.mg X.base CX k f fd ps sp) (hr : Room k X.A) (hb : KBd fd ps n ks pi) (hx : PassesAt CX X σ E)
    (I : Inv X pins σ H s) (r : Vals vs us) (rz : Vals zs ws) (l1 : vs.length = n) (l2 : zs.length = ks.length) (h : sp (perm pi (vs ++ zs)) H Q E) : wpAny (model X.prog X.w) X.A (call (.ref f) us (ks.zip ws)) (EP X pins σ Q) X.xe s := by
  refine wpAny_call (codeAny_mono (F.run X.A X.stack s H ⟨us, ks.zip ws⟩ (perm pi (us ++ ws)) (perm pi (vs ++ zs)) Q E hr I.env0 (hb s us ws (r.length.symm.trans l1) (rz.length.symm.trans l2)) (Vals.perm (r.append rz) pi) h) fun r s' hq => ?_)
  cases r with
  | error e => exact hx pins H s e s' I hq
  | ok fl =>
    cases fl with
    | ret u => exact I.after hq
    | next => exact False.elim hq
    | brk => exact False.elim hq
    | cont => exact False.elim hq
def eCallK (F : Fv) (n nk : Nat) (pi : List Nat) (g gk : Av) : Ev := fun ρ S => (g ρ S).bind fun ds S1 => (gk ρ S1).bind fun zs S2 => if ds.length = n ∧ zs.length = nk then F (perm pi (ds ++ zs)) S2 else .no
theorem ee_callK {n : Nat} {ks : List Str} {pi : List Nat} (O : Okx X W k) (Df : Dfn X.prog X.w X.K X.mg X.base x f fd ps j F) (hg : Gl X x) (ha : EA X W (e :: es) g) (hkw : EK X W kws gk) (hb : KBd fd ps n ks pi) (hj : j ≤ k := by decide)
    (hall : (backToKw pos (keywordEach kws X.env)).all (·.1.isSome) = true := by rfl) (hks : (backToKw pos (keywordEach kws X.env)).filterMap (·.1) = ks := by rfl) (hdb : (x == ("__debug__" : Str)) = false := by decide)
    (he : starEach (e :: es) X.env = (false, eval e X.env) :: starEach es X.env := by rfl) (hpl : ((backTo pos (starEach (e :: es) X.env)).any (·.1) || (backToKw pos (keywordEach kws X.env)).any (·.1.isNone)) = false := by rfl) :
    EE X W (.Call (.Name x p) (e :: es) kws pos) (eCallK F n ks.length pi g gk) := by
  refine ⟨⟨fun pins s σ H Q I ⟨m, S, ρ, R, hσ, h⟩ => ?_⟩⟩
  refine wpAny_Call_Name_kw (ld_glob I hg Df.mg ?_ hdb)
  refine PySem.W.callWith_KW (h₀ := X.base) I.ok.mod.kin Df.kp hall (thn (ha.pa.run pos pins s σ H _ I ⟨m, S, ρ, R, hσ, h.bind fun ds S1 vs H1 m1 e1 p1 R1 d1 h1 => show ∃ m S ρ ds, Rep X.K m S H1 ∧ RS X.K m H1 ρ σ ∧ RDs X.K m H1 ds vs ∧ PostR X.K (RD X.K) m H1 ((gk ρ S).bind fun zs S2 => if ds.length = n ∧ zs.length = ks.length then F (perm pi (ds ++ zs)) S2 else .no) Q (fun c H' => W (.ref c) none σ H') from ⟨m1, S1, ρ, ds, R1, hσ.mono e1 p1, d1, h1⟩⟩) fun us s1 ⟨vs, H1, I1, r, q⟩ => ?_) hpl he
  obtain ⟨m1, S1, ρ1, ds, R1, hσ1, d1, q⟩ := q
  refine thn (hkw.pk.run pos pins s1 σ H1 _ I1 ⟨m1, S1, ρ1, R1, hσ1, q.bind fun zs S2 ws H2 m2 e2 p2 R2 d2 h2 => show ∃ m S, Rep X.K m S H2 ∧ RDs X.K m H2 ds vs ∧ ∃ zs, RDs X.K m H2 zs ws ∧ PostR X.K (RD X.K) m H2 (if ds.length = n ∧ zs.length = ks.length then F (perm pi (ds ++ zs)) S else .no) Q (fun c H' => W (.ref c) none σ H') from
    ⟨m2, S2, R2, d1.mono e2 p2, zs, d2, h2⟩⟩) fun ws s2 ⟨zv, H2, I2, rz, q2⟩ => ⟨I2.kIn, ?_⟩
  obtain ⟨m2, S2, R2, dd, zs, dz, q2⟩ := q2
  rw [hks]
  split at q2
  · rename_i hl
    exact run_fnKS (E := WE W σ) Df.ok (O.room.mono hj) hb (passAt O.tk σ) I2 r rz (dd.length.symm.trans hl.1) (dz.length.symm.trans hl.2) (sp_of Df R2 ((dd.append dz).perm pi) q2 fun c H' z => z)
  · exact q2.elim
theorem ee_callK0 {ks : List Str} {pi : List Nat} (O : Okx X W k) (Df : Dfn X.prog X.w X.K X.mg X.base x f fd ps j F) (hg : Gl X x) (hkw : EK X W kws gk) (hb : KBd fd ps 0 ks pi) (hj : j ≤ k := by decide)
    (hall : (backToKw pos (keywordEach kws X.env)).all (·.1.isSome) = true := by rfl) (hks : (backToKw pos (keywordEach kws X.env)).filterMap (·.1) = ks := by rfl) (hdb : (x == ("__debug__" : Str)) = false := by decide)
    (hpl : ((backTo pos (starEach [] X.env)).any (·.1) || (backToKw pos (keywordEach kws X.env)).any (·.1.isNone)) = false := by rfl) :
    EE X W (.Call (.Name x p) [] kws pos) (eCallK F 0 ks.length pi aNil gk) := by
  refine ⟨⟨fun pins s σ H Q I ⟨m, S, ρ, R, hσ, h⟩ => ?_⟩⟩
  refine wpAny_Call_Name_kw (ld_glob I hg Df.mg ?_ hdb)
  refine PySem.W.callWith_KW0 (h₀ := X.base) I.ok.mod.kin Df.kp hall (thn (hkw.pk.run pos pins s σ H _ I ⟨m, S, ρ, R, hσ, PostR.bind (R := RDs X.K) (x := gk ρ S) h fun zs S2 ws H2 m2 e2 p2 R2 d2 h2 => show ∃ m S, Rep X.K m S H2 ∧ ∃ zs, RDs X.K m H2 zs ws ∧ PostR X.K (RD X.K) m H2 (if ([] : List D).length = 0 ∧ zs.length = ks.length then F (perm pi ([] ++ zs)) S else .no) Q (fun c H' => W (.ref c) none σ H') from
    ⟨m2, S2, R2, zs, d2, h2⟩⟩) fun ws s2 ⟨zv, H2, I2, rz, q2⟩ => ⟨I2.kIn, ?_⟩) hpl
  obtain ⟨m2, S2, R2, zs, dz, q2⟩ := q2
  rw [hks]
  split at q2
  · rename_i hl
    exact run_fnKS (us := []) (vs := []) (E := WE W σ) Df.ok (O.room.mono hj) hb (passAt O.tk σ) I2 .nil rz rfl (dz.length.symm.trans hl.2) (sp_of (ds := perm pi ([] ++ zs)) Df R2 (dz.perm pi) q2 fun c H' z => z)
  · exact q2.elim
/-- a local name that holds one of some defs -/
structure HeldX (P : Program) (w : World) (K : PySem.W.Frag) (mg : Str → Option Value) (base : Heap) (k : Nat) (f : Addr) (F : Fv) : Prop where
  ex : ∃ (x : Str) (fd : FuncData) (ps : List Str) (j : Nat), j ≤ k ∧ Dfn P w K mg base x f fd ps j F
def HeldAll (P : Program) (w : World) (K : PySem.W.Frag) (mg : Str → Option Value) (base : Heap) (k : Nat) (tb : List (Addr × Fv)) : Prop := ∀ p ∈ tb, HeldX P w K mg base k p.1 p.2
def fvAt : List (Addr × Fv) → Addr → Option Fv
  | [], _ => none
  | (b, F) :: r, a => if b = a then some F else fvAt r a
theorem fvAt_mem : ∀ {tb : List (Addr × Fv)} {a : Addr} {F : Fv}, fvAt tb a = some F → (a, F) ∈ tb
  | (b, G) :: r, a, F, h => by
    unfold fvAt at h
    split at h
    · rename_i e; cases h; rw [e]; exact List.mem_cons_self
    · exact List.mem_cons_of_mem _ (fvAt_mem h)
def eCallL (tb : List (Addr × Fv)) (i : Nat) (g : Av) : Ev := fun ρ S => match lget ρ i with
  | some (.obj a) => match fvAt tb a with
    | some F => (g ρ S).bind fun ds S1 => F ds S1
    | none => .no
  | _ => .no
theorem ee_callL {tb : List (Addr × Fv)} (i : Nat) (O : Okx X W k) (hT : HeldAll X.prog X.w X.K X.mg X.base k tb) (ha : EA X W (e :: es) g) (hN : X.N[i]? = some x := by rfl) (hv : Vis X.env.scope x := by first | exact Or.inl rfl | exact Or.inr (Or.inl rfl) | exact Or.inr (Or.inr rfl))
    (hdb : (x == ("__debug__" : Str)) = false := by decide) (hcd : (x == ("__classdict__" : Str)) = false := by decide)
    (he : starEach (e :: es) X.env = (false, eval e X.env) :: starEach es X.env := by rfl) (hpl : (backTo pos (starEach es X.env)).any (·.1) = false := by rfl) : EE X W (.Call (.Name x p) (e :: es) [] pos) (eCallL tb i g) := by
  refine ⟨⟨fun pins s σ H Q I ⟨m, S, ρ, R, hσ, h⟩ => ?_⟩⟩
  unfold eCallL at h
  split at h
  · rename_i a ea
    split at h
    · rename_i F eF
      obtain ⟨y, fd, ps, j, hj, Df⟩ := (hT _ (fvAt_mem eF)).ex
      obtain ⟨v, hs, rv⟩ := hσ.2 i _ (lget_eq ea)
      cases rv
      refine wpAny_Call_Name_kw (thn ((pe_var (pos := p) hN hv hdb hcd).run pins s σ H (fun v H1 => v = .ref a ∧ H1 = H) I ⟨.ref a, hs, rfl, rfl⟩) fun u s1 ⟨v, H1, I1, r1, q1⟩ => ?_)
      obtain ⟨rfl, rfl⟩ := q1
      cases r1
      refine PySem.W.callWith_K (h₀ := X.base) I.ok.mod.kin Df.kp (thn (ha.pa.run pos pins s1 σ _ _ I1 ⟨m, S, ρ, R, hσ, h.bind fun ds S1 vs H2 m1 e1 p1 R1 d1 h1 => sp_of (E := WE W σ) Df R1 d1 h1 fun c H' z => z⟩) fun us s2 ⟨vs, H2, I2, r, q⟩ => ⟨I2.kIn, ?_⟩) he hpl
      exact run_fnS (E := WE W) Df.ok (O.room.mono hj) Df.bd (passAt O.tk σ) I2 r q
    · exact h.elim
  · exact h.elim
end
/-! ### targets made of names -/
inductive NT where
  | nm (i : Nat)
  | tp (ts : List NT)
mutual
def NT.b : NT → D → Loc → Option Loc
  | .nm i, d, ρ => some (ρ.set i (some d))
  | .tp ts, .tup xs, ρ => NT.bs ts xs ρ
  | .tp _, _, _ => none
def NT.bs : List NT → List D → Loc → Option Loc
  | [], [], ρ => some ρ
  | t :: ts, x :: xs, ρ => (NT.b t x ρ).bind fun ρ' => NT.bs ts xs ρ'
  | _, _, _ => none
end
mutual
def NT.ns : NT → List Nat
  | .nm i => [i]
  | .tp ts => NT.nss ts
def NT.nss : List NT → List Nat
  | [] => []
  | t :: ts => NT.ns t ++ NT.nss ts
end
mutual
def ntT (K : PySem.W.Frag) : NT → TG
  | .nm i => gName i
  | .tp ts => gTup K ts.length (ntTs K ts)
def ntTs (K : PySem.W.Frag) : List NT → TGs
  | [] => gNil
  | t :: ts => gCons (ntT K t) (ntTs K ts)
end
structure EN (X : Cx) (tg : Expr) (t : NT) : Prop where
  pg : PG X tg (ntT X.K t)
structure ENs (X : Cx) (tg : List Expr) (t : List NT) : Prop where
  pg : PGs X tg (ntTs X.K t)
section
variable {X : Cx} {e : Expr} {es : List Expr} {t : NT} {ts : List NT} {pos : Pos}
theorem en_name (i : Nat) {x : Str} (hN : X.N.Nodup) (hi : X.N[i]? = some x := by rfl) (hx : L2.Loc X.env.scope x := by first | exact .inl rfl | exact .inr rfl) (hf : X.fn x = true ∨ X.env.scope.names.lookup x = some .local := by first | exact .inl rfl | exact .inr rfl | assumption) : EN X (.Name x pos) (.nm i) :=
  ⟨by unfold ntT; exact pg_name hN hi hx hf⟩
theorem ens_nil : ENs X [] [] := ⟨by unfold ntTs; exact pgs_nil⟩
theorem ens_cons (h1 : EN X e t) (h2 : ENs X es ts) (hs : (assignEach (e :: es) X.env).map (·.2) = assign e X.env :: (assignEach es X.env).map (·.2) := by rfl) : ENs X (e :: es) (t :: ts) := ⟨by unfold ntTs; exact pgs_cons h1.pg h2.pg hs⟩
theorem en_tup {k : Nat} (hc : X.calm = true) (h : ENs X es ts) (hn : (assignEach es X.env).length = ts.length := by rfl) (hst : (assignEach es X.env).findIdx? (·.1) = none := by rfl) : EN X (.Tuple es k pos) (.tp ts) := ⟨by unfold ntT; exact pg_tup hc h.pg hn hst⟩
end
theorem wipe_get (σ : L2.St) : ∀ (vs : List Nat) (j : Nat), (wipe σ vs)[j]? = if j ∈ vs then (if j < σ.length then some none else none) else σ[j]?
  | [], j => by simp [wipe]
  | v :: vs, j => by
    unfold wipe
    by_cases e : v = j
    · subst e
      by_cases h : v < σ.length
      · rw [List.getElem?_set_self (by rw [wipe_length]; exact h)]; simp [h]
      · rw [List.getElem?_eq_none (by rw [List.length_set, wipe_length]; omega)]; simp [h]
    · rw [List.getElem?_set_ne e, wipe_get σ vs j]
      have : (j ∈ v :: vs) ↔ j ∈ vs := by simp [Ne.symm e]
      simp only [this]
theorem wipe_set {σ : L2.St} {vs : List Nat} {i : Nat} {x : Option V} (h : i ∈ vs) : wipe (σ.set i x) vs = wipe σ vs := by
  apply List.ext_getElem?
  intro j
  rw [wipe_get, wipe_get, List.length_set]
  by_cases hj : j ∈ vs
  · simp [hj]
  · have : i ≠ j := fun e => hj (e ▸ h)
    simp [hj, List.getElem?_set_ne this]
section
variable {K : PySem.W.Frag} {m : List Addr} {H : Hp}
mutual
theorem NT.run : ∀ (t : NT) {d : D} {v : V} {ρ ρ' : Loc} {σ : L2.St}, t.b d ρ = some ρ' → RS K m H ρ σ → RD K m H d v →
    ∃ σ', RS K m H ρ' σ' ∧ (∀ Q : L2.St → Hp → Prop, Q σ' H → ntT K t v σ H Q) ∧ (∀ vs : List Nat, (∀ i ∈ t.ns, i ∈ vs) → wipe σ' vs = wipe σ vs)
  | .nm i, d, v, ρ, ρ', σ, e, hσ, r => by
    simp only [NT.b] at e
    cases e
    exact ⟨σ.set i (some v), hσ.set r i, fun Q q => by unfold ntT; exact q, fun vs h => wipe_set (h i (by simp [NT.ns]))⟩
  | .tp ts, d, v, ρ, ρ', σ, e, hσ, r => by
    cases r with
    | tup h hs =>
      simp only [NT.b] at e
      obtain ⟨σ', a, b, c, l⟩ := NT.runs ts e hσ hs
      exact ⟨σ', a, fun Q q => by unfold ntT; exact ⟨_, _, rfl, h, l, b Q q⟩, fun vs h => c vs fun i hi => h i (by simp only [NT.ns]; exact hi)⟩
    | _ => simp only [NT.b] at e; cases e
theorem NT.runs : ∀ (ts : List NT) {ds : List D} {vs : List V} {ρ ρ' : Loc} {σ : L2.St}, NT.bs ts ds ρ = some ρ' → RS K m H ρ σ → RDs K m H ds vs →
    ∃ σ', RS K m H ρ' σ' ∧ (∀ Q : L2.St → Hp → Prop, Q σ' H → ntTs K ts vs σ H Q) ∧ (∀ ws : List Nat, (∀ i ∈ NT.nss ts, i ∈ ws) → wipe σ' ws = wipe σ ws) ∧ vs.length = ts.length
  | [], ds, vs, ρ, ρ', σ, e, hσ, r => by
    cases r with
    | nil =>
      simp only [NT.bs] at e
      cases e
      exact ⟨σ, hσ, fun Q q => by unfold ntTs; exact ⟨rfl, q⟩, fun _ _ => rfl, rfl⟩
    | cons _ _ => simp only [NT.bs] at e; cases e
  | t :: ts, ds, vs, ρ, ρ', σ, e, hσ, r => by
    cases r with
    | nil => simp only [NT.bs] at e; cases e
    | cons r1 r2 =>
      simp only [NT.bs] at e
      cases q : t.b _ ρ with
      | none => rw [q] at e; cases e
      | some ρ1 =>
        rw [q] at e
        obtain ⟨σ1, a1, b1, c1⟩ := NT.run t q hσ r1
        obtain ⟨σ2, a2, b2, c2, l⟩ := NT.runs ts e a1 r2
        refine ⟨σ2, a2, fun Q q => ?_, fun ws h => ?_, by rw [List.length_cons, List.length_cons, l]⟩
        · unfold ntTs
          exact ⟨_, _, rfl, b1 _ (b2 Q q)⟩
        · rw [c2 ws fun i hi => h i (by simp only [NT.nss]; exact List.mem_append_right _ hi), c1 ws fun i hi => h i (by simp only [NT.nss]; exact List.mem_append_left _ hi)]
end
end
end Sd
/-! Sd5: statements, loops, comprehensions, raise, try, a def by its body. -/
namespace Sd
open PySem PySem.Spec PyProof.Rows L2
def fuel : Nat := 1000000000000000000000000000000000000000000
section
variable {X : Cx} {W : WX} {e : Expr} {f : Ev} {pos : Pos} {st : Stmt} {rest : List Stmt} {b b' : Sv} {tc : Tv}
/-- nothing but the frame's own -/
theorem nx_of {K : PySem.W.Frag} {m : List Addr} {H : Hp} {S : Store} {ρ : Loc} {σ : L2.St} {D : Ends} (h : PostS K W m H (.nx ρ S) D) (R : Rep K m S H) (hσ : RS K m H ρ σ) : D.nx σ H := h σ H m (Ext.refl H) (List.prefix_refl _) R hσ
def sNext : Sv := fun ρ S => .nx ρ S
def sSeq (p q : Sv) : Sv := fun ρ S => match p ρ S with
  | .nx ρ' S' => q ρ' S'
  | o => o
theorem ess_nil : ESs X W [] sNext := ⟨PSs.imp pss_nil fun D σ H ⟨m, S, ρ, R, hσ, h⟩ => nx_of h R hσ⟩
theorem ess_one (h : ES X W st b) : ESs X W [st] b := ⟨pss_one h.ps⟩
theorem ess_cons (h : ES X W st b) (hr : ESs X W rest b') : ESs X W (st :: rest) (sSeq b b') := ⟨PSs.imp (pss_cons h.ps hr.pss) fun D σ H ⟨m, S, ρ, R, hσ, h⟩ => ⟨m, S, ρ, R, hσ, by
  unfold sSeq at h
  cases q : b ρ S with
  | nx ρ' S' =>
    rw [q] at h
    exact fun σ' H' m' e1 p1 R1 h1 => ⟨m', S', ρ', R1, h1, PostS.at e1 p1 h⟩
  | rt d S' => rw [q] at h; exact h
  | bk ρ' S' => rw [q] at h; exact h
  | ct ρ' S' => rw [q] at h; exact h
  | exc c ρ' S' => rw [q] at h; exact h
  | no => rw [q] at h; exact h⟩⟩
theorem es_pass : ES X W (.Pass pos) sNext := ⟨PS.imp ps_pass fun D σ H ⟨m, S, ρ, R, hσ, h⟩ => nx_of h R hσ⟩
theorem es_doc {x j pos pos'} : ES X W (.Expr (.Constant (.str x) j pos) pos') sNext := ⟨PS.imp ps_doc fun D σ H ⟨m, S, ρ, R, hσ, h⟩ => nx_of h R hσ⟩
def sBreak : Sv := fun ρ S => .bk ρ S
def sCont : Sv := fun ρ S => .ct ρ S
theorem es_break : ES X W (.Break pos) sBreak := ⟨PS.imp ps_break fun D σ H ⟨m, S, ρ, R, hσ, h⟩ => h σ H m (Ext.refl H) (List.prefix_refl _) R hσ⟩
theorem es_continue : ES X W (.Continue pos) sCont := ⟨PS.imp ps_continue fun D σ H ⟨m, S, ρ, R, hσ, h⟩ => h σ H m (Ext.refl H) (List.prefix_refl _) R hσ⟩
def sExpr (f : Ev) : Sv := fun ρ S => (f ρ S).st ρ fun _ S1 => .nx ρ S1
theorem es_expr (he : EE X W e f) (hs : swapsWith e none pos.line X.env = pure false := by rfl) : ES X W (.Expr e pos) (sExpr f) := ⟨PS.imp (ps_expr he.pe hs) fun D σ H ⟨m, S, ρ, R, hσ, h⟩ =>
  ⟨m, S, ρ, R, hσ, PostS.st h hσ fun a S1 v H1 m1 e1 p1 R1 d1 h1 => nx_of h1 R1 (hσ.mono e1 p1)⟩⟩
def sRet (f : Ev) : Sv := fun ρ S => (f ρ S).st ρ fun d S1 => .rt d S1
theorem es_ret (he : EE X W e f) : ES X W (.Return (some e) pos) (sRet f) := ⟨PS.imp (ps_ret he.pe) fun D σ H ⟨m, S, ρ, R, hσ, h⟩ =>
  ⟨m, S, ρ, R, hσ, PostS.st h hσ fun a S1 v H1 m1 e1 p1 R1 d1 h1 => h1 v H1 m1 (Ext.refl _) (List.prefix_refl _) R1 d1⟩⟩
def sRetN : Sv := fun _ S => .rt .non S
theorem es_retN : ES X W (.Return none pos) sRetN := ⟨PS.imp ps_retN fun D σ H ⟨m, S, ρ, R, hσ, h⟩ => h .non H m (Ext.refl _) (List.prefix_refl _) R .non⟩
def sIf (c : Tv) (p q : Sv) : Sv := fun ρ S => (c ρ S).st ρ fun k S1 => if k = true then p ρ S1 else q ρ S1
theorem es_if {c : Expr} {p q : List Stmt} (hc : ET X W c tc) (ha : ESs X W p b) (hb : ESs X W q b') : ES X W (.If c p q pos) (sIf tc b b') := ⟨PS.imp (ps_if hc.pt ha.pss hb.pss) fun D σ H ⟨m, S, ρ, R, hσ, h⟩ =>
  ⟨m, S, ρ, R, hσ, PostS.st h hσ fun a S1 v H1 m1 e1 p1 R1 d1 h1 => by
    subst d1
    cases a with
    | true => exact iteT ⟨m1, S1, ρ, R1, hσ.mono e1 p1, h1⟩
    | false => exact iteF ⟨m1, S1, ρ, R1, hσ.mono e1 p1, h1⟩⟩⟩
/-- name = e -/
def sSet (i : Nat) (f : Ev) : Sv := fun ρ S => (f ρ S).st ρ fun d S1 => .nx (ρ.set i (some d)) S1
theorem set_imp {K : PySem.W.Frag} {i : Nat} {te : TE} (hte : ∀ σ H Q, tE K W f σ H Q → te σ H Q) : ∀ D σ H, tS K W (sSet i f) D σ H → tAsg te (gName i) D σ H := fun D σ H ⟨m, S, ρ, R, hσ, h⟩ =>
  hte _ _ _ ⟨m, S, ρ, R, hσ, PostS.st h hσ fun a S1 v H1 m1 e1 p1 R1 d1 h1 => nx_of h1 R1 ((hσ.mono e1 p1).set d1 i)⟩
theorem es_set (i : Nat) {x : Str} {pos' : Pos} (hN : X.N.Nodup) (he : EE X W e f) (hi : X.N[i]? = some x := by rfl) (hx : L2.Loc X.env.scope x := by first | exact .inl rfl | exact .inr rfl) (hs : swapsWith e (some (.Name x pos')) pos.line X.env = pure false := by rfl)
    (hf : X.fn x = true ∨ X.env.scope.names.lookup x = some .local := by first | exact .inl rfl | exact .inr rfl | assumption) : ES X W (.Assign [.Name x pos'] e pos) (sSet i f) := ⟨PS.imp (ps_set hN hi hx he.pe hs hf) (set_imp fun _ _ _ h => h)⟩
/-- (a, (b, c)) = e -/
def sNt (t : NT) (f : Ev) : Sv := fun ρ S => (f ρ S).st ρ fun d S1 => match t.b d ρ with
  | some ρ' => .nx ρ' S1
  | none => .no
theorem es_nt {t : NT} {tg : Expr} (he : EE X W e f) (ht : EN X tg t) (hs : swapsWithSole [tg] e pos.line X.env = pure false := by rfl) (hw : swappedStores [tg] e X.env = pure none := by rfl) (h1 : (assignEach [tg] X.env).map (·.2) = [assign tg X.env] := by rfl) :
    ES X W (.Assign [tg] e pos) (sNt t f) := ⟨PS.imp (ps_asg he.pe ht.pg hs hw h1) fun D σ H ⟨m, S, ρ, R, hσ, h⟩ =>
  ⟨m, S, ρ, R, hσ, PostS.st h hσ fun d S1 v H1 m1 e1 p1 R1 d1 h1 => by
    cases q : t.b d ρ with
    | none => rw [q] at h1; exact h1.elim
    | some ρ' =>
      rw [q] at h1
      obtain ⟨σ', hσ', hQ, _⟩ := NT.run t q (hσ.mono e1 p1) d1
      exact hQ _ (nx_of h1 R1 hσ')⟩⟩
/-- names = a list's items -/
def sUnl (ts : List NT) (f : Ev) : Sv := fun ρ S => (f ρ S).st ρ fun d S1 => match d with
  | .lst r => match S1[r]? with
    | some xs => match NT.bs ts xs ρ with
      | some ρ' => .nx ρ' S1
      | none => .no
    | none => .no
  | _ => .no
theorem es_unl {ts : List NT} {es : List Expr} {k : Nat} {tp : Pos} (hc : X.calm = true) (he : EE X W e f) (ht : ENs X es ts) (hn : (assignEach es X.env).length = ts.length := by rfl) (hst : (assignEach es X.env).findIdx? (·.1) = none := by rfl)
    (hs : swapsWithSole [.Tuple es k tp] e pos.line X.env = pure false := by rfl) (hw : swappedStores [.Tuple es k tp] e X.env = pure none := by rfl) (h1 : (assignEach [.Tuple es k tp] X.env).map (·.2) = [assign (.Tuple es k tp) X.env] := by rfl) :
    ES X W (.Assign [.Tuple es k tp] e pos) (sUnl ts f) := ⟨PS.imp (ps_asg he.pe (pg_unl hc ht.pg hn hst) hs hw h1) fun D σ H ⟨m, S, ρ, R, hσ, h⟩ =>
  ⟨m, S, ρ, R, hσ, PostS.st h hσ fun d S1 v H1 m1 e1 p1 R1 d1 h1 => by
    cases d1 with
    | lst hp =>
      dsimp only at h1
      split at h1
      · rename_i xs hx
        obtain ⟨vs, a1, a2⟩ := R1.cellAt hx hp
        split at h1
        · rename_i ρ' q
          obtain ⟨σ', hσ', hQ, _, l⟩ := NT.runs ts q (hσ.mono e1 p1) a2
          exact ⟨_, vs, rfl, SqL.of a1, l, hQ _ (nx_of h1 R1 hσ')⟩
        · exact h1.elim
      · exact h1.elim
    | _ => exact h1.elim⟩⟩
/-- o[i] = e of a list -/
def oSet (o i d : D) (S : Store) : Option Store := match o, i with
  | .lst r, .int k => (S[r]?).bind fun xs => (ixN xs.length k).map fun j => S.set r (xs.set j d)
  | _, _ => none
def sSub (f fo fi : Ev) : Sv := fun ρ S => (f ρ S).st ρ fun d S1 => (fo ρ S1).st ρ fun o S2 => (fi ρ S2).st ρ fun i S3 => match oSet o i d S3 with
  | some S4 => .nx ρ S4
  | none => .no
theorem es_sub {o i : Expr} {fo fi : Ev} {p2 : Pos} (he : EE X W e f) (ho : EE X W o fo) (hi : EE X W i fi) (hs : swapsWithSole [.Subscript o i p2] e pos.line X.env = pure false := by rfl) (hw : swappedStores [.Subscript o i p2] e X.env = pure none := by rfl)
    (h1 : (assignEach [.Subscript o i p2] X.env).map (·.2) = [assign (.Subscript o i p2) X.env] := by rfl)
    (ha : ∀ v, assign (.Subscript o i p2) X.env v = (do
      let ov ← holding [v] (eval o X.env)
      let iv ← holding [v, ov] (eval i X.env)
      standAt p2
      holding [v, ov, iv] (setItem ov iv v)
      release [v, ov, iv] []) := by intro _; rfl) : ES X W (.Assign [.Subscript o i p2] e pos) (sSub f fo fi) := ⟨PS.imp (ps_asg he.pe (pg_sub ho.pe hi.pe set_list ha) hs hw h1) fun D σ H ⟨m, S, ρ, R, hσ, h⟩ =>
  ⟨m, S, ρ, R, hσ, PostS.st h hσ fun d S1 v H1 m1 e1 p1 R1 d1 h1 => ⟨m1, S1, ρ, R1, hσ.mono e1 p1, PostS.st h1 (hσ.mono e1 p1) fun ov S2 w H2 m2 e2 p2 R2 d2 h2 => ⟨m2, S2, ρ, R2, (hσ.mono e1 p1).mono e2 p2, PostS.st h2 ((hσ.mono e1 p1).mono e2 p2) fun iv S3 u H3 m3 e3 p3 R3 d3 h3 => by
    have dv := (d1.mono e2 p2).mono e3 p3
    have do' := d2.mono e3 p3
    have hσ3 := ((hσ.mono e1 p1).mono e2 p2).mono e3 p3
    cases do' with
    | lst hp =>
      cases d3 with
      | int kk =>
        rename_i r p
        simp only [oSet] at h3
        cases q : S3[r]? with
        | none => rw [q] at h3; exact h3.elim
        | some xs =>
          rw [q] at h3
          obtain ⟨vs, a1, a2⟩ := R3.cellAt q hp
          dsimp only [Option.bind_some] at h3
          cases q2 : ixN xs.length kk with
          | none => rw [q2] at h3; exact h3.elim
          | some j =>
            rw [q2] at h3
            refine ⟨p, vs, kk, j, rfl, rfl, a1, by rw [← a2.length]; exact q2, ?_⟩
            exact h3 σ _ m3 (Ext.lst a1) (List.prefix_refl _) (R3.write hp a1 (RDs.set dv j a2)) (hσ3.mono (Ext.lst a1) (List.prefix_refl _))
      | _ => simp only [oSet] at h3; exact h3.elim
    | _ => simp only [oSet] at h3; exact h3.elim⟩⟩⟩⟩
/-- a, b = x, y of plain local names: stored from the right -/
def sPar (i j : Nat) (g : Av) : Sv := fun ρ S => (g ρ S).st ρ fun ds S1 => match ds with
  | [a, b] => .nx ((ρ.set i (some a)).set j (some b)) S1
  | _ => .no
theorem es_par (i j : Nat) {x y : Str} {a b : Expr} {g : Av} {px py pt : Pos} {kt k2 pt2} (hc : X.calm = true) (hN : X.N.Nodup) (ha : EA X W [a, b] g) (hij : i ≠ j := by decide) (hi : X.N[i]? = some x := by rfl) (hj : X.N[j]? = some y := by rfl)
    (hx : X.env.scope.names.lookup x = some .local := by rfl) (hy : X.env.scope.names.lookup y = some .local := by rfl)
    (hw : swappedStores [.Tuple [.Name x px, .Name y py] kt pt] (.Tuple [a, b] k2 pt2) X.env = pure (some [x, y]) := by rfl)
    (hs : swapsWithSole [.Tuple [.Name x px, .Name y py] kt pt] (.Tuple [a, b] k2 pt2) pos.line X.env = pure false := by rfl) :
    ES X W (.Assign [.Tuple [.Name x px, .Name y py] kt pt] (.Tuple [a, b] k2 pt2) pos) (sPar i j g) := ⟨PS.imp (ps_par hc hN hi hj hij hx hy ha.pa hw hs) fun D σ H ⟨m, S, ρ, R, hσ, h⟩ =>
  ⟨m, S, ρ, R, hσ, PostS.st h hσ fun ds S1 vs H1 m1 e1 p1 R1 d1 h1 => by
    match ds, d1, h1 with
    | [], d1, h1 => exact h1.elim
    | [_], d1, h1 => exact h1.elim
    | _ :: _ :: _ :: _, d1, h1 => exact h1.elim
    | [a, b], d1, h1 =>
      obtain ⟨v, w, rfl, r1, r2⟩ := d1.two_inv
      exact ⟨v, w, rfl, nx_of h1 R1 (((hσ.mono e1 p1).set r1 i).set r2 j)⟩⟩⟩
def sPar3 (i j l : Nat) (g : Av) : Sv := fun ρ S => (g ρ S).st ρ fun ds S1 => match ds with
  | [a, b, c] => .nx (((ρ.set i (some a)).set j (some b)).set l (some c)) S1
  | _ => .no
theorem es_par3 (i j l : Nat) {x y z : Str} {a b c : Expr} {g : Av} {px py pz pt : Pos} {kt k2 pt2} (hc : X.calm = true) (hN : X.N.Nodup) (ha : EA X W [a, b, c] g) (hij : i ≠ j := by decide) (hil : i ≠ l := by decide) (hjl : j ≠ l := by decide) (hi : X.N[i]? = some x := by rfl) (hj : X.N[j]? = some y := by rfl) (hl : X.N[l]? = some z := by rfl)
    (hx : X.env.scope.names.lookup x = some .local := by rfl) (hy : X.env.scope.names.lookup y = some .local := by rfl) (hz : X.env.scope.names.lookup z = some .local := by rfl)
    (hw : swappedStores [.Tuple [.Name x px, .Name y py, .Name z pz] kt pt] (.Tuple [a, b, c] k2 pt2) X.env = pure (some [x, y, z]) := by rfl)
    (hs : swapsWithSole [.Tuple [.Name x px, .Name y py, .Name z pz] kt pt] (.Tuple [a, b, c] k2 pt2) pos.line X.env = pure false := by rfl) :
    ES X W (.Assign [.Tuple [.Name x px, .Name y py, .Name z pz] kt pt] (.Tuple [a, b, c] k2 pt2) pos) (sPar3 i j l g) := ⟨PS.imp (ps_par3 hc hN hi hj hl hij hil hjl hx hy hz ha.pa hw hs) fun D σ H ⟨m, S, ρ, R, hσ, h⟩ =>
  ⟨m, S, ρ, R, hσ, PostS.st h hσ fun ds S1 vs H1 m1 e1 p1 R1 d1 h1 => by
    match ds, d1, h1 with
    | [], d1, h1 => exact h1.elim
    | [_], d1, h1 => exact h1.elim
    | [_, _], d1, h1 => exact h1.elim
    | _ :: _ :: _ :: _ :: _, d1, h1 => exact h1.elim
    | [a, b, c], .cons r1 (.cons r2 (.cons r3 .nil)), h1 =>
      exact ⟨_, _, _, rfl, nx_of h1 R1 ((((hσ.mono e1 p1).set r1 i).set r2 j).set r3 l)⟩⟩⟩
/-! ### while -/
def sWhileGo (c : Tv) (b : Sv) : Nat → Sv
  | 0 => fun _ _ => .no
  | n + 1 => fun ρ S => (c ρ S).st ρ fun k S1 => if k = true then (match b ρ S1 with
      | .nx ρ' S' => sWhileGo c b n ρ' S'
      | .ct ρ' S' => sWhileGo c b n ρ' S'
      | .bk ρ' S' => .nx ρ' S'
      | o => o) else .nx ρ S1
def sWhile (c : Tv) (b : Sv) : Sv := sWhileGo c b fuel
theorem es_while {c : Expr} {body : List Stmt} (hp : PassesOwn (model X.prog X.w) X.A X.env X.xe) (hc : ET X W c tc) (hb : ESs X W body b) : ES X W (.While c body [] pos) (sWhile tc b) := ⟨PS.imp (ps_while hp hc.pt hb.pss) fun D σ H ⟨m, S, ρ, R, hσ, h⟩ => by
  refine ⟨fun n σ H => ∃ m S ρ, Rep X.K m S H ∧ RS X.K m H ρ σ ∧ PostS X.K W m H (sWhileGo tc b n ρ S) D, ⟨fuel, m, S, ρ, R, hσ, h⟩, ?_⟩
  rintro n σ H ⟨m, S, ρ, R, hσ, h⟩
  cases n with
  | zero => exact h.elim
  | succ n =>
    unfold sWhileGo at h
    refine ⟨m, S, ρ, R, hσ, PostS.st h hσ fun k S1 k' H1 m1 e1 p1 R1 d1 h1 => ?_⟩
    subst d1
    have hσ1 := hσ.mono e1 p1
    cases k with
    | false => exact iteF (nx_of h1 R1 hσ1)
    | true =>
      refine iteT ⟨fun σ' H' => ∃ m S ρ, Rep X.K m S H' ∧ RS X.K m H' ρ σ' ∧ PostS X.K W m H' (sWhileGo tc b n ρ S) D, fun σ' H' q => ⟨n, Nat.lt_succ_self _, q⟩, m1, S1, ρ, R1, hσ1, ?_⟩
      rw [if_pos rfl] at h1
      cases q : b ρ S1 with
      | nx ρ' S' => rw [q] at h1; exact fun σ' H' m' e2 p2 R2 h2 => ⟨m', S', ρ', R2, h2, PostS.at e2 p2 h1⟩
      | ct ρ' S' => rw [q] at h1; exact fun σ' H' m' e2 p2 R2 h2 => ⟨m', S', ρ', R2, h2, PostS.at e2 p2 h1⟩
      | bk ρ' S' => rw [q] at h1; exact h1
      | rt d S' => rw [q] at h1; exact h1
      | exc c' ρ' S' => rw [q] at h1; exact h1
      | no => rw [q] at h1; exact h1⟩
/-! ### what is walked -/
abbrev Itr := Store → Nat → Option D
def itLst (r : Nat) : Itr := fun S i => (S[r]?).bind fun xs => xs[i]?
def itSeq (xs : List D) : Itr := fun _ i => xs[i]?
def itRng (lo : Int) (n : Nat) : Itr := fun _ i => if i < n then some (.int (lo + i)) else none
def itEnum (a : Itr) : Itr := fun S i => (a S i).map fun d => .tup [.int i, d]
def itZip (a b : Itr) : Itr := fun S i => match a S i, b S i with
  | some x, some y => some (.tup [x, y])
  | _, _ => none
def RIt (K : PySem.W.Frag) : Rl Itr It := fun m H0 a J => ∀ m' S' H', m <+: m' → Ext H0 H' → Rep K m' S' H' → ∀ i, (a S' i = none → J.stop i H') ∧
  ∀ d, a S' i = some d → J.go i H' ∧ ∀ x H'', J.yld i H' x H'' → Ext H' H'' ∧ Rep K m' S' H'' ∧ RD K m' H'' d x
abbrev Iv := Loc → Store → Res Itr
structure EI (X : Cx) (W : WX) (tg iter : Expr) (it : Iv) : Prop where
  pi : PI X tg iter (tG X.K (RIt X.K) W it)
theorem PI.imp {X : Cx} {tg iter : Expr} {t t' : TI} (h : PI X tg iter t) (i : ∀ σ H Q, t' σ H Q → t σ H Q) : PI X tg iter t' := ⟨fun pins s σ H R I q => h.run pins s σ H R I (i σ H R q)⟩
end
section
variable {K : PySem.W.Frag} {m : List Addr} {H : Hp}
theorem sql_cell {r : Nat} {p : Addr} {S : Store} {xs : List D} {vs ws : List V} (R : Rep K m S H) (hp : m[r]? = some p) (hx : S[r]? = some xs) (h : H p = some (.lst vs)) : RDs K m H xs vs := by
  obtain ⟨us, a, b⟩ := R.cellAt hx hp
  rw [h] at a; cases a
  exact b
end
end Sd
/-! Sd6: for, comprehensions, raise, try, a def by its body. -/
namespace Sd
open PySem PySem.Spec PyProof.Rows L2 RZ
section
variable {K : PySem.W.Frag} {m : List Addr} {H : Hp}
/-- what a list at p holds at each turn -/
structure LsAt (K : PySem.W.Frag) (m : List Addr) (H0 : Hp) (p : Addr) (a : Itr) : Prop where
  at_ : ∀ m' S' H', m <+: m' → Ext H0 H' → Rep K m' S' H' → ∃ xs vs, RDs K m' H' xs vs ∧ SqL K H' p vs ∧ (∀ i, a S' i = xs[i]?) ∧ ∀ ws, SqL K H' p ws → ws = vs
structure TpAt (K : PySem.W.Frag) (m : List Addr) (H0 : Hp) (p : Addr) (a : Itr) : Prop where
  at_ : ∀ m' S' H', m <+: m' → Ext H0 H' → Rep K m' S' H' → ∃ xs vs, RDs K m' H' xs vs ∧ SqT K H' p vs ∧ (∀ i, a S' i = xs[i]?)
/-- what yld of the library's walks says of every reading of the list -/
theorem rit_lst {a : Itr} {p : Addr} (h : ∀ m' S' H', m <+: m' → Ext H H' → Rep K m' S' H' → ∃ xs vs, RDs K m' H' xs vs ∧ SqL K H' p vs ∧ ∀ i, a S' i = xs[i]?) : RIt K m H a (Itl K p) := by
  intro m' S' H' p1 e1 R1 i
  obtain ⟨xs, vs, r, q, hi⟩ := h m' S' H' p1 e1 R1
  rw [hi]
  refine ⟨fun e => ⟨vs, q, ?_⟩, fun d e => ?_⟩
  · rw [List.getElem?_eq_none_iff] at e
    rw [← r.length]; exact e
  · obtain ⟨v, h1, h2⟩ := r.get e
    refine ⟨⟨vs, v, q, h1⟩, fun x H'' y => ?_⟩
    obtain ⟨e1, y⟩ := y
    subst e1
    have z := y vs q
    rw [h1] at z; cases z
    exact ⟨Ext.refl _, R1, h2⟩
theorem rit_tup {a : Itr} {p : Addr} (h : ∀ m' S' H', m <+: m' → Ext H H' → Rep K m' S' H' → ∃ xs vs, RDs K m' H' xs vs ∧ SqT K H' p vs ∧ ∀ i, a S' i = xs[i]?) : RIt K m H a (Itt K p) := by
  intro m' S' H' p1 e1 R1 i
  obtain ⟨xs, vs, r, q, hi⟩ := h m' S' H' p1 e1 R1
  rw [hi]
  refine ⟨fun e => ⟨vs, q, ?_⟩, fun d e => ?_⟩
  · rw [List.getElem?_eq_none_iff] at e
    rw [← r.length]; exact e
  · obtain ⟨v, h1, h2⟩ := r.get e
    refine ⟨⟨vs, v, q, h1⟩, fun x H'' y => ?_⟩
    obtain ⟨e1, y⟩ := y
    subst e1
    have z := y vs q
    rw [h1] at z; cases z
    exact ⟨Ext.refl _, R1, h2⟩
theorem rit_rng {lo : Int} {n : Nat} : RIt K m H (itRng lo n) (L2.Itr lo n) := by
  intro m' S' H' p1 e1 R1 i
  unfold itRng
  by_cases h : i < n
  · rw [if_pos h]
    refine ⟨fun e => (by cases e), fun d e => ?_⟩
    cases e
    refine ⟨h, fun x H'' y => ?_⟩
    obtain ⟨e1, y⟩ := y
    subst e1 y
    exact ⟨Ext.refl _, R1, .int _⟩
  · rw [if_neg h]
    exact ⟨fun _ => Nat.le_of_not_lt h, fun d e => (by cases e)⟩
theorem rit_enum {a : Itr} {p : Addr} (h : ∀ m' S' H', m <+: m' → Ext H H' → Rep K m' S' H' → ∃ xs vs, RDs K m' H' xs vs ∧ SqL K H' p vs ∧ ∀ i, a S' i = xs[i]?) : RIt K m H (itEnum a) (Ite K p) := by
  intro m' S' H' p1 e1 R1 i
  obtain ⟨xs, vs, r, q, hi⟩ := h m' S' H' p1 e1 R1
  unfold itEnum
  rw [hi]
  refine ⟨fun e => ⟨vs, q, ?_⟩, fun d e => ?_⟩
  · have e : xs[i]? = none := by cases z : xs[i]? <;> simp_all
    rw [List.getElem?_eq_none_iff] at e
    rw [← r.length]; exact e
  · obtain ⟨d0, e0, rfl⟩ := Option.map_eq_some_iff.mp e
    obtain ⟨v, h1, h2⟩ := r.get e0
    refine ⟨⟨vs, v, q, h1⟩, fun x H'' y => ?_⟩
    obtain ⟨T, x0, rfl, hT, rfl, y⟩ := y
    have z := y vs q
    rw [h1] at z; cases z
    exact ⟨Ext.new hT, R1.new hT, .tup (SqT.of upd_same) (.cons (.int _) (.cons (h2.mono (Ext.new hT) (List.prefix_refl _)) .nil))⟩
theorem rit_zip {a b : Itr} {p q : Addr} (h : ∀ m' S' H', m <+: m' → Ext H H' → Rep K m' S' H' → ∃ xs vs, RDs K m' H' xs vs ∧ SqL K H' p vs ∧ ∀ i, a S' i = xs[i]?)
    (h' : ∀ m' S' H', m <+: m' → Ext H H' → Rep K m' S' H' → ∃ xs vs, RDs K m' H' xs vs ∧ SqL K H' q vs ∧ ∀ i, b S' i = xs[i]?) : RIt K m H (itZip a b) (Itz K p q) := by
  intro m' S' H' p1 e1 R1 i
  obtain ⟨xs, vs, r, s, hi⟩ := h m' S' H' p1 e1 R1
  obtain ⟨ys, ws, r', s', hi'⟩ := h' m' S' H' p1 e1 R1
  unfold itZip
  rw [hi, hi']
  cases ex : xs[i]? with
  | none =>
    refine ⟨fun _ => ⟨vs, ws, s, s', .inl ?_⟩, fun d e => by cases e⟩
    rw [List.getElem?_eq_none_iff] at ex
    rw [← r.length]; exact ex
  | some x =>
    cases ey : ys[i]? with
    | none =>
      refine ⟨fun _ => ⟨vs, ws, s, s', .inr ?_⟩, fun d e => by cases e⟩
      rw [List.getElem?_eq_none_iff] at ey
      rw [← r'.length]; exact ey
    | some y =>
      refine ⟨fun e => (by cases e), fun d e => ?_⟩
      cases e
      obtain ⟨v, h1, h2⟩ := r.get ex
      obtain ⟨v', h1', h2'⟩ := r'.get ey
      refine ⟨⟨vs, ws, v, v', s, s', h1, h1'⟩, fun u H'' y => ?_⟩
      obtain ⟨T, x0, y0, rfl, hT, rfl, y1, y2⟩ := y
      have z := y1 vs s
      rw [h1] at z; cases z
      have z := y2 ws s'
      rw [h1'] at z; cases z
      exact ⟨Ext.new hT, R1.new hT, .tup (SqT.of upd_same) (.cons (h2.mono (Ext.new hT) (List.prefix_refl _)) (.cons (h2'.mono (Ext.new hT) (List.prefix_refl _)) .nil))⟩
theorem rit_zipT {a b : Itr} {p q : Addr} (h : ∀ m' S' H', m <+: m' → Ext H H' → Rep K m' S' H' → ∃ xs vs, RDs K m' H' xs vs ∧ SqT K H' p vs ∧ ∀ i, a S' i = xs[i]?)
    (h' : ∀ m' S' H', m <+: m' → Ext H H' → Rep K m' S' H' → ∃ xs vs, RDs K m' H' xs vs ∧ SqT K H' q vs ∧ ∀ i, b S' i = xs[i]?) : RIt K m H (itZip a b) (ItzT K p q) := by
  intro m' S' H' p1 e1 R1 i
  obtain ⟨xs, vs, r, s, hi⟩ := h m' S' H' p1 e1 R1
  obtain ⟨ys, ws, r', s', hi'⟩ := h' m' S' H' p1 e1 R1
  unfold itZip
  rw [hi, hi']
  cases ex : xs[i]? with
  | none =>
    refine ⟨fun _ => ⟨vs, ws, s, s', .inl ?_⟩, fun d e => by cases e⟩
    rw [List.getElem?_eq_none_iff] at ex
    rw [← r.length]; exact ex
  | some x =>
    cases ey : ys[i]? with
    | none =>
      refine ⟨fun _ => ⟨vs, ws, s, s', .inr ?_⟩, fun d e => by cases e⟩
      rw [List.getElem?_eq_none_iff] at ey
      rw [← r'.length]; exact ey
    | some y =>
      refine ⟨fun e => (by cases e), fun d e => ?_⟩
      cases e
      obtain ⟨v, h1, h2⟩ := r.get ex
      obtain ⟨v', h1', h2'⟩ := r'.get ey
      refine ⟨⟨vs, ws, v, v', s, s', h1, h1'⟩, fun u H'' y => ?_⟩
      obtain ⟨T, x0, y0, rfl, hT, rfl, y1, y2⟩ := y
      have z := y1 vs s
      rw [h1] at z; cases z
      have z := y2 ws s'
      rw [h1'] at z; cases z
      exact ⟨Ext.new hT, R1.new hT, .tup (SqT.of upd_same) (.cons (h2.mono (Ext.new hT) (List.prefix_refl _)) (.cons (h2'.mono (Ext.new hT) (List.prefix_refl _)) .nil))⟩
/-- a list by its datum -/
theorem ls_cell {r : Nat} {p : Addr} (hp : m[r]? = some p) : ∀ m' S' H', m <+: m' → Ext H H' → Rep K m' S' H' → ∃ xs vs, RDs K m' H' xs vs ∧ SqL K H' p vs ∧ ∀ i, itLst r S' i = xs[i]? := fun m' S' H' p1 e1 R1 => by
  have hp' := pre_get p1 hp
  have hr : r < S'.length := by rw [← R1.len]; exact (List.getElem?_eq_some_iff.mp hp').1
  obtain ⟨vs, a, b⟩ := R1.at_ r p S'[r] hp' (List.getElem?_eq_getElem hr)
  exact ⟨_, vs, b, SqL.of a, fun i => by unfold itLst; rw [List.getElem?_eq_getElem hr]; rfl⟩
theorem ls_fz {xs : List D} {p : Addr} {vs : List V} (hp : Fz K H p vs) (hx : RDs K m H xs vs) : ∀ m' S' H', m <+: m' → Ext H H' → Rep K m' S' H' → ∃ ys ws, RDs K m' H' ys ws ∧ SqL K H' p ws ∧ ∀ i, itSeq xs S' i = ys[i]? :=
  fun m' S' H' p1 e1 R1 => ⟨xs, vs, hx.mono e1 p1, (hp.mono e1).sql, fun i => rfl⟩
theorem tp_tup {xs : List D} {p : Addr} {vs : List V} (hp : SqT K H p vs) (hx : RDs K m H xs vs) : ∀ m' S' H', m <+: m' → Ext H H' → Rep K m' S' H' → ∃ ys ws, RDs K m' H' ys ws ∧ SqT K H' p ws ∧ ∀ i, itSeq xs S' i = ys[i]? :=
  fun m' S' H' p1 e1 R1 => ⟨xs, vs, hx.mono e1 p1, sqt_mono e1 hp, fun i => rfl⟩
end
section
variable {X : Cx} {W : WX} {tg e : Expr} {es : List Expr} {f : Ev} {g : Av} {p pos tpos : Pos} {elts : List Expr} {kk : Nat}
def itOf (d : D) : Option Itr := match d with
  | .tup xs => some (itSeq xs)
  | .fz xs => some (itSeq xs)
  | .lst r => some (itLst r)
  | _ => none
def iOf (f : Ev) : Iv := fun ρ S => (f ρ S).bind fun d S1 => match itOf d with | some a => .ok a S1 | none => .no
theorem PI.or {t t' : TI} (h : PI X tg e t) (h' : PI X tg e t') : PI X tg e (fun σ H R => t σ H R ∨ t' σ H R) := ⟨fun pins s σ H R I q => by
  rcases q with q | q
  · exact h.run pins s σ H R I q
  · exact h'.run pins s σ H R I q⟩
/-- which of list or tuple an expression gives is seen only behind it -/
theorem pi_any (he : PE X e (tE X.K W f)) : PI X tg e (fun σ H R => tE X.K W f σ H fun x H1 => ∃ a, x = .ref a ∧ ((∃ xs, SqL X.K H1 a xs) ∧ R (Itl X.K a) H1 ∨ (∃ xs, SqT X.K H1 a xs) ∧ R (Itt X.K a) H1)) := by
  refine ⟨fun pins s σ H R I h => ?_⟩
  refine thn (he.run pins s σ H _ I h) fun v s1 ⟨x, H1, I1, r1, q1⟩ => ?_
  obtain ⟨a, rfl, q⟩ := q1
  rcases q with ⟨⟨xs, hq⟩, q⟩ | ⟨⟨xs, hq⟩, q⟩
  · cases r1
    obtain ⟨its, rv, p, hz⟩ := I1.list hq
    refine wpAny_pyIter_list p.isList ?_
    refine ⟨s1.heap.objs.size, [s1.heap.objs.size], _, _, H1, rfl, I1.kept (t' := s1.toks) fun b o e => Heap.get?_push_of_some _ e, turn_list a _, ⟨_, Heap.get?_push_size _ rfl, rfl, rfl⟩, fun b hb => ?_, q⟩
    have e : b = s1.heap.objs.size := by simpa using hb
    subst e
    exact I1.fpOk (Nat.le_refl _) (I1.hok.fresh (Nat.le_refl _))
  · cases r1
    obtain ⟨its, rv, p, hz⟩ := I1.tuple hq
    refine wpAny_pyIter_tuple (show s1.heap.IsTuple a its.toArray from p) ?_
    refine ⟨s1.heap.objs.size, [s1.heap.objs.size], _, _, H1, rfl, I1.kept (t' := s1.toks) fun b o e => Heap.get?_push_of_some _ e, turn_tuple a _, ⟨_, Heap.get?_push_size _ rfl, rfl, rfl⟩, fun b hb => ?_, q⟩
    have e : b = s1.heap.objs.size := by simpa using hb
    subst e
    exact I1.fpOk (Nat.le_refl _) (I1.hok.fresh (Nat.le_refl _))
theorem ei_of (he : EE X W e f) : EI X W tg e (iOf f) := ⟨PI.imp (pi_any he.pe) fun σ H Q ⟨m, S, ρ, R, hσ, h⟩ =>
  ⟨m, S, ρ, R, hσ, h.bind fun d S1 v H1 m1 e1 p1 R1 d1 h1 => by
    cases d1 with
    | tup a b => exact ⟨_, rfl, .inr ⟨⟨_, a⟩, h1.ok R1 (rit_tup (tp_tup a b))⟩⟩
    | fz a b => exact ⟨_, rfl, .inl ⟨⟨_, a.sql⟩, h1.ok R1 (rit_lst (ls_fz a b))⟩⟩
    | lst hp =>
      obtain ⟨xs, vs, _, q, _⟩ := ls_cell (H := H1) hp m1 S1 H1 (List.prefix_refl _) (Ext.refl _) R1
      exact ⟨_, rfl, .inl ⟨⟨_, q⟩, h1.ok R1 (rit_lst (ls_cell hp))⟩⟩
    | _ => exact h1.elim⟩⟩
def iRng1 (g : Av) : Iv := fun ρ S => (g ρ S).bind fun ds S1 => match ds with
  | [.int j] => if -(2 ^ 62) ≤ j ∧ j < 2 ^ 62 then .ok (itRng 0 j.toNat) S1 else .no
  | _ => .no
def iRng2 (g : Av) : Iv := fun ρ S => (g ρ S).bind fun ds S1 => match ds with
  | [.int i, .int j] => if -(2 ^ 62) ≤ i ∧ i < 2 ^ 62 ∧ -(2 ^ 62) ≤ j ∧ j < 2 ^ 62 then .ok (itRng i (j - i).toNat) S1 else .no
  | _ => .no
theorem ei_range1 (hg : Gl X "range") (hm : X.mg "range" = none) (ha : EA X W [e] g) (hs : starEach [e] X.env = [(false, eval e X.env)] := by rfl) : EI X W tg (.Call (.Name "range" p) [e] [] pos) (iRng1 g) := ⟨PI.imp (pi_range1 hg hm ha.pa hs) fun σ H Q ⟨m, S, ρ, R, hσ, h⟩ =>
  ⟨m, S, ρ, R, hσ, h.bind fun ds S1 vs H1 m1 e1 p1 R1 d1 h1 => by
    split at h1
    · obtain ⟨v, rfl, r⟩ := d1.one_inv
      split at h1
      · rename_i hb
        exact ⟨_, by rw [r.int_inv], hb.1, hb.2, h1.ok R1 rit_rng⟩
      · exact h1.elim
    · exact h1.elim⟩⟩
theorem ei_range2 {e2 : Expr} (hg : Gl X "range") (hm : X.mg "range" = none) (ha : EA X W [e, e2] g) (hs : starEach [e, e2] X.env = [(false, eval e X.env), (false, eval e2 X.env)] := by rfl) (hs2 : starEach [e2] X.env = [(false, eval e2 X.env)] := by rfl) :
    EI X W tg (.Call (.Name "range" p) [e, e2] [] pos) (iRng2 g) := ⟨PI.imp (pi_range2 hg hm ha.pa hs hs2) fun σ H Q ⟨m, S, ρ, R, hσ, h⟩ =>
  ⟨m, S, ρ, R, hσ, h.bind fun ds S1 vs H1 m1 e1 p1 R1 d1 h1 => by
    split at h1
    · obtain ⟨v, w, rfl, r, r'⟩ := d1.two_inv
      split at h1
      · rename_i hb
        exact ⟨_, _, by rw [r.int_inv, r'.int_inv], hb, h1.ok R1 rit_rng⟩
      · exact h1.elim
    · exact h1.elim⟩⟩
def iEnumE (g : Av) : Iv := fun ρ S => (g ρ S).bind fun ds S1 => match ds with
  | [.lst r] => .ok (itEnum (itLst r)) S1
  | [.fz xs] => .ok (itEnum (itSeq xs)) S1
  | _ => .no
theorem ei_enum (hg : Gl X "enumerate") (hm : X.mg "enumerate" = none) (ha : EA X W [e] g) (hs : starEach [e] X.env = [(false, eval e X.env)] := by rfl) : EI X W (.Tuple elts kk tpos) (.Call (.Name "enumerate" p) [e] [] pos) (iEnumE g) := ⟨PI.imp (pi_enum hg hm ha.pa hs) fun σ H Q ⟨m, S, ρ, R, hσ, h⟩ =>
  ⟨m, S, ρ, R, hσ, h.bind fun ds S1 vs H1 m1 e1 p1 R1 d1 h1 => by
    split at h1
    · obtain ⟨v, rfl, r⟩ := d1.one_inv
      obtain ⟨p, rfl, hp⟩ := r.lst_inv
      obtain ⟨xs, vs, _, q, _⟩ := ls_cell (H := H1) hp m1 S1 H1 (List.prefix_refl _) (Ext.refl _) R1
      exact ⟨p, vs, rfl, q, h1.ok R1 (rit_enum (ls_cell hp))⟩
    · obtain ⟨v, rfl, r⟩ := d1.one_inv
      obtain ⟨p, vs, rfl, hp, hx⟩ := r.fz_inv
      exact ⟨p, vs, rfl, hp.sql, h1.ok R1 (rit_enum (ls_fz hp hx))⟩
    · exact h1.elim⟩⟩
def isL : D → Option Itr | .lst r => some (itLst r) | .fz xs => some (itSeq xs) | _ => none
def isT : D → Option Itr | .tup xs => some (itSeq xs) | _ => none
def iZipE (g : Av) : Iv := fun ρ S => (g ρ S).bind fun ds S1 => match ds with
  | [a, b] => match isL a, isL b with
    | some x, some y => .ok (itZip x y) S1
    | _, _ => match isT a, isT b with
      | some x, some y => .ok (itZip x y) S1
      | _, _ => .no
  | _ => .no
theorem isL_at {K : PySem.W.Frag} {m : List Addr} {H : Hp} {S : Store} {d : D} {v : V} {a : Itr} (R : Rep K m S H) (r : RD K m H d v) (h : isL d = some a) : ∃ p vs, v = .ref p ∧ SqL K H p vs ∧ ∀ m' S' H', m <+: m' → Ext H H' → Rep K m' S' H' → ∃ xs vs, RDs K m' H' xs vs ∧ SqL K H' p vs ∧ ∀ i, a S' i = xs[i]? := by
  cases r with
  | lst hp =>
    cases h
    obtain ⟨xs, vs, _, q, _⟩ := ls_cell (H := H) hp m S H (List.prefix_refl _) (Ext.refl _) R
    exact ⟨_, vs, rfl, q, ls_cell hp⟩
  | fz hp hx => cases h; exact ⟨_, _, rfl, hp.sql, ls_fz hp hx⟩
  | _ => cases h
theorem isT_at {K : PySem.W.Frag} {m : List Addr} {H : Hp} {d : D} {v : V} {a : Itr} (r : RD K m H d v) (h : isT d = some a) : ∃ p vs, v = .ref p ∧ SqT K H p vs ∧ ∀ m' S' H', m <+: m' → Ext H H' → Rep K m' S' H' → ∃ xs vs, RDs K m' H' xs vs ∧ SqT K H' p vs ∧ ∀ i, a S' i = xs[i]? := by
  cases r with
  | tup hp hx => cases h; exact ⟨_, _, rfl, hp, tp_tup hp hx⟩
  | _ => cases h
theorem ei_zip {e2 : Expr} (hg : Gl X "zip") (hm : X.mg "zip" = none) (ha : EA X W [e, e2] g) (hs : starEach [e, e2] X.env = (false, eval e X.env) :: starEach [e2] X.env := by rfl) (hpl : (backTo pos (starEach [e2] X.env)).any (·.1) = false := by rfl) :
    EI X W (.Tuple elts kk tpos) (.Call (.Name "zip" p) [e, e2] [] pos) (iZipE g) := ⟨PI.imp (pi_zipA hg hm ha.pa hs hpl) fun σ H Q ⟨m, S, ρ, R, hσ, h⟩ =>
  ⟨m, S, ρ, R, hσ, h.bind fun ds S1 vs H1 m1 e1 p1 R1 d1 h1 => by
    split at h1
    · rename_i a b
      obtain ⟨v, w, rfl, r, r'⟩ := d1.two_inv
      split at h1
      · rename_i x y ha hb
        obtain ⟨p, vs, rfl, q, hq⟩ := isL_at R1 r ha
        obtain ⟨p', vs', rfl, q', hq'⟩ := isL_at R1 r' hb
        exact ⟨p, p', vs, vs', rfl, .inl ⟨q, q', h1.ok R1 (rit_zip hq hq')⟩⟩
      · split at h1
        · rename_i x y ha hb
          obtain ⟨p, vs, rfl, q, hq⟩ := isT_at r ha
          obtain ⟨p', vs', rfl, q', hq'⟩ := isT_at r' hb
          exact ⟨p, p', vs, vs', rfl, .inr ⟨q, q', h1.ok R1 (rit_zipT hq hq')⟩⟩
        · exact h1.elim
    · exact h1.elim⟩⟩
end
/-! ### for -/
def sForGo (a : Itr) (t : NT) (b : Sv) : Nat → Nat → Sv
  | 0, _ => fun _ _ => .no
  | n + 1, i => fun ρ S => match a S i with
    | none => .nx ρ S
    | some d => match t.b d ρ with
      | none => .no
      | some ρ1 => match b ρ1 S with
        | .nx ρ2 S2 => sForGo a t b n (i + 1) ρ2 S2
        | .ct ρ2 S2 => sForGo a t b n (i + 1) ρ2 S2
        | .bk ρ2 S2 => .nx ρ2 S2
        | o => o
def sFor (it : Iv) (t : NT) (b : Sv) : Sv := fun ρ S => (it ρ S).st ρ fun a S1 => sForGo a t b fuel 0 ρ S1
section
variable {X : Cx} {W : WX} {tg iter : Expr} {body : List Stmt} {it : Iv} {t : NT} {b : Sv} {pos : Pos}
theorem es_for (hp : PassesOwn (model X.prog X.w) X.A X.env X.xe) (hc : X.calm = true) (hi : EI X W tg iter it) (hg : EN X tg t) (hb : ESs X W body b) (hs : ∀ x, foldedSetIterable iter X.env x = pure x := by intro _; rfl) :
    ES X W (.For tg iter body [] pos) (sFor it t b) := ⟨PS.imp (ps_for hp hc hi.pi hg.pg hb.pss hs) fun D σ H ⟨m, S, ρ, R, hσ, h⟩ =>
  ⟨m, S, ρ, R, hσ, PostS.st h hσ fun a S1 J H1 m1 e1 p1 R1 d1 h1 => by
    refine ⟨fun i n σ H => ∃ m' S' ρ', m1 <+: m' ∧ Ext H1 H ∧ Rep X.K m' S' H ∧ RS X.K m' H ρ' σ ∧ PostS X.K W m' H (sForGo a t b n i ρ' S') D, ⟨fuel, m1, S1, ρ, List.prefix_refl _, Ext.refl _, R1, hσ.mono e1 p1, h1⟩, ?_⟩
    rintro i n σ H ⟨m', S', ρ', p2, e2, R2, hσ2, h2⟩
    cases n with
    | zero => exact h2.elim
    | succ n =>
      unfold sForGo at h2
      have ri := d1 m' S' H p2 e2 R2 i
      cases ea : a S' i with
      | none =>
        rw [ea] at h2
        exact .inl ⟨ri.1 ea, nx_of h2 R2 hσ2⟩
      | some d =>
        rw [ea] at h2
        obtain ⟨go, yl⟩ := ri.2 d ea
        refine .inr ⟨go, fun σ' H' => ∃ m' S' ρ', m1 <+: m' ∧ Ext H1 H' ∧ Rep X.K m' S' H' ∧ RS X.K m' H' ρ' σ' ∧ PostS X.K W m' H' (sForGo a t b n (i + 1) ρ' S') D, fun σ' H' q => ⟨n, Nat.lt_succ_self _, q⟩, fun x H' y => ?_⟩
        obtain ⟨e3, R3, rx⟩ := yl x H' y
        dsimp only at h2
        cases eb : t.b d ρ' with
        | none => rw [eb] at h2; exact h2.elim
        | some ρ1 =>
          rw [eb] at h2
          obtain ⟨σ', hσ', hQ, _⟩ := NT.run t eb (hσ2.mono e3 (List.prefix_refl _)) rx
          refine hQ _ ⟨m', S', ρ1, R3, hσ', ?_⟩
          dsimp only at h2
          cases q : b ρ1 S' with
          | nx ρ2 S2 => rw [q] at h2; exact fun σ'' H'' m'' e4 p4 R4 h4 => ⟨m'', S2, ρ2, p2.trans p4, (e2.trans e3).trans e4, R4, h4, PostS.at (e3.trans e4) p4 h2⟩
          | ct ρ2 S2 => rw [q] at h2; exact fun σ'' H'' m'' e4 p4 R4 h4 => ⟨m'', S2, ρ2, p2.trans p4, (e2.trans e3).trans e4, R4, h4, PostS.at (e3.trans e4) p4 h2⟩
          | bk ρ2 S2 => rw [q] at h2; exact PostS.at e3 (List.prefix_refl _) h2
          | rt d S2 => rw [q] at h2; exact PostS.at e3 (List.prefix_refl _) h2
          | exc c ρ2 S2 => rw [q] at h2; exact PostS.at e3 (List.prefix_refl _) h2
          | no => rw [q] at h2; exact h2⟩⟩
end
/-! ### comprehensions -/
def Res.nox {α : Type} : Res α → Res α
  | .ok a S => .ok a S
  | _ => .no
@[simp] theorem nox_ok {α : Type} (a : α) (S : Store) : (Res.ok a S).nox = .ok a S := rfl
def wipeL (ρ : Loc) : List Nat → Loc
  | [] => ρ
  | v :: vs => (wipeL ρ vs).set v none
def lcGo (a : Itr) (t : NT) (c : Tv) (f : Ev) (ρ : Loc) (r : Nat) : Nat → Nat → Store → Res Unit
  | 0, _, _ => .no
  | n + 1, i, S => match a S i with
    | none => .ok () S
    | some d => match t.b d ρ with
      | none => .no
      | some ρ1 => (c ρ1 S).nox.bind fun k S2 => if k = true then (f ρ1 S2).nox.bind fun x S3 => match S3[r]? with
          | some acc => if acc.length < lim then lcGo a t c f ρ r n (i + 1) (S3.set r (acc ++ [x])) else .no
          | none => .no
        else lcGo a t c f ρ r n (i + 1) S2
def eLc (vs : List Nat) (it : Iv) (t : NT) (c : Tv) (f : Ev) : Ev := fun ρ S => (it ρ S).bind fun a S1 => (lcGo a t c f (wipeL ρ vs) S1.length fuel 0 (S1 ++ [[]])).bind fun _ S2 => .ok (.lst S1.length) S2
abbrev W0 : WX := fun _ _ _ _ => False
structure ETs (X : Cx) (ifs : List Expr) (f : Tv) : Prop where
  pt : PTs X ifs (tT X.K W0 f)
theorem PTs.imp {X : Cx} {e : List Expr} {t t' : TT} (h : PTs X e t) (i : ∀ σ H Q, t' σ H Q → t σ H Q) : PTs X e t' := ⟨fun pins s σ H Q I q => h.run pins s σ H Q I (i σ H Q q)⟩
def tvYes : Tv := fun _ S => .ok true S
theorem ets_nil {X : Cx} : ETs X [] tvYes := ⟨PTs.imp pts_nil fun σ H Q ⟨m, S, ρ, R, hσ, h⟩ => PostR.ok (R := fun _ _ a b => a = b) h R rfl⟩
theorem ets_one {X : Cx} {e : Expr} {f : Tv} (h : ET X W0 e f) : ETs X [e] f := ⟨pts_one h.pt⟩
theorem RS.wipe {K : PySem.W.Frag} {m : List Addr} {H : Hp} {ρ : Loc} {σ : L2.St} (h : RS K m H ρ σ) : ∀ vs, RS K m H (wipeL ρ vs) (wipe σ vs)
  | [] => h
  | v :: vs => (RS.wipe h vs).unset v
theorem PostR.nox {α β : Type} {K : PySem.W.Frag} {R : Rl α β} {m : List Addr} {H : Hp} {x : Res α} {Q : β → Hp → Prop} {Wc Wc' : Addr → Hp → Prop} (h : PostR K R m H x.nox Q Wc) : PostR K R m H x Q Wc' := by
  cases x with
  | ok a S => exact h
  | exc c S => exact h.elim
  | no => exact h.elim
section
variable {X : Cx} {W : WX} {tg iter elt : Expr} {ifs : List Expr} {scope : Scope} {own : List (Str × Nat)} {it : Iv} {t : NT} {c : Tv} {f : Ev} {pos : Pos}
theorem lc_imp (hw : ∀ i ∈ t.ns, i ∈ own.map (·.2)) : ∀ σ H Q, tE X.K W (eLc (own.map (·.2)) it t c f) σ H Q → tLc (tG X.K (RIt X.K) W it) (ntT X.K t) (tT X.K W0 c) (tE X.K W0 f) (own.map (·.2)) σ H Q := fun σ H Q ⟨m, S, ρ, R, hσ, h⟩ =>
  ⟨m, S, ρ, R, hσ, h.bind fun a S1 J H1 m1 e1 p1 R1 d1 h1 => fun D hD => by
    have hσ1 := hσ.mono e1 p1
    have RD0 := R1.alloc hD (RDs.nil (K := X.K) (m := m1) (H := H1))
    have pD : m1 <+: m1 ++ [D] := List.prefix_append _ _
    have eD : Ext H1 (upd H1 D (.lst [])) := Ext.new hD
    have hrD : (m1 ++ [D])[S1.length]? = some D := by rw [← R1.len, List.getElem?_append_right (Nat.le_refl _)]; simp
    refine ⟨fun i n H => ∃ m' S', (m1 ++ [D]) <+: m' ∧ Ext (upd H1 D (.lst [])) H ∧ Rep X.K m' S' H ∧ PostR X.K (RD X.K) m' H ((lcGo a t c f (wipeL ρ (own.map (·.2))) S1.length n i S').bind fun _ S2 => .ok (.lst S1.length) S2) Q (fun c H' => W (.ref c) none σ H'),
      ⟨fuel, m1 ++ [D], S1 ++ [[]], List.prefix_refl _, Ext.refl _, RD0, PostR.at eD pD h1⟩, ?_⟩
    rintro i n H ⟨m', S', p2, e2, R2, h2⟩
    cases n with
    | zero => exact h2.elim
    | succ n =>
      unfold lcGo at h2
      have ri := d1 m' S' H (pD.trans p2) (eD.trans e2) R2 i
      have hr' : m'[S1.length]? = some D := pre_get p2 hrD
      cases ea : a S' i with
      | none =>
        rw [ea] at h2
        exact .inl ⟨ri.1 ea, h2.ok R2 (.lst hr')⟩
      | some d =>
        rw [ea] at h2
        obtain ⟨go, yl⟩ := ri.2 d ea
        refine .inr ⟨go, fun H' => ∃ m' S', (m1 ++ [D]) <+: m' ∧ Ext (upd H1 D (.lst [])) H' ∧ Rep X.K m' S' H' ∧ PostR X.K (RD X.K) m' H' ((lcGo a t c f (wipeL ρ (own.map (·.2))) S1.length n (i + 1) S').bind fun _ S2 => .ok (.lst S1.length) S2) Q (fun c H' => W (.ref c) none σ H'), fun H' q => ⟨n, Nat.lt_succ_self _, q⟩, fun x H' y => ?_⟩
        obtain ⟨e3, R3, rx⟩ := yl x H' y
        have hσ3 := ((hσ1.mono eD pD).mono e2 p2).mono e3 (List.prefix_refl _)
        dsimp only at h2
        cases eb : t.b d (wipeL ρ (own.map (·.2))) with
        | none => rw [eb] at h2; exact h2.elim
        | some ρ1 =>
          rw [eb] at h2
          obtain ⟨σ', hσ', hQ, hwp⟩ := NT.run t eb (hσ3.wipe (own.map (·.2))) rx
          refine hQ _ ⟨by rw [hwp _ hw]; exact wipe_wipe σ _, ?_⟩
          refine ⟨m', S', ρ1, R3, hσ', ?_⟩
          have h3 := PostR.at e3 (List.prefix_refl _) h2
          have assoc : ∀ {α β γ : Type} (x : Res α) (g : α → Store → Res β) (k : β → Store → Res γ), (x.bind g).bind k = x.bind fun a S => (g a S).bind k := fun x g k => by cases x <;> rfl
          rw [assoc] at h3
          refine PostR.nox (h3.bind fun k S4 k' H4 m4 e4 p4 R4 d4 h4 => ?_)
          subst d4
          have e24 : Ext (upd H1 D (.lst [])) H4 := (e2.trans e3).trans e4
          cases k with
          | false => exact iteF ⟨m4, S4, p2.trans p4, e24, R4, h4⟩
          | true =>
            refine iteT ⟨m4, S4, ρ1, R4, hσ'.mono e4 p4, ?_⟩
            rw [if_pos rfl, assoc] at h4
            refine PostR.nox (h4.bind fun z S5 y5 H5 m5 e5 p5 R5 d5 h5 => ?_)
            have hr5 : m5[S1.length]? = some D := pre_get p5 (pre_get p4 hr')
            cases q5 : S5[S1.length]? with
            | none => rw [q5] at h5; exact h5.elim
            | some acc =>
              rw [q5] at h5
              obtain ⟨vs, a1, a2⟩ := R5.cellAt q5 hr5
              dsimp only at h5
              split at h5
              · rename_i hl
                refine ⟨vs, a1, lim_lt (by rw [← a2.length]; exact hl), m5, _, (p2.trans p4).trans p5, (e24.trans e5).trans (Ext.lst a1), R5.write hr5 a1 (a2.append (.cons d5 .nil)), PostR.at (Ext.lst a1) (List.prefix_refl _) h5⟩
              · exact h5.elim⟩
where
  wipe_wipe (σ : L2.St) (vs : List Nat) : wipe (wipe σ vs) vs = wipe σ vs := by
    apply List.ext_getElem?
    intro j
    rw [wipe_get, wipe_length, wipe_get]
    by_cases h : j ∈ vs <;> simp [h]
end
end Sd
/-! Sd7: comprehensions as values, raise, try, a def by its body. -/
namespace Sd
open PySem PySem.Spec PyProof.Rows L2 RZ
section
variable {X : Cx} {W : WX} {tg iter elt : Expr} {ifs : List Expr} {scope : Scope} {it : Iv} {t : NT} {c : Tv} {f : Ev} {pos : Pos}
theorem ee_lc (own : List (Str × Nat)) (hc : X.calm = true) (hN : X.N.Nodup) (hi : EI X W tg iter it) (ok : blkC X.N X.env.scope scope own = true)
    (hg : ∀ (s : Shared) (H : Hp) (C : Addr) (cl : List (Str × Addr)) (fp : List Addr), EN (X.blk s H scope (compEnvC scope cl C X.env) fp) tg t) (ht : ∀ (s : Shared) (H : Hp) (C : Addr) (cl : List (Str × Addr)) (fp : List Addr), ETs (X.blk s H scope (compEnvC scope cl C X.env) fp) ifs c)
    (he : ∀ (s : Shared) (H : Hp) (C : Addr) (cl : List (Str × Addr)) (fp : List Addr), EE (X.blk s H scope (compEnvC scope cl C X.env) fp) W0 elt f) (hw : (t.ns.all fun i => (own.map (·.2)).contains i) = true := by rfl) (hs : ∀ x, foldedSetIterable iter X.env x = pure x := by intro _; rfl) :
    EE X W (.ListComp elt [⟨tg, iter, ifs, 0⟩] scope pos) (eLc (own.map (·.2)) it t c f) :=
  ⟨PE.imp (pe_lc hc hN hi.pi (blkOk_by ok) (fun s H C cl fp => (hg s H C cl fp).pg) (fun s H C cl fp => (ht s H C cl fp).pt) (fun s H C cl fp => (he s H C cl fp).pe) hs) (lc_imp fun i hi => by
    have := List.all_eq_true.mp hw i hi
    simpa using this)⟩
/-- y = [..] on one line, y a local -/
theorem es_setLc (own : List (Str × Nat)) (i : Nat) {y : Str} {py spos : Pos} (hc : X.calm = true) (hN : X.N.Nodup) (hi : EI X W tg iter it) (ok : blkC X.N X.env.scope scope own = true)
    (hg : ∀ (s : Shared) (H : Hp) (C : Addr) (cl : List (Str × Addr)) (fp : List Addr), EN (X.blk s H scope (compEnvC scope cl C X.env) fp) tg t) (ht : ∀ (s : Shared) (H : Hp) (C : Addr) (cl : List (Str × Addr)) (fp : List Addr), ETs (X.blk s H scope (compEnvC scope cl C X.env) fp) ifs c)
    (he : ∀ (s : Shared) (H : Hp) (C : Addr) (cl : List (Str × Addr)) (fp : List Addr), EE (X.blk s H scope (compEnvC scope cl C X.env) fp) W0 elt f) (hk : X.env.scope.kind = .function := by rfl) (hy : X.N[i]? = some y := by rfl) (hyl : X.env.scope.names.lookup y = some .local := by rfl) (hl : (py.line == pos.line) = true := by rfl)
    (ha : (scope.names.any fun (n, k) => n == y && (k == .local || k == .cell)) = false := by decide +kernel) (hw : (t.ns.all fun i => (own.map (·.2)).contains i) = true := by rfl) (hs : ∀ x, foldedSetIterable iter X.env x = pure x := by intro _; rfl) :
    ES X W (.Assign [.Name y py] (.ListComp elt [⟨tg, iter, ifs, 0⟩] scope pos) spos) (sSet i (eLc (own.map (·.2)) it t c f)) :=
  ⟨PS.imp (ps_setLc hc hN hy hyl (sw_true hk hyl hl ha) hi.pi (blkOk_by ok) (fun s H C cl fp => (hg s H C cl fp).pg) (fun s H C cl fp => (ht s H C cl fp).pt) (fun s H C cl fp => (he s H C cl fp).pe) hs) (set_imp (lc_imp fun i hi => by
    have := List.all_eq_true.mp hw i hi
    simpa using this))⟩
theorem okx_blk {k : Nat} {s : Shared} {H : Hp} {C : Addr} {cl : List (Str × Addr)} {fp : List Addr} (O : Okx X W k) : Okx (X.blk s H scope (compEnvC scope cl C X.env) fp) W0 k := ⟨takes0, O.calm, O.room, O.nd⟩
end
/-! ### raise -/
/-- X() -/
theorem pmk_own0 {X : Cx} {C : Addr} {bmB : List Value} {B newId initId : String} {x : Str} {p pos : Pos} (F : ExcBaseFacts B newId initId bmB) (q : PySem.W.excIn X.K C bmB newId = true) (gC : X.mg x = some (.ref C)) (kC : PySem.W.keepIn X.K (.ref C) = true) (r : Raises X (.ref C)) (hg : Gl X x)
    (hdb : (x == ("__debug__" : Str)) = false := by decide) : PMk X (.Call (.Name x p) [] [] pos) (fun _ H Q => Q (.ref C) none H) := by
  intro pins s σ H Q I h
  refine wpAny_Call_Name_kw (ld_glob I hg gC ?_ hdb)
  refine PySem.W.callWith_K0 I.kIn kC ?_
  obtain ⟨bm, N, nm, qn, bs, hdct, sn, sub, ab, col, dd, k0, k1, k2, k3, k5, mN, hC, hN, hni, T⟩ := exc_obj I.kIn q
  refine wpAny_call_exc_subT F T hC hN hni (fun h' e hm => ?_) (by show 0 ≤ sizeLine; exact Nat.zero_le _)
  exact mk_of I hm r h (I.hok.gone hm.new)
/-- a class of the program's own that may be raised and caught -/
structure ExD (K : PySem.W.Frag) (mg : Str → Option Value) (x : Str) (C : Addr) : Prop where
  mg : mg x = some (.ref C)
  ex : PySem.W.excIn K C [.type "ValueError", .type "Exception", .type "BaseException", .type "object"] "ValueError.__new__" = true
  kp : PySem.W.keepIn K (.ref C) = true
  sb : PySem.W.subIn K (.ref C) (.type "BaseException") = some true
  ty : PySem.W.typeIn K (.ref C) = some (.type "type")
def sRaise (C : Addr) : Sv := fun ρ S => .exc C ρ S
theorem es_raise {X : Cx} {W : WX} {k : Nat} {x : Str} {C : Addr} {p pos pos2 : Pos} (O : Okx X W k) (T : ExD X.K X.mg x C) (hg : Gl X x := by rfl) (hdb : (x == ("__debug__" : Str)) = false := by decide) : ES X W (.Raise (some (.Call (.Name x p) [] [] pos)) none pos2) (sRaise C) :=
  ⟨PS.imp (ps_raise O.calm O.tk (pmk_own0 PySem.F.excBase_ValueError T.ex T.mg T.kp (raises_own T.sb T.ty) hg hdb)) fun D σ H ⟨m, S, ρ, R, hσ, h⟩ => h σ H m (Ext.refl _) (List.prefix_refl _) R hσ⟩
/-! ### try .. except X as n: caught = [word, isinstance(n, ValueError)] -/
structure CtD (K : PySem.W.Frag) (C : Addr) : Prop where
  ec : ExcC K C
  em : PySem.W.exmOne K (.ref C) (.ref C) = some true
  ve : PySem.W.kitOne K (.ref C) (.type "ValueError") = some true
def sTry1 (b : Sv) (C : Addr) (i j : Nat) (word : Str) : Sv := fun ρ S => match b ρ S with
  | .exc c ρ' S' => if c = C ∧ i < ρ'.length then .nx ((ρ'.set j (some (.lst S'.length))).set i none) (S' ++ [[.str word, .bl true]]) else .no
  | o => o
theorem es_try1 {X : Cx} {W : WX} {x n y : Str} {C : Addr} (i j : Nat) {word : Str} {body : List Stmt} {b : Sv} {np pos pos' py p1 p2 p3 p4 p5 p6 p7 : Pos} {k1 : Nat} (hs : X.stack = X.env :: X.outer) (hf : X.env.frame = some X.env.locals) (hN : X.N.Nodup) (T : ExD X.K X.mg x C) (T2 : CtD X.K C)
    (hmi : X.mg "isinstance" = none) (hmv : X.mg "ValueError" = none)
    (hb : ∀ (W : WX) (pn : List (Addr × Obj)) (xe : Value → Shared → Prop), Takes (X.tr pn xe) W → PassesOwn (model X.prog X.w) X.A X.env xe → ESs (X.tr pn xe) W body b)
    (hi : X.N[i]? = some n := by rfl) (hln : X.env.kindOf n = some .local := by rfl) (hj : X.N[j]? = some y := by rfl) (hlj : X.env.scope.names.lookup y = some .local := by rfl) (hg : Gl X x := by rfl) (hgi : Gl X "isinstance" := by rfl) (hgv : Gl X "ValueError" := by rfl) (hij : i ≠ j := by decide)
    (hdx : (x == ("__debug__" : Str)) = false := by decide) (hd : (n == ("__debug__" : Str)) = false := by decide) (hcd : (n == ("__classdict__" : Str)) = false := by decide)
    (hsw : swapsWith (.List [.Constant (.str word) k1 p1, .Call (.Name "isinstance" p2) [.Name n p3, .Name "ValueError" p4] [] p5] p6) (some (.Name y py)) p7.line X.env = pure false := by rfl)
    (he1 : starEach [.Constant (.str word) k1 p1, .Call (.Name "isinstance" p2) [.Name n p3, .Name "ValueError" p4] [] p5] X.env = (false, eval (.Constant (.str word) k1 p1) X.env) :: starEach [.Call (.Name "isinstance" p2) [.Name n p3, .Name "ValueError" p4] [] p5] X.env := by rfl)
    (he2 : starEach [.Call (.Name "isinstance" p2) [.Name n p3, .Name "ValueError" p4] [] p5] X.env = (false, eval (.Call (.Name "isinstance" p2) [.Name n p3, .Name "ValueError" p4] [] p5) X.env) :: starEach [] X.env := by rfl)
    (he3 : starEach [.Name n p3, .Name "ValueError" p4] X.env = (false, eval (.Name n p3) X.env) :: starEach [.Name "ValueError" p4] X.env := by rfl)
    (he4 : starEach [.Name "ValueError" p4] X.env = (false, eval (.Name "ValueError" p4) X.env) :: starEach [] X.env := by rfl)
    (hpl : (backTo p5 (starEach [.Name "ValueError" p4] X.env)).any (·.1) = false := by rfl) :
    ES X W (.Try body [.ExceptHandler (some (.Name x np)) (some n) [.Assign [.Name y py] (.List [.Constant (.str word) k1 p1, .Call (.Name "isinstance" p2) [.Name n p3, .Name "ValueError" p4] [] p5] p6) p7] pos'] [] [] pos) (sTry1 b C i j word) := by
  refine ⟨PS.imp (ps_try_as (Wout := W0) (tb := fun W => tS X.K W b) (ts := fun a cls d => fun D σ H => cls = .ref C ∧ d = none ∧ σ[i]? = some (some (.ref a)) ∧ ∀ p, H p = none → D.nx (σ.set j (some (.ref p))) (upd H p (.lst [.str word, .bl true]))) hs hf hN hi hln ⟨hg, hdx, .inl T.mg⟩ takes0 (fun W pn xe tk po => (hb W pn xe tk po).pss) (fun a oe cls d pn hz hfv => ?_)) fun D σ H ⟨m, S, ρ, R, hσ, h⟩ => ?_⟩
  · refine ⟨fun pins s σ H D I ⟨ec, ed, hsi, q⟩ => ?_⟩
    subst ec ed
    have hlc : L2.Loc X.env.scope y := .inl hlj
    have hv : Vis X.env.scope n := .inl hln
    exact (pss_one (ps_set (X := X.suite a ((a, oe) :: pn)) (i := j) hN hj hlc (pe_lst (pa_cons pe_str (pa_cons (pe_callB (call_isE T2.ec hz hfv) hgi hmi (by decide +kernel) (pa_cons (pe_var hi hv hd hcd) (pa_cons (pe_bltn (v := .ty "ValueError") hgv hmv (by decide +kernel) rfl) pa_nil he4) he3) (by decide) (by decide) he3 hpl) pa_nil he2) he1)) hsw (.inr hlj))).run pins s σ H D I
      ⟨_, hsi, _, .type "ValueError", true, rfl, fun u r => r, T2.ve, by show 2 ≤ sizeLine; rw [sizeLine_eq]; decide, fun p hp => q p hp⟩
  · refine ⟨m, S, ρ, R, hσ, ?_⟩
    unfold sTry1 at h
    cases q : b ρ S with
    | exc c ρ' S' =>
      rw [q] at h
      dsimp only at h
      split at h
      · rename_i e
        obtain ⟨e, hlen⟩ := e
        subst e
        refine fun σ' H' m' e1 p1 R1 h1 => ⟨true, T2.em, fun _ a ha => ?_, fun z => by cases z⟩
        have hil : i < σ'.length := by rw [← h1.1]; exact hlen
        refine ⟨rfl, rfl, List.getElem?_set_self hil, fun p hp => ?_⟩
        have al := R1.alloc hp (RDs.cons (RD.str word) (RDs.cons (RD.bl true) (RDs.nil (K := X.K) (m := m') (H := H'))))
        have pre : m' <+: m' ++ [p] := List.prefix_append _ _
        have ex : Ext H' (upd H' p (.lst [.str word, .bl true])) := Ext.new hp
        refine h _ _ (m' ++ [p]) (e1.trans ex) (p1.trans pre) al ?_
        have hlst : RD X.K (m' ++ [p]) (upd H' p (.lst [.str word, .bl true])) (.lst S'.length) (.ref p) := .lst (by rw [← R1.len, List.getElem?_append_right (Nat.le_refl _)]; simp)
        have z := ((h1.mono ex pre).set hlst j).unset i
        have e3 : ((σ'.set i (some (.ref a))).set j (some (.ref p))).set i none = (σ'.set j (some (.ref p))).set i none := by
          rw [List.set_comm _ _ hij, List.set_set]
        rw [e3]
        exact z
      · exact h.elim
    | nx ρ' S' => rw [q] at h; exact h
    | rt d S' => rw [q] at h; exact h
    | bk ρ' S' => rw [q] at h; exact h
    | ct ρ' S' => rw [q] at h; exact h
    | no => rw [q] at h; exact h
/-! ### a def by its body -/
def SRes.res : SRes → Res D
  | .nx _ S => .ok .non S
  | .rt d S => .ok d S
  | .exc c _ S => .exc c S
  | _ => .no
def st0 (n : Nat) (ds : List D) : Loc := ds.map some ++ List.replicate (n - ds.length) none
def fnOf (n k : Nat) (b : Sv) : Fv := fun ds S => if ds.length = n then (b (st0 k ds) S).res else .no
structure Oks (X : Cx) (W : WX) (k : Nat) : Prop extends Okx X W k where
  po : PassesOwn (model X.prog X.w) X.A X.env X.xe
theorem RDs.map_some {K : PySem.W.Frag} {m : List Addr} {H : Hp} {ds : List D} {vs : List V} (h : RDs K m H ds vs) (n : Nat) : RS K m H (st0 n ds) (vs.map some ++ List.replicate (n - vs.length) none) := by
  have l := h.length
  refine ⟨by unfold st0; simp [l], fun i d e => ?_⟩
  unfold st0 at e
  by_cases hi : i < ds.length
  · rw [List.getElem?_append_left (by simpa using hi), List.getElem?_map] at e
    cases q : ds[i]? with
    | none => rw [q] at e; cases e
    | some d' =>
      rw [q] at e
      cases e
      obtain ⟨v, h1, h2⟩ := h.get q
      refine ⟨v, ?_, h2⟩
      rw [List.getElem?_append_left (by simpa using (List.getElem?_eq_some_iff.mp h1).1), List.getElem?_map, h1]
      rfl
  · rw [List.getElem?_append_right (by simpa using Nat.le_of_not_lt hi), List.getElem?_replicate] at e
    split at e <;> cases e
theorem fn_e {P : Program} {w : World} {K : PySem.W.Frag} {mg : Str → Option Value} {base : Heap} {x : Str} {st : Stmt} {f : Addr} {fd : FuncData} {N ps : List Str} {k : Nat} {b : Sv} (F : Fun K x x st f fd) (Sc : FnScope N ps (defScope st)) (hm : mg x = some (.ref f)) (hbd : Binds K fd ps [])
    (hb : ∀ (cdv : Value) (A : Around) (outer : List Env) (s : Shared) (H : Hp) (E : XK), Oks (cxOf (L2.CX P w) P w K mg base N x (defScope st) f cdv A outer s H E) (fun cls d _ H => E cls d H) k →
      ESs (cxOf (L2.CX P w) P w K mg base N x (defScope st) f cdv A outer s H E) (fun cls d _ H => E cls d H) (defBody st) b) : Dfn P w K mg base x f fd ps (k + 1) (fnOf ps.length N.length b) := by
  refine ⟨F.okX Sc (fun vs H Q E h => h.1) fun cdv A outer s H vs Q E hr h => ?_, fun ds S hl => if_neg hl, hm, F.kp, hbd⟩
  obtain ⟨hl, m, S, ds, R, rd, h⟩ := h
  refine ⟨tS K (fun cls d _ H => E cls d H) b, (hb cdv A outer s H E ⟨⟨takes_of rfl rfl rfl rfl, rfl, hr, Sc.nd⟩, PassesOwn.leaving⟩).pss, m, S, st0 N.length ds, R, rd.map_some N.length, ?_⟩
  unfold fnOf at h
  rw [if_pos (rd.length.trans hl)] at h
  cases q : b (st0 N.length ds) S with
  | nx ρ S' => rw [q] at h; exact fun σ' H' m' e1 p1 R1 h1 => h .non H' m' e1 p1 R1 .non
  | rt d S' => rw [q] at h; exact h
  | bk ρ S' => rw [q] at h; exact h.elim
  | ct ρ S' => rw [q] at h; exact h.elim
  | exc c ρ S' => rw [q] at h; exact fun σ' H' m' e1 p1 R1 h1 => h H' m' e1 p1 R1
  | no => rw [q] at h; exact h.elim
end Sd
/-! Sd8: methods of lists. -/
namespace Sd
open PySem PySem.Spec PyProof.Rows L2
abbrev OpM := Nat → List D → Store → Out
def MtD (X : Cx) (id : String) (o : OpM) : Prop := MtR X id fun x vs H Q => ∃ m S r ds, Rep X.K m S H ∧ RD X.K m H (.lst r) x ∧ RDs X.K m H ds vs ∧ Fin X.K m H (o r ds S) Q
theorem MtR.imp {X : Cx} {id : String} {r r' : V → List V → Hp → VK → Prop} (h : MtR X id r) (i : ∀ v vs H Q, r' v vs H Q → r v vs H Q) : MtR X id r' := fun pins s σ H x vs v us Q I rx rv q => h pins s σ H x vs v us Q I rx rv (i _ _ _ _ q)
def eBm (o : OpM) (f : Ev) (g : Av) : Ev := fun ρ S => (f ρ S).bind fun d S1 => match d with
  | .lst r => (g ρ S1).bind fun ds S2 => (o r ds S2).res
  | _ => .no
theorem tyV_lst {K : PySem.W.Frag} {m : List Addr} {S : Store} {H : Hp} {r : Nat} {v : V} (R : Rep K m S H) (h : RD K m H (.lst r) v) : tyV K "list" v H := by
  obtain ⟨p, rfl, hp⟩ := h.lst_inv
  have hl : r < S.length := by
    have := (List.getElem?_eq_some_iff.mp hp).1
    rw [R.len] at this
    exact this
  obtain ⟨vs, a, b⟩ := R.cellAt (List.getElem?_eq_getElem hl) hp
  exact .inl ⟨rfl, _, SqL.of a⟩
section
variable {X : Cx} {W : WX} {e o : Expr} {es : List Expr} {f : Ev} {g : Av} {op : OpM} {name : Str} {apos cpos : Pos} {id : String}
theorem ee_bm (slot : Slot "list" name id) (hty : typeOf (.builtin id) = pure (.type "method_descriptor")) (hm : MtD X id op) (ho : EE X W o f) (ha : EA X W (e :: es) g)
    (hbase : attributeBase o name X.env (eval o X.env) = eval o X.env := by rfl)
    (hfew : ((backTo cpos (starEach (e :: es) X.env)).all (fun x => !x.1) && (backToKw cpos (keywordEach [] X.env)).all (fun x => x.1.isSome)
      && decide ((e :: es).length + ([] : List Keyword).length + (if ([] : List Keyword).isEmpty then 0 else 1) < 30)) = true := by rfl)
    (hline : (apos.endLine == cpos.line) = true := by rfl) (hs : starEach (e :: es) X.env = (false, eval e X.env) :: starEach es X.env := by rfl) (hplain : (backTo cpos (starEach es X.env)).any (·.1) = false := by rfl) :
    EE X W (.Call (.Attribute o name apos) (e :: es) [] cpos) (eBm op f g) := by
  refine ⟨PE.imp (pe_bm PySem.F.plainAttrs_list slot hty hm ho.pe ha.pa hbase hfew hline hs hplain) fun σ H Q ⟨m, S, ρ, R, hσ, h⟩ => ⟨m, S, ρ, R, hσ, PostR.bind (R := RD X.K) (x := f ρ S) h fun d S1 v H1 m1 e1 p1 R1 d1 h1 => ?_⟩⟩
  cases d with
  | lst r =>
    refine ⟨tyV_lst R1 d1, m1, S1, ρ, R1, hσ.mono e1 p1, PostR.bind (R := RDs X.K) (x := g ρ S1) h1 fun ds S2 vs H2 m2 e2 p2 R2 d2 h2 => ⟨m2, S2, r, ds, R2, d1.mono e2 p2, d2, Fin.of h2⟩⟩
  | _ => exact h1.elim
theorem ee_bm0 (slot : Slot "list" name id) (hty : typeOf (.builtin id) = pure (.type "method_descriptor")) (hm : MtD X id op) (ho : EE X W o f)
    (hbase : attributeBase o name X.env (eval o X.env) = eval o X.env := by rfl) (hline : (apos.endLine == cpos.line) = true := by rfl) :
    EE X W (.Call (.Attribute o name apos) [] [] cpos) (eBm op f aNil) := by
  refine ⟨PE.imp (pe_bm0 PySem.F.plainAttrs_list slot hty hm ho.pe hbase hline) fun σ H Q ⟨m, S, ρ, R, hσ, h⟩ => ⟨m, S, ρ, R, hσ, PostR.bind (R := RD X.K) (x := f ρ S) h fun d S1 v H1 m1 e1 p1 R1 d1 h1 => ?_⟩⟩
  cases d with
  | lst r => exact ⟨tyV_lst R1 d1, m1, S1, r, [], R1, d1, .nil, Fin.of h1⟩
  | _ => exact h1.elim
end
def mApp : OpM
  | r, [y], S => (S[r]?).bind fun xs => if xs.length < lim then some (.non, S.set r (xs ++ [y])) else none
  | _, _, _ => none
def mExt : OpM
  | r, [.lst q], S => (S[r]?).bind fun xs => (S[q]?).bind fun ys => if xs.length + ys.length ≤ lim then some (.non, S.set r (xs ++ ys)) else none
  | _, _, _ => none
def mPop : OpM
  | r, [], S => (S[r]?).bind fun xs => (xs[xs.length - 1]?).map fun d => (d, S.set r xs.dropLast)
  | _, _, _ => none
def mRev : OpM
  | r, [], S => (S[r]?).map fun xs => (.non, S.set r xs.reverse)
  | _, _, _ => none
theorem RDs.dropLast {K : PySem.W.Frag} {m : List Addr} {H : Hp} {xs : List D} {vs : List V} (h : RDs K m H xs vs) : RDs K m H xs.dropLast vs.dropLast := by
  rw [List.dropLast_eq_take, List.dropLast_eq_take, h.length]; exact h.take _
section
variable {X : Cx}
theorem md_append : MtD X "list.append" mApp := MtR.imp mt_append fun v vs H Q ⟨m, S, r, ds, R, rl, rd, q⟩ => by
  unfold mApp at q
  split at q
  · obtain ⟨p, rfl, hp⟩ := rl.lst_inv
    obtain ⟨w, rfl, rw'⟩ := rd.one_inv
    cases e : S[r]? with
    | none => rw [e] at q; exact Fin.no q
    | some xs =>
      rw [e] at q
      dsimp only [Option.bind] at q
      split at q
      · rename_i hl
        obtain ⟨ws, a, b⟩ := R.cellAt e hp
        refine ⟨p, ws, w, rfl, rfl, a, by rw [← b.length]; exact lim_lt hl, ?_⟩
        exact q.written R hp a (b.append (.cons rw' .nil)) .non
      · exact Fin.no q
  · exact Fin.no q
theorem md_extend : MtD X "list.extend" mExt := MtR.imp mt_extend fun v vs H Q ⟨m, S, r, ds, R, rl, rd, q⟩ => by
  unfold mExt at q
  split at q
  · obtain ⟨p, rfl, hp⟩ := rl.lst_inv
    obtain ⟨w, rfl, rw'⟩ := rd.one_inv
    obtain ⟨p2, rfl, hp2⟩ := rw'.lst_inv
    cases e : S[r]? with
    | none => rw [e] at q; exact Fin.no q
    | some xs =>
      rw [e] at q
      dsimp only [Option.bind] at q
      split at q
      · exact Fin.no q
      · rename_i ys e2
        dsimp only at q
        split at q
        · rename_i hl
          obtain ⟨ws, a, b⟩ := R.cellAt e hp
          obtain ⟨ws2, a2, b2⟩ := R.cellAt e2 hp2
          refine ⟨p, p2, ws, ws2, rfl, rfl, a, a2, by rw [← b.length, ← b2.length]; exact le_lim hl, ?_⟩
          exact q.written R hp a (b.append b2) .non
        · exact Fin.no q
  · exact Fin.no q
theorem md_pop : MtD X "list.pop" mPop := MtR.imp mt_pop fun v vs H Q ⟨m, S, r, ds, R, rl, rd, q⟩ => by
  unfold mPop at q
  split at q
  · obtain ⟨p, rfl, hp⟩ := rl.lst_inv
    cases rd.nil_inv
    cases e : S[r]? with
    | none => rw [e] at q; exact Fin.no q
    | some xs =>
      rw [e] at q
      dsimp only [Option.bind] at q
      cases e2 : xs[xs.length - 1]? with
      | none => rw [e2] at q; exact Fin.no q
      | some d =>
        rw [e2] at q
        obtain ⟨ws, a, b⟩ := R.cellAt e hp
        obtain ⟨y, h1, h2⟩ := b.get e2
        refine ⟨p, ws, y, rfl, rfl, a, by rw [← b.length]; exact h1, ?_⟩
        exact q.written R hp a b.dropLast h2
  · exact Fin.no q
theorem md_reverse : MtD X "list.reverse" mRev := MtR.imp mt_reverse fun v vs H Q ⟨m, S, r, ds, R, rl, rd, q⟩ => by
  unfold mRev at q
  split at q
  · obtain ⟨p, rfl, hp⟩ := rl.lst_inv
    cases rd.nil_inv
    cases e : S[r]? with
    | none => rw [e] at q; exact Fin.no q
    | some xs =>
      rw [e] at q
      obtain ⟨ws, a, b⟩ := R.cellAt e hp
      refine ⟨p, ws, rfl, rfl, a, ?_⟩
      exact q.written R hp a b.reverse .non
  · exact Fin.no q
end
end Sd
/-! Sd9: small helps for the printed text. -/
namespace Sd
open PySem PySem.Spec PyProof.Rows L2
theorem oks_tr {X : Cx} {W W' : WX} {k : Nat} {pn : List (Addr × Obj)} {xe : Value → Shared → Prop} (O : Oks X W k) (t : Takes (X.tr pn xe) W') (p : PassesOwn (model X.prog X.w) X.A X.env xe) : Oks (X.tr pn xe) W' k := ⟨⟨t, O.calm, O.room, O.nd⟩, p⟩
theorem dfn_no {P : Program} {w : World} {K : PySem.W.Frag} {mg : Str → Option Value} {base : Heap} {x : Str} {st : Stmt} {f : Addr} {fd : FuncData} {ps : List Str} {k : Nat} (F : Fun K x x st f fd) (hm : mg x = some (.ref f)) (hbd : Binds K fd ps []) : Dfn P w K mg base x f fd ps k (fun _ _ => .no) :=
  ⟨⟨fun vs H Q E h => h.1, fun A outer s H as us vs Q E hr I hb hv h => by obtain ⟨_, m, S, ds, R, rd, h⟩ := h; exact h.elim⟩, fun _ _ _ => rfl, hm, F.kp, hbd⟩
theorem kit_ve {K : PySem.W.Frag} {C : Addr} (h : PySem.W.subIn K (.ref C) (.type "ValueError") = some true) : PySem.W.kitOne K (.ref C) (.type "ValueError") = some true := by
  have e : ((Value.ref C == Value.type "ValueError") = true) = False := by simp
  unfold PySem.W.kitOne PySem.W.kitCls
  rw [if_neg (by rw [e]; exact id)]
  dsimp only
  rw [if_pos (by decide +kernel)]
  exact h
/-! the script -/
theorem fz_of {K : PySem.W.Frag} {H : Hp} {a : Addr} {xs : List V} (hO : Only H) (h : SqL K H a xs) : Fz K H a xs := by
  rcases h with (h | ⟨o, h⟩) | h
  · rcases hO a with z | ⟨o, ys, z⟩
    · rw [z] at h; cases h
    · rw [z] at h; cases h
  · exact .inl ⟨o, h⟩
  · exact .inr h
/-- what the head asks of the law's def -/
def spLaw (K : PySem.W.Frag) : Sp := fun vs H Q _ => ∃ (a : Addr) (ns : List Int), vs = [.ref a] ∧ ns.length ≤ 63 ∧ (∀ z ∈ ns, Builtin.Int.intBits z ≤ 1048576) ∧ Only H ∧ SqL K H a (ns.map V.int) ∧ ∀ H', Q (.bl true) H'
theorem RDs.int_map {K : PySem.W.Frag} {m : List Addr} {H : Hp} : ∀ ns : List Int, RDs K m H (ns.map D.int) (ns.map V.int)
  | [] => .nil
  | i :: r => .cons (.int i) (RDs.int_map r)
theorem law_end {P : Program} {w : World} {K : PySem.W.Frag} {mg : Str → Option Value} {base : Heap} {x : Str} {f : Addr} {fd : FuncData} {p : Str} {k : Nat} {F : Fv} (Df : Dfn P w K mg base x f fd [p] k F)
    (h : ∀ ns : List Int, ns.length ≤ 63 → (∀ z ∈ ns, Builtin.Int.intBits z ≤ 1048576) → ∃ S, F [.fz (ns.map .int)] [] = .ok (.bl true) S) : FnOk P w K mg base (L2.CX P w) k f fd [p] (spLaw K) :=
  Df.ok.imp fun vs H Q E ⟨a, ns, e, hl, hb, hO, hS, hq⟩ => by
    obtain ⟨S, q⟩ := h ns hl hb
    subst e
    refine ⟨rfl, [], [], [.fz (ns.map .int)], Rep.nil, .cons (.fz (fz_of hO hS) (RDs.int_map ns)) .nil, ?_⟩
    rw [q]
    intro v H' m' e1 p1 R1 rd
    cases rd
    exact hq _
theorem walk_law {l : PySem.W.OpenLaw} {k : Nat} {q : Program} {loose : List Str} {XP : (Str → Option Value) → Heap → Prop} {YP : World → Heap → Prop} {d : DefRec} {K : Params → PySem.W.Frag}
    (hn : l.most = some 63) (hdf : d.params.defaults = []) (hr : Room k callerA) (hY : ∀ (w : World) (h : Heap), YP w h → (K w.params).In h)
    (F : ∀ (w : World) (mg : Str → Option Value) (fa : Addr) (h : Heap), (K w.params).In h → h.Ns mainGlobals mg → mg d.name = some (.ref fa) →
      ∃ fd : FuncData, (∀ (s : Shared) (u : Value), BindsTo s fd ⟨[u], []⟩ [("script", u)]) ∧
        ∀ (P : Program) (w' : World) (base : Heap), FnOk P w' (K w.params) mg base (L2.CX P w') k fa fd ["script"] (spLaw (K w.params))) :
    PySem.W.WalkO q loose XP YP l.row.toRowW d [] (fun f vs => PySem.call f vs) :=
  L2.walk_ofB (n := 63) (k := k) (x := "script") (CX := fun w => L2.CX l.prog w) (sp := fun w => spLaw (K w.params)) hn (by decide) hdf hr hY (fun w mg fa h KX G hm => by
    obtain ⟨fd, h1, h2⟩ := F w mg fa h KX G hm
    exact ⟨fd, h1, fun base _ _ => h2 _ _ base⟩) (fun w H a ns hl hb hO hS => ⟨a, ns, rfl, hl, hb, hO, hS, fun _ => rfl⟩) fun _ _ _ _ _ ⟨_, _, _, _, _, _, _, _, _, _, _, _, z⟩ => z
end Sd
/-! Pev: how the mirrors are run by simp. -/
namespace Sd
open PySem PySem.Spec L2
def SRes.sq (r : SRes) (q : Sv) : SRes := match r with
  | .nx ρ' S' => q ρ' S'
  | o => o
section
variable {ρ ρ' : Loc} {S S' : Store} {d : D} {c : Addr} {p q : Sv} {f g : Ev} {a b : Av} {t u : Tv} {o : Op2} {i j k : Nat} {v : OpN} {F : Fv}
@[simp] theorem sq_nx : (SRes.nx ρ' S').sq q = q ρ' S' := rfl
@[simp] theorem sq_rt : (SRes.rt d S').sq q = .rt d S' := rfl
@[simp] theorem sq_bk : (SRes.bk ρ' S').sq q = .bk ρ' S' := rfl
@[simp] theorem sq_ct : (SRes.ct ρ' S').sq q = .ct ρ' S' := rfl
@[simp] theorem sq_exc : (SRes.exc c ρ' S').sq q = .exc c ρ' S' := rfl
@[simp] theorem sq_no : (SRes.no).sq q = .no := rfl
@[simp] theorem x_sSeq : sSeq p q ρ S = (p ρ S).sq q := rfl
@[simp] theorem x_sNext : sNext ρ S = .nx ρ S := rfl
@[simp] theorem x_sBreak : sBreak ρ S = .bk ρ S := rfl
@[simp] theorem x_sCont : sCont ρ S = .ct ρ S := rfl
@[simp] theorem x_sRet : sRet f ρ S = (f ρ S).st ρ fun d S1 => .rt d S1 := rfl
@[simp] theorem x_sRetN : sRetN ρ S = .rt .non S := rfl
@[simp] theorem x_sExpr : sExpr f ρ S = (f ρ S).st ρ fun _ S1 => .nx ρ S1 := rfl
@[simp] theorem x_sRaise : sRaise c ρ S = .exc c ρ S := rfl
@[simp] theorem x_sIf : sIf t p q ρ S = (t ρ S).st ρ fun k S1 => if k = true then p ρ S1 else q ρ S1 := rfl
@[simp] theorem x_sSet : sSet i f ρ S = (f ρ S).st ρ fun d S1 => .nx (ρ.set i (some d)) S1 := rfl
def ntS (o : Option Loc) (S : Store) : SRes := match o with | some ρ' => .nx ρ' S | none => .no
@[simp] theorem ntS_some : ntS (some ρ') S = .nx ρ' S := rfl
@[simp] theorem x_sNt {n : NT} : sNt n f ρ S = (f ρ S).st ρ fun d S1 => ntS (n.b d ρ) S1 := rfl
def parS (i j : Nat) (ρ : Loc) (ds : List D) (S : Store) : SRes := match ds with | [a, b] => .nx ((ρ.set i (some a)).set j (some b)) S | _ => .no
@[simp] theorem parS_two {x y : D} : parS i j ρ [x, y] S = .nx ((ρ.set i (some x)).set j (some y)) S := rfl
@[simp] theorem x_sPar : sPar i j a ρ S = (a ρ S).st ρ fun ds S1 => parS i j ρ ds S1 := rfl
def parS3 (i j k : Nat) (ρ : Loc) (ds : List D) (S : Store) : SRes := match ds with | [a, b, c] => .nx (((ρ.set i (some a)).set j (some b)).set k (some c)) S | _ => .no
@[simp] theorem parS3_three {x y z : D} : parS3 i j k ρ [x, y, z] S = .nx (((ρ.set i (some x)).set j (some y)).set k (some z)) S := rfl
@[simp] theorem x_sPar3 : sPar3 i j k a ρ S = (a ρ S).st ρ fun ds S1 => parS3 i j k ρ ds S1 := rfl
def subS (o : Option Store) (ρ : Loc) : SRes := match o with | some S4 => .nx ρ S4 | none => .no
@[simp] theorem subS_some : subS (some S) ρ = .nx ρ S := rfl
@[simp] theorem x_sSub {fo fi : Ev} : sSub f fo fi ρ S = (f ρ S).st ρ fun d S1 => (fo ρ S1).st ρ fun o S2 => (fi ρ S2).st ρ fun i S3 => subS (oSet o i d S3) ρ := rfl
def varR (o : Option D) (S : Store) : Res D := match o with | some d => .ok d S | none => .no
@[simp] theorem varR_some : varR (some d) S = .ok d S := rfl
@[simp] theorem x_eVar : eVar i ρ S = varR (lget ρ i) S := rfl
@[simp] theorem lget_zero {x : Option D} {r : Loc} : lget (x :: r) 0 = x := rfl
@[simp] theorem lget_succ {x : Option D} {r : Loc} : lget (x :: r) (i + 1) = lget r i := rfl
@[simp] theorem x_eC : eC d ρ S = .ok d S := rfl
@[simp] theorem x_eBin : eBin o f g ρ S = (f ρ S).bind fun a S1 => (g ρ S1).bind fun b S2 => (o a b S2).res := rfl
def chN (z : D) (S : Store) (k : Res D) : Res D := match z with | .bl true => k | .bl false => .ok (.bl false) S | _ => .no
@[simp] theorem chN_t {k : Res D} : chN (.bl true) S k = k := rfl
@[simp] theorem chN_f {k : Res D} : chN (.bl false) S k = .ok (.bl false) S := rfl
theorem chN_b {k : Res D} {b : Bool} : chN (.bl b) S k = if b = true then k else .ok (.bl false) S := by cases b <;> rfl
@[simp] theorem x_eChain {o' : Op2} {h : Ev} : eChain o o' f g h ρ S = (f ρ S).bind fun a S1 => (g ρ S1).bind fun b S2 => (o a b S2).res.bind fun z S3 => chN z S3 ((h ρ S3).bind fun c S4 => (o' b c S4).res) := by
  unfold eChain chN
  congr
def blR (d : D) (S : Store) : Res Bool := match d with | .bl b => .ok b S | _ => .no
@[simp] theorem blR_bl {b : Bool} : blR (.bl b) S = .ok b S := rfl
@[simp] theorem x_tvB : tvB f ρ S = (f ρ S).bind fun d S1 => blR d S1 := rfl
def trR (o : Option Bool) (S : Store) : Res Bool := match o with | some b => .ok b S | none => .no
@[simp] theorem trR_some {b : Bool} : trR (some b) S = .ok b S := rfl
@[simp] theorem x_tvT : tvT f ρ S = (f ρ S).bind fun d S1 => trR (truD d S1) S1 := rfl
@[simp] theorem truD_bl {b : Bool} : truD (.bl b) S = some b := rfl
@[simp] theorem truD_int {b : Int} : truD (.int b) S = some (b != 0) := rfl
@[simp] theorem truD_lst {r : Nat} : truD (.lst r) S = (S[r]?).map fun xs => !xs.isEmpty := rfl
@[simp] theorem x_tvAnd : tvAnd t u ρ S = (t ρ S).bind fun b S1 => if b = true then u ρ S1 else .ok false S1 := rfl
@[simp] theorem x_tvOr : tvOr t u ρ S = (t ρ S).bind fun b S1 => if b = true then .ok true S1 else u ρ S1 := rfl
@[simp] theorem x_tvNot : tvNot t ρ S = (t ρ S).bind fun b S1 => .ok (!b) S1 := rfl
@[simp] theorem x_tvYes : tvYes ρ S = .ok true S := rfl
def andR (o : Option Bool) (d : D) (S : Store) (k : Res D) : Res D := match o with | some true => k | some false => .ok d S | none => .no
@[simp] theorem andR_t {k : Res D} : andR (some true) d S k = k := rfl
@[simp] theorem andR_f {k : Res D} : andR (some false) d S k = .ok d S := rfl
theorem andR_b {k : Res D} {b : Bool} : andR (some b) d S k = if b = true then k else .ok d S := by cases b <;> rfl
@[simp] theorem x_eAnd : eAnd f g ρ S = (f ρ S).bind fun d S1 => andR (truD d S1) d S1 (g ρ S1) := by
  unfold eAnd andR
  congr
@[simp] theorem x_eOr : eOr f g ρ S = (f ρ S).bind fun d S1 => andR ((truD d S1).map (!·)) d S1 (g ρ S1) := by
  unfold eOr andR
  congr; funext d S1
  cases truD d S1 with
  | none => rfl
  | some b => cases b <;> rfl
def notR (o : Option Bool) (S : Store) : Res D := match o with | some b => .ok (.bl (!b)) S | none => .no
@[simp] theorem notR_some {b : Bool} : notR (some b) S = .ok (.bl (!b)) S := rfl
@[simp] theorem x_eNot : eNot f ρ S = (f ρ S).bind fun d S1 => notR (truD d S1) S1 := rfl
@[simp] theorem x_eIf : eIf t f g ρ S = (t ρ S).bind fun b S1 => if b = true then f ρ S1 else g ρ S1 := rfl
def negR (d : D) (S : Store) : Res D := match d with | .int i => .ok (.int (-i)) S | _ => .no
@[simp] theorem negR_int {i : Int} : negR (.int i) S = .ok (.int (-i)) S := rfl
@[simp] theorem x_eNeg : eNeg f ρ S = (f ρ S).bind fun d S1 => negR d S1 := rfl
@[simp] theorem x_aNil : aNil ρ S = .ok [] S := rfl
@[simp] theorem x_aCons : aCons f a ρ S = (f ρ S).bind fun d S1 => (a ρ S1).bind fun ds S2 => .ok (d :: ds) S2 := rfl
@[simp] theorem x_eTup : eTup a ρ S = (a ρ S).bind fun ds S1 => if ds.length ≤ 1000000 then .ok (.tup ds) S1 else .no := rfl
@[simp] theorem x_eLst : eLst a ρ S = (a ρ S).bind fun ds S1 => if ds.length ≤ 1000000 then .ok (.lst S1.length) (S1 ++ [ds]) else .no := rfl
@[simp] theorem x_eCallO : eCallO v a ρ S = (a ρ S).bind fun ds S1 => (v ds S1).res := rfl
@[simp] theorem x_eCall : eCall F a ρ S = (a ρ S).bind fun ds S1 => F ds S1 := rfl
@[simp] theorem x_eCallK {n m : Nat} {pi : List Nat} : eCallK F n m pi a b ρ S = (a ρ S).bind fun ds S1 => (b ρ S1).bind fun zs S2 => if ds.length = n ∧ zs.length = m then F (perm pi (ds ++ zs)) S2 else .no := rfl
@[simp] theorem perm_1 {x : D} : perm [0] [x] = [x] := rfl
@[simp] theorem perm_2 {x y : D} : perm [0, 1] [x, y] = [x, y] := rfl
@[simp] theorem perm_2s {x y : D} : perm [1, 0] [x, y] = [y, x] := rfl
theorem fn_ev {n k : Nat} {b : Sv} {ds : List D} (h : ds.length = n := by rfl) : fnOf n k b ds S = (b (st0 k ds) S).res := if_pos h
@[simp] theorem res_rt : (SRes.rt d S).res = .ok d S := rfl
@[simp] theorem res_nx : (SRes.nx ρ S).res = .ok .non S := rfl
@[simp] theorem res_exc : (SRes.exc c ρ S).res = .exc c S := rfl
/-! operations -/
@[simp] theorem oAdd_int {i j : Int} : oAdd (.int i) (.int j) S = some (.int (i + j), S) := rfl
@[simp] theorem oSub_int {i j : Int} : oSub (.int i) (.int j) S = some (.int (i - j), S) := rfl
/-- the size of a number: its bits -/
def Sm (k : Nat) (i : Int) : Prop := i.natAbs < 2 ^ k
theorem Sm.log {k : Nat} {i : Int} (h : Sm k i) : i.natAbs.log2 ≤ k := by
  unfold Sm at h
  by_cases z : i.natAbs = 0
  · rw [z]; simp
  · exact Nat.le_of_lt ((Nat.log2_lt z).mpr h)
theorem oMul_int {i j : Int} {k l : Nat} (hi : Sm k i) (hj : Sm l j) (h : k + l < 9000000) : oMul (.int i) (.int j) S = some (.int (i * j), S) := by
  have h1 := hi.log
  have h2 := hj.log
  show (if i.natAbs.log2 + j.natAbs.log2 < 9000000 then some (D.int (i * j), S) else none) = _
  rw [if_pos (by omega)]
theorem oDiv_int {i j : Int} {k : Nat} (h0 : 0 < j) (hj : Sm k j) (h : k < 9000) : oDiv (.int i) (.int j) S = some (.int (i / j), S) := by
  have h1 := hj.log
  show (if 0 < j ∧ j.natAbs.log2 < 9000 then some (D.int (i / j), S) else none) = _
  rw [if_pos ⟨h0, by omega⟩]
theorem oMod_int {i j : Int} (h0 : 0 < j) : oMod (.int i) (.int j) S = some (.int (i % j), S) := if_pos h0
@[simp] theorem oLt_int {i j : Int} : oLt (.int i) (.int j) S = some (.bl (decide (i < j)), S) := rfl
@[simp] theorem oLe_int {i j : Int} : oLe (.int i) (.int j) S = some (.bl (decide (i ≤ j)), S) := rfl
@[simp] theorem oGt_int {i j : Int} : oGt (.int i) (.int j) S = some (.bl (decide (j < i)), S) := rfl
@[simp] theorem oGe_int {i j : Int} : oGe (.int i) (.int j) S = some (.bl (decide (j ≤ i)), S) := rfl
@[simp] theorem oIs_non : oIs false .non .non S = some (.bl true, S) := rfl
@[simp] theorem oIs_int {i : Int} : oIs false (.int i) .non S = some (.bl false, S) := rfl
@[simp] theorem oIs_bl {i : Bool} : oIs false (.bl i) .non S = some (.bl false, S) := rfl
@[simp] theorem oIs_str {i : Str} : oIs false (.str i) .non S = some (.bl false, S) := rfl
@[simp] theorem oIs_tup {i : List D} : oIs false (.tup i) .non S = some (.bl false, S) := rfl
@[simp] theorem oIs_lst {i : Nat} : oIs false (.lst i) .non S = some (.bl false, S) := rfl
theorem atI_nat {α : Type} (xs : List α) (i : Nat) : atI xs (i : Int) = xs[i]? := by
  unfold atI ixN
  rw [if_pos (Int.natCast_nonneg i)]
  by_cases h : (i : Int) < xs.length
  · rw [if_pos h]; rfl
  · rw [if_neg h, List.getElem?_eq_none (by omega)]; rfl
@[simp] theorem atI_0 {α : Type} {x : α} {r : List α} : atI (x :: r) 0 = some x := atI_nat (x :: r) 0
@[simp] theorem atI_1 {α : Type} {x y : α} {r : List α} : atI (x :: y :: r) 1 = some y := atI_nat (x :: y :: r) 1
@[simp] theorem atI_2 {α : Type} {x y z : α} {r : List α} : atI (x :: y :: z :: r) 2 = some z := atI_nat (x :: y :: z :: r) 2
@[simp] theorem oIx_tup {xs : List D} {i : Int} : oIx (.tup xs) (.int i) S = (atI xs i).map fun d => (d, S) := rfl
@[simp] theorem oIx_lst {r : Nat} {i : Int} : oIx (.lst r) (.int i) S = (S[r]?).bind fun xs => (atI xs i).map fun d => (d, S) := rfl
@[simp] theorem cLen_tup {xs : List D} : cLen [.tup xs] S = some (.int xs.length, S) := rfl
@[simp] theorem cLen_fz {xs : List D} : cLen [.fz xs] S = some (.int xs.length, S) := rfl
@[simp] theorem cLen_lst {r : Nat} : cLen [.lst r] S = (S[r]?).map fun xs => (.int xs.length, S) := rfl
@[simp] theorem cInt_int {i : Int} : cInt [.int i] S = some (.int i, S) := rfl
@[simp] theorem cInt_bl {b : Bool} : cInt [.bl b] S = some (.int (if b then 1 else 0), S) := rfl
@[simp] theorem cAbs_int {i : Int} : cAbs [.int i] S = some (.int (if i < 0 then -i else i), S) := rfl
@[simp] theorem cMin_int {i j : Int} : cMin2 [.int i, .int j] S = some (.int (if j < i then j else i), S) := rfl
@[simp] theorem cGcd_int {i j : Int} : cGcd [.int i, .int j] S = some (.int ((Nat.gcd i.natAbs j.natAbs : Nat) : Int), S) := rfl
@[simp] theorem cTuple_d {d : D} : cTuple [d] S = (items d S).map fun xs => (.tup xs, S) := rfl
@[simp] theorem cList_d {d : D} : cList [d] S = (items d S).map fun xs => (.lst S.length, S ++ [xs]) := rfl
@[simp] theorem items_tup {xs : List D} : items (.tup xs) S = some xs := rfl
@[simp] theorem items_fz {xs : List D} : items (.fz xs) S = some xs := rfl
@[simp] theorem items_lst {r : Nat} : items (.lst r) S = S[r]? := rfl
@[simp] theorem cIsi_ty {t : Ty} : cIsi [d, .ty t] S = (isTy d t).map fun b => (.bl b, S) := by cases d <;> rfl
@[simp] theorem cIsi_tup {ts : List D} : cIsi [d, .tup ts] S = (anyTy d ts).map fun b => (.bl b, S) := by cases d <;> rfl
@[simp] theorem any_two {t u : Ty} {x y : Bool} : anyTy d [.ty t, .ty u] = (match isTy d t, (match isTy d u, (tyN d).map fun _ => false with | some a, some b => some (a || b) | _, _ => none) with | some a, some b => some (a || b) | _, _ => none) := rfl
@[simp] theorem Out_some : Out.res (some (d, S)) = .ok d S := rfl
@[simp] theorem x_iOf : iOf f ρ S = (f ρ S).bind fun d S1 => match itOf d with | some a => .ok a S1 | none => .no := rfl
theorem toP_int (n : Nat) (S : Store) (i : Int) : toP (n + 1) S (.int i) = some (.int i) := by unfold toP; rfl
theorem toP_bl (n : Nat) (S : Store) (i : Bool) : toP (n + 1) S (.bl i) = some (.bool i) := by unfold toP; rfl
theorem toP_non (n : Nat) (S : Store) : toP (n + 1) S .non = some .none := by unfold toP; rfl
@[simp] theorem oEq_int (i j : Int) (S : Store) : oEq (.int i) (.int j) S = some (.bl (decide (i = j)), S) := by
  unfold oEq; rw [toP_int, toP_int]; simp [PyData.eqv]
  exact Bool.beq_eq_decide_eq i j
@[simp] theorem oNe_int (i j : Int) (S : Store) : oNe (.int i) (.int j) S = some (.bl (!decide (i = j)), S) := by
  unfold oNe; rw [toP_int, toP_int]; simp [PyData.eqv]
  exact Bool.beq_eq_decide_eq i j
@[simp] theorem oEq_bl (i j : Bool) (S : Store) : oEq (.bl i) (.bl j) S = some (.bl (i == j), S) := by
  unfold oEq; rw [toP_bl, toP_bl]; simp [PyData.eqv]
@[simp] theorem oNe_bl (i j : Bool) (S : Store) : oNe (.bl i) (.bl j) S = some (.bl (!(i == j)), S) := by
  unfold oNe; rw [toP_bl, toP_bl]; simp [PyData.eqv]
theorem toP_pair (S : Store) (a b : Int) : toP 64 S (.tup [.int a, .int b]) = some (.tuple [.int a, .int b]) := by
  unfold toP; simp [mapO, toP_int]
@[simp] theorem oEq_pair (a b c d : Int) (S : Store) : oEq (.tup [.int a, .int b]) (.tup [.int c, .int d]) S = some (.bl (decide (a = c) && decide (b = d)), S) := by
  unfold oEq; rw [toP_pair, toP_pair]; simp [PyData.eqv, PyData.eqvAll, Bool.beq_eq_decide_eq]
@[simp] theorem oNe_pair (a b c d : Int) (S : Store) : oNe (.tup [.int a, .int b]) (.tup [.int c, .int d]) S = some (.bl (!(decide (a = c) && decide (b = d))), S) := by
  unfold oNe; rw [toP_pair, toP_pair]; simp [PyData.eqv, PyData.eqvAll, Bool.beq_eq_decide_eq]
end
end Sd
/-! Prun: loops and comprehensions of the mirrors. -/
namespace Sd
open PySem PySem.Spec L2
theorem for_go {a : Itr} {t : NT} {b : Sv} {xs : List D} (I : Nat → Loc → Store → Prop) (ha : ∀ i ρ S, I i ρ S → a S i = xs[i]?)
    (step : ∀ i d ρ S, xs[i]? = some d → I i ρ S → ∃ ρ1 ρ2 S2, t.b d ρ = some ρ1 ∧ (b ρ1 S = .nx ρ2 S2 ∨ b ρ1 S = .ct ρ2 S2) ∧ I (i + 1) ρ2 S2) :
    ∀ (n i : Nat) (ρ : Loc) (S : Store), xs.length - i < n → I i ρ S → i ≤ xs.length → ∃ ρ' S', sForGo a t b n i ρ S = .nx ρ' S' ∧ I xs.length ρ' S'
  | 0, i, ρ, S, h, hI, hi => by omega
  | n + 1, i, ρ, S, h, hI, hi => by
    unfold sForGo
    rw [ha i ρ S hI]
    cases e : xs[i]? with
    | none =>
      have : i = xs.length := by
        have := List.getElem?_eq_none_iff.mp e
        omega
      subst this
      exact ⟨ρ, S, rfl, hI⟩
    | some d =>
      have hlt := (List.getElem?_eq_some_iff.mp e).1
      obtain ⟨ρ1, ρ2, S2, h1, h2, h3⟩ := step i d ρ S e hI
      dsimp only
      rw [h1]
      dsimp only
      have ih := for_go I ha step n (i + 1) ρ2 S2 (by omega) h3 (by omega)
      rcases h2 with h2 | h2
      · rw [h2]; exact ih
      · rw [h2]; exact ih
theorem for_run {a : Itr} {t : NT} {b : Sv} {it : Iv} {xs : List D} {ρ : Loc} {S S1 : Store} (I : Nat → Loc → Store → Prop) (hit : it ρ S = .ok a S1) (hl : xs.length < fuel) (h0 : I 0 ρ S1) (ha : ∀ i ρ S, I i ρ S → a S i = xs[i]?)
    (step : ∀ i d ρ S, xs[i]? = some d → I i ρ S → ∃ ρ1 ρ2 S2, t.b d ρ = some ρ1 ∧ (b ρ1 S = .nx ρ2 S2 ∨ b ρ1 S = .ct ρ2 S2) ∧ I (i + 1) ρ2 S2) :
    ∃ ρ' S', sFor it t b ρ S = .nx ρ' S' ∧ I xs.length ρ' S' := by
  unfold sFor
  rw [hit, st_ok]
  exact for_go I ha step fuel 0 ρ S1 (by omega) h0 (Nat.zero_le _)
/-- a loop that may leave: each turn goes on or ends in an outcome that is as wished -/
theorem for_go2 {a : Itr} {t : NT} {b : Sv} {xs : List D} (I : Nat → Loc → Store → Prop) (Z : SRes → Prop) (ha : ∀ i ρ S, I i ρ S → a S i = xs[i]?) (hz : ∀ ρ S, I xs.length ρ S → Z (.nx ρ S))
    (step : ∀ i d ρ S, xs[i]? = some d → I i ρ S → ∃ ρ1, t.b d ρ = some ρ1 ∧ ((∃ ρ2 S2, (b ρ1 S = .nx ρ2 S2 ∨ b ρ1 S = .ct ρ2 S2) ∧ I (i + 1) ρ2 S2) ∨ (∃ ρ2 S2, b ρ1 S = .bk ρ2 S2 ∧ Z (.nx ρ2 S2)) ∨ (∃ d S2, b ρ1 S = .rt d S2 ∧ Z (.rt d S2)) ∨ (∃ c ρ2 S2, b ρ1 S = .exc c ρ2 S2 ∧ Z (.exc c ρ2 S2)))) :
    ∀ (n i : Nat) (ρ : Loc) (S : Store), xs.length - i < n → I i ρ S → i ≤ xs.length → Z (sForGo a t b n i ρ S)
  | 0, i, ρ, S, h, hI, hi => by omega
  | n + 1, i, ρ, S, h, hI, hi => by
    unfold sForGo
    rw [ha i ρ S hI]
    cases e : xs[i]? with
    | none =>
      have : i = xs.length := by
        have := List.getElem?_eq_none_iff.mp e
        omega
      subst this
      exact hz ρ S hI
    | some d =>
      have hlt := (List.getElem?_eq_some_iff.mp e).1
      obtain ⟨ρ1, h1, h⟩ := step i d ρ S e hI
      dsimp only
      rw [h1]
      dsimp only
      rcases h with ⟨ρ2, S2, h2, h3⟩ | ⟨ρ2, S2, h2, h3⟩ | ⟨d, S2, h2, h3⟩ | ⟨c, ρ2, S2, h2, h3⟩
      · have ih := for_go2 I Z ha hz step n (i + 1) ρ2 S2 (by omega) h3 (by omega)
        rcases h2 with h2 | h2
        · rw [h2]; exact ih
        · rw [h2]; exact ih
      · rw [h2]; exact h3
      · rw [h2]; exact h3
      · rw [h2]; exact h3
theorem for_run2 {a : Itr} {t : NT} {b : Sv} {it : Iv} {xs : List D} {ρ : Loc} {S S1 : Store} (I : Nat → Loc → Store → Prop) (Z : SRes → Prop) (hit : it ρ S = .ok a S1) (hl : xs.length < fuel) (h0 : I 0 ρ S1) (ha : ∀ i ρ S, I i ρ S → a S i = xs[i]?) (hz : ∀ ρ S, I xs.length ρ S → Z (.nx ρ S))
    (step : ∀ i d ρ S, xs[i]? = some d → I i ρ S → ∃ ρ1, t.b d ρ = some ρ1 ∧ ((∃ ρ2 S2, (b ρ1 S = .nx ρ2 S2 ∨ b ρ1 S = .ct ρ2 S2) ∧ I (i + 1) ρ2 S2) ∨ (∃ ρ2 S2, b ρ1 S = .bk ρ2 S2 ∧ Z (.nx ρ2 S2)) ∨ (∃ d S2, b ρ1 S = .rt d S2 ∧ Z (.rt d S2)) ∨ (∃ c ρ2 S2, b ρ1 S = .exc c ρ2 S2 ∧ Z (.exc c ρ2 S2)))) :
    Z (sFor it t b ρ S) := by
  unfold sFor
  rw [hit, st_ok]
  exact for_go2 I Z ha hz step fuel 0 ρ S1 (by omega) h0 (Nat.zero_le _)
theorem while_go {c : Tv} {b : Sv} (I : Nat → Loc → Store → Prop) (Z : SRes → Prop)
    (step : ∀ n ρ S, I n ρ S → (∃ S1, c ρ S = .ok false S1 ∧ Z (.nx ρ S1)) ∨ ∃ S1, c ρ S = .ok true S1 ∧ ((∃ ρ2 S2 m, (b ρ S1 = .nx ρ2 S2 ∨ b ρ S1 = .ct ρ2 S2) ∧ m < n ∧ I m ρ2 S2) ∨ (∃ ρ2 S2, b ρ S1 = .bk ρ2 S2 ∧ Z (.nx ρ2 S2)) ∨ (∃ d S2, b ρ S1 = .rt d S2 ∧ Z (.rt d S2)) ∨ (∃ c ρ2 S2, b ρ S1 = .exc c ρ2 S2 ∧ Z (.exc c ρ2 S2)))) :
    ∀ (k n : Nat) (ρ : Loc) (S : Store), n < k → I n ρ S → Z (sWhileGo c b k ρ S)
  | 0, n, ρ, S, h, hI => by omega
  | k + 1, n, ρ, S, h, hI => by
    unfold sWhileGo
    rcases step n ρ S hI with ⟨S1, h1, h2⟩ | ⟨S1, h1, hh⟩
    · rw [h1, st_ok]
      exact h2
    · rw [h1, st_ok, if_pos rfl]
      rcases hh with ⟨ρ2, S2, m, h2, hm, h3⟩ | ⟨ρ2, S2, h2, h3⟩ | ⟨d, S2, h2, h3⟩ | ⟨c, ρ2, S2, h2, h3⟩
      · have ih := while_go I Z step k m ρ2 S2 (by omega) h3
        rcases h2 with h2 | h2
        · rw [h2]; exact ih
        · rw [h2]; exact ih
      · rw [h2]; exact h3
      · rw [h2]; exact h3
      · rw [h2]; exact h3
/-- a loop whose measure goes down -/
theorem while_run {c : Tv} {b : Sv} {ρ : Loc} {S : Store} (I : Nat → Loc → Store → Prop) (Z : SRes → Prop) (n : Nat) (hn : n < fuel) (h0 : I n ρ S)
    (step : ∀ n ρ S, I n ρ S → (∃ S1, c ρ S = .ok false S1 ∧ Z (.nx ρ S1)) ∨ ∃ S1, c ρ S = .ok true S1 ∧ ((∃ ρ2 S2 m, (b ρ S1 = .nx ρ2 S2 ∨ b ρ S1 = .ct ρ2 S2) ∧ m < n ∧ I m ρ2 S2) ∨ (∃ ρ2 S2, b ρ S1 = .bk ρ2 S2 ∧ Z (.nx ρ2 S2)) ∨ (∃ d S2, b ρ S1 = .rt d S2 ∧ Z (.rt d S2)) ∨ (∃ c ρ2 S2, b ρ S1 = .exc c ρ2 S2 ∧ Z (.exc c ρ2 S2)))) :
    Z (sWhile c b ρ S) := while_go I Z step fuel n ρ S hn h0
/-- a comprehension: each turn's element; what the elements leave in the store is told by J -/
theorem lc_go {a : Itr} {t : NT} {c : Tv} {f : Ev} {ρ : Loc} {r : Nat} {xs : List D} {ys : List D} (J : Nat → Store → Prop) (hlen : ys.length = xs.length) (hl : ys.length ≤ 1000000) (ha : ∀ i S, J i S → a S i = xs[i]?)
    (hr : ∀ i S, J i S → S[r]? = some (ys.take i))
    (step : ∀ i d y S, xs[i]? = some d → ys[i]? = some y → J i S → ∃ ρ1 S2, t.b d ρ = some ρ1 ∧ c ρ1 S = .ok true S ∧ f ρ1 S = .ok y S2 ∧ S2[r]? = some (ys.take i) ∧ J (i + 1) (S2.set r (ys.take i ++ [y]))) :
    ∀ (n i : Nat) (S : Store), xs.length - i < n → J i S → i ≤ xs.length → ∃ S', lcGo a t c f ρ r n i S = .ok () S' ∧ J xs.length S'
  | 0, i, S, h, hI, hi => by omega
  | n + 1, i, S, h, hI, hi => by
    unfold lcGo
    rw [ha i S hI]
    cases e : xs[i]? with
    | none =>
      have : i = xs.length := by
        have := List.getElem?_eq_none_iff.mp e
        omega
      subst this
      exact ⟨S, rfl, hI⟩
    | some d =>
      have hlt := (List.getElem?_eq_some_iff.mp e).1
      obtain ⟨ρ1, S2, h1, h2, h3, h4, h5⟩ := step i d ys[i] S e (List.getElem?_eq_getElem (by omega)) hI
      dsimp only
      rw [h1]
      dsimp only
      rw [h2, nox_ok, bind_ok, if_pos rfl, h3, nox_ok, bind_ok, h4]
      dsimp only
      rw [if_pos (by unfold lim; rw [List.length_take]; omega)]
      exact lc_go J hlen hl ha hr step n (i + 1) _ (by omega) h5 (by omega)
theorem lc_run {a : Itr} {t : NT} {c : Tv} {f : Ev} {ρ : Loc} {it : Iv} {vs : List Nat} {xs : List D} (ys : List D) {S S1 : Store} (J : Nat → Store → Prop) (hit : it ρ S = .ok a S1) (hlen : ys.length = xs.length) (hl : ys.length ≤ 1000000) (h0 : J 0 (S1 ++ [[]])) (ha : ∀ i S, J i S → a S i = xs[i]?)
    (hr : ∀ i S, J i S → S[S1.length]? = some (ys.take i))
    (step : ∀ i d y S, xs[i]? = some d → ys[i]? = some y → J i S → ∃ ρ1 S2, t.b d (wipeL ρ vs) = some ρ1 ∧ c ρ1 S = .ok true S ∧ f ρ1 S = .ok y S2 ∧ S2[S1.length]? = some (ys.take i) ∧ J (i + 1) (S2.set S1.length (ys.take i ++ [y]))) :
    ∃ S', eLc vs it t c f ρ S = .ok (.lst S1.length) S' ∧ J xs.length S' := by
  unfold eLc
  rw [hit, bind_ok]
  obtain ⟨S', h1, h2⟩ := lc_go J hlen hl ha hr step fuel 0 _ (by rw [← hlen]; unfold fuel; omega) h0 (Nat.zero_le _)
  exact ⟨S', by rw [h1, bind_ok], h2⟩
def SRes.lp (r : SRes) (k : Sv) : SRes := match r with
  | .nx ρ S => k ρ S
  | .ct ρ S => k ρ S
  | .bk ρ S => .nx ρ S
  | o => o
@[simp] theorem lp_nx {ρ : Loc} {S : Store} {k : Sv} : (SRes.nx ρ S).lp k = k ρ S := rfl
@[simp] theorem lp_ct {ρ : Loc} {S : Store} {k : Sv} : (SRes.ct ρ S).lp k = k ρ S := rfl
@[simp] theorem lp_bk {ρ : Loc} {S : Store} {k : Sv} : (SRes.bk ρ S).lp k = .nx ρ S := rfl
@[simp] theorem lp_rt {d : D} {S : Store} {k : Sv} : (SRes.rt d S).lp k = .rt d S := rfl
@[simp] theorem lp_exc {c : Addr} {ρ : Loc} {S : Store} {k : Sv} : (SRes.exc c ρ S).lp k = .exc c ρ S := rfl
def forL (t : NT) (b : Sv) : List D → Sv
  | [] => fun ρ S => .nx ρ S
  | d :: r => fun ρ S => match t.b d ρ with
    | none => .no
    | some ρ1 => (b ρ1 S).lp (forL t b r)
@[simp] theorem forL_nil {t : NT} {b : Sv} {ρ : Loc} {S : Store} : forL t b [] ρ S = .nx ρ S := rfl
theorem forL_cons {t : NT} {b : Sv} {d : D} {r : List D} {ρ ρ1 : Loc} {S : Store} (h : t.b d ρ = some ρ1) : forL t b (d :: r) ρ S = (b ρ1 S).lp (forL t b r) := by
  show (match t.b d ρ with | none => SRes.no | some ρ1 => (b ρ1 S).lp (forL t b r)) = _
  rw [h]
theorem forGo_seq {t : NT} {b : Sv} {xs : List D} : ∀ (n i : Nat) (ρ : Loc) (S : Store), xs.length - i < n → sForGo (itSeq xs) t b n i ρ S = forL t b (xs.drop i) ρ S
  | 0, i, ρ, S, h => by omega
  | n + 1, i, ρ, S, h => by
    unfold sForGo
    show (match xs[i]? with | none => SRes.nx ρ S | some d => _) = _
    cases e : xs[i]? with
    | none =>
      rw [List.drop_eq_nil_of_le (List.getElem?_eq_none_iff.mp e)]
      rfl
    | some d =>
      obtain ⟨hlt, rfl⟩ := List.getElem?_eq_some_iff.mp e
      rw [List.drop_eq_getElem_cons hlt]
      dsimp only
      show _ = (match t.b xs[i] ρ with | none => SRes.no | some ρ1 => (b ρ1 S).lp (forL t b (xs.drop (i + 1))))
      cases t.b xs[i] ρ with
      | none => rfl
      | some ρ1 =>
        dsimp only
        have ih := fun ρ S => forGo_seq (t := t) (b := b) (xs := xs) n (i + 1) ρ S (by omega)
        cases b ρ1 S with
        | nx ρ2 S2 => exact ih ρ2 S2
        | ct ρ2 S2 => exact ih ρ2 S2
        | _ => rfl
theorem for_seq {t : NT} {b : Sv} {it : Iv} {xs : List D} {ρ : Loc} {S S1 : Store} (hit : it ρ S = .ok (itSeq xs) S1) (hl : xs.length < fuel := by simp [fuel]) : sFor it t b ρ S = forL t b xs ρ S1 := by
  unfold sFor
  rw [hit, st_ok, forGo_seq _ _ _ _ (by omega)]
  rfl
theorem nb_nm {i : Nat} {d : D} {ρ : Loc} : (NT.nm i).b d ρ = some (ρ.set i (some d)) := by unfold NT.b; rfl
theorem nb_tp {ts : List NT} {xs : List D} {ρ : Loc} : (NT.tp ts).b (.tup xs) ρ = NT.bs ts xs ρ := by unfold NT.b; rfl
theorem nbs_nil {ρ : Loc} : NT.bs [] [] ρ = some ρ := by unfold NT.bs; rfl
theorem nbs_cons' {t : NT} {ts : List NT} {x : D} {xs : List D} {ρ : Loc} : NT.bs (t :: ts) (x :: xs) ρ = (NT.b t x ρ).bind fun ρ' => NT.bs ts xs ρ' := by
  conv => lhs; unfold NT.bs
theorem nbs_cons {t : NT} {ts : List NT} {x : D} {xs : List D} {ρ ρ1 : Loc} (h : t.b x ρ = some ρ1) : NT.bs (t :: ts) (x :: xs) ρ = NT.bs ts xs ρ1 := by
  rw [nbs_cons', h]; rfl
theorem get_app {S g : Store} {r : Nat} (h : r < S.length) : (S ++ g)[r]? = S[r]? := List.getElem?_append_left h
theorem set_end {S : Store} {x y : List D} {g : Store} : (S ++ [x] ++ g).set S.length y = S ++ [y] ++ g := by
  rw [List.append_assoc, List.append_assoc, List.set_append_right _ _ (Nat.le_refl _), Nat.sub_self]
  rfl
/-- a comprehension whose elements change nothing of what stands: each lays at most something new -/
theorem lc_new {a : Itr} {t : NT} {c : Tv} {f : Ev} {ρ : Loc} {it : Iv} {vs : List Nat} {xs : List D} (ys : List D) {S S1 : Store} (hit : it ρ S = .ok a S1) (hlen : ys.length = xs.length) (hl : ys.length ≤ 1000000) (ha : ∀ i g, a (S1 ++ g) i = xs[i]?)
    (step : ∀ (i : Nat) (d y : D) (g : Store), xs[i]? = some d → ys[i]? = some y → ∃ ρ1 g', t.b d (wipeL ρ vs) = some ρ1 ∧ c ρ1 (S1 ++ g) = .ok true (S1 ++ g) ∧ f ρ1 (S1 ++ g) = .ok y (S1 ++ g ++ g')) :
    ∃ g, eLc vs it t c f ρ S = .ok (.lst S1.length) (S1 ++ [ys] ++ g) := by
  obtain ⟨S', h1, g, h2⟩ := lc_run ys (fun i T => ∃ g, T = S1 ++ [ys.take i] ++ g) hit hlen hl ⟨[], by simp⟩ (fun i T ⟨g, e⟩ => by rw [e, List.append_assoc]; exact ha i _)
    (fun i T ⟨g, e⟩ => by rw [e, List.append_assoc, List.getElem?_append_right (Nat.le_refl _), Nat.sub_self]; rfl) fun i d y T e1 e2 ⟨g, e⟩ => by
      obtain ⟨ρ1, g', q1, q2, q3⟩ := step i d y ([ys.take i] ++ g) e1 e2
      rw [← List.append_assoc] at q2 q3
      subst e
      have ey : ys.take i ++ [y] = ys.take (i + 1) := by
        have := List.getElem?_eq_some_iff.mp e2
        obtain ⟨hlt, rfl⟩ := this
        exact (List.take_succ_eq_append_getElem hlt).symm
      refine ⟨ρ1, _, q1, q2, q3, ?_, g ++ g', ?_⟩
      · rw [List.append_assoc, List.append_assoc, List.getElem?_append_right (Nat.le_refl _), Nat.sub_self]; rfl
      · rw [List.append_assoc (S1 ++ [_]) g g', set_end, ey]
  refine ⟨g, ?_⟩
  rw [h1, h2, ← hlen, List.take_length]
/-- .. and lays nothing at all -/
theorem lc_pure {a : Itr} {t : NT} {c : Tv} {f : Ev} {ρ : Loc} {it : Iv} {vs : List Nat} {xs : List D} (ys : List D) {S S1 : Store} (hit : it ρ S = .ok a S1) (hlen : ys.length = xs.length) (hl : ys.length ≤ 1000000) (ha : ∀ i g, a (S1 ++ g) i = xs[i]?)
    (step : ∀ (i : Nat) (d y : D) (g : Store), xs[i]? = some d → ys[i]? = some y → ∃ ρ1, t.b d (wipeL ρ vs) = some ρ1 ∧ c ρ1 (S1 ++ g) = .ok true (S1 ++ g) ∧ f ρ1 (S1 ++ g) = .ok y (S1 ++ g)) :
    eLc vs it t c f ρ S = .ok (.lst S1.length) (S1 ++ [ys]) := by
  obtain ⟨S', h1, h2⟩ := lc_run ys (fun i T => T = S1 ++ [ys.take i]) hit hlen hl (by simp) (fun i T e => by rw [e]; exact ha i _)
    (fun i T e => by rw [e, List.getElem?_append_right (Nat.le_refl _), Nat.sub_self]; rfl) fun i d y T e1 e2 e => by
      obtain ⟨ρ1, q1, q2, q3⟩ := step i d y [ys.take i] e1 e2
      subst e
      have ey : ys.take i ++ [y] = ys.take (i + 1) := by
        have := List.getElem?_eq_some_iff.mp e2
        obtain ⟨hlt, rfl⟩ := this
        exact (List.take_succ_eq_append_getElem hlt).symm
      refine ⟨ρ1, _, q1, q2, q3, ?_, ?_⟩
      · rw [List.getElem?_append_right (Nat.le_refl _), Nat.sub_self]; rfl
      · have := set_end (S := S1) (x := ys.take i) (y := ys.take i ++ [y]) (g := [])
        rw [List.append_nil, List.append_nil] at this
        rw [this, ey]
  rw [h1, h2, ← hlen, List.take_length]
end Sd
namespace K91
open PySem PySem.Spec PyProof.Rows L2 RZ Sd
/-! the text by places -/
def top (i : Nat) : Stmt := PySem.Challenge.pw_solidseen_k91_across_fractions_as_a_fiel.main.body.getD i (.Pass ⟨0, 0, 0, 0⟩)
abbrev s_is_number : Stmt := top 4
abbrev s_is_from : Stmt := top 5
abbrev s_is_long : Stmt := top 6
abbrev s_tupled : Stmt := top 7
abbrev s_divisor : Stmt := top 8
abbrev s_is_fraction : Stmt := top 10
abbrev s_sure_fraction : Stmt := top 11
abbrev s_made : Stmt := top 12
abbrev s_fraction : Stmt := top 13
abbrev s_two : Stmt := top 14
abbrev s_added : Stmt := top 15
abbrev s_negative : Stmt := top 16
abbrev s_less : Stmt := top 17
abbrev s_times : Stmt := top 18
abbrev s_over : Stmt := top 19
abbrev s_compared : Stmt := top 20
abbrev s_less_than : Stmt := top 21
abbrev s_floor_of : Stmt := top 22
abbrev s_ceiling_of : Stmt := top 23
abbrev s_middle : Stmt := top 24
abbrev s_simplest_above : Stmt := top 25
abbrev s_simplest : Stmt := top 26
abbrev s__law_box : Stmt := top 28
abbrev s__law_take : Stmt := top 29
abbrev s__law_cells : Stmt := top 30
abbrev s__law_of : Stmt := top 31
abbrev s__law_same : Stmt := top 32
abbrev s__law_low : Stmt := top 36
abbrev s__law_times : Stmt := top 33
abbrev s__law_unmarked : Stmt := top 34
abbrev s__law_call : Stmt := top 35
abbrev s__law_plus : Stmt := top 37
abbrev s__law_heard : Stmt := top 38
abbrev s__law_number : Stmt := top 39
abbrev s__law_simplest : Stmt := top 40
abbrev s_law : Stmt := top 41
/-! the mirrors -/
def b_is_number (A : Str → Addr) : Sv :=
    (sRet (eAnd (eCallO cIsi (aCons (eVar 0) (aCons (eC (.ty .int)) aNil))) (eNot (eCallO cIsi (aCons (eVar 0) (aCons (eC (.ty .bool)) aNil))))))
def F_is_number (A : Str → Addr) : Fv := fnOf 1 1 (b_is_number A)
def b_is_from (A : Str → Addr) : Sv :=
    (sRet (eAnd (eCall (F_is_number A) (aCons (eVar 0) aNil)) (eBin oGe (eVar 0) (eVar 1))))
def F_is_from (A : Str → Addr) : Fv := fnOf 2 2 (b_is_from A)
def b_is_long (A : Str → Addr) : Sv :=
    (sRet (eAnd (eCallO cIsi (aCons (eVar 0) (aCons (eC (.ty .tuple)) aNil))) (eBin oEq (eCallO cLen (aCons (eVar 0) aNil)) (eVar 1))))
def F_is_long (A : Str → Addr) : Fv := fnOf 2 2 (b_is_long A)
def b_tupled (A : Str → Addr) (R : Fv) : Sv :=
    (sRet (eIf (tvT (eCallO cIsi (aCons (eVar 0) (aCons (eTup (aCons (eC (.ty .list)) (aCons (eC (.ty .tuple)) aNil))) aNil)))) (eCallO cTuple (aCons (eLc [1] (iOf (eVar 0)) (.nm 1) tvYes (eCall R (aCons (eVar 1) aNil))) aNil)) (eVar 0)))
def F_tupled (A : Str → Addr) : Nat → Fv
  | 0 => fun _ _ => .no
  | n + 1 => fnOf 1 2 (b_tupled A (F_tupled A n))
def b_divisor (A : Str → Addr) : Sv :=
    (sSeq (sSet 1 (eC (.int 0)))
    (sSeq (sFor (iOf (eVar 0)) (.nm 2) (sSet 1 (eCallO cGcd (aCons (eVar 1) (aCons (eVar 2) aNil)))))
    (sRet (eVar 1))))
def F_divisor (A : Str → Addr) : Fv := fnOf 1 3 (b_divisor A)
def b_is_fraction (A : Str → Addr) : Sv :=
    (sSeq (sIf (tvOr (tvNot (tvT (eCall (F_is_long A) (aCons (eVar 0) (aCons (eC (.int 2)) aNil))))) (tvOr (tvNot (tvT (eCall (F_is_number A) (aCons (eBin oIx (eVar 0) (eC (.int 0))) aNil)))) (tvNot (tvT (eCall (F_is_from A) (aCons (eBin oIx (eVar 0) (eC (.int 1))) (aCons (eC (.int 1)) aNil))))))) (sRet (eC (.bl false))) sNext)
    (sRet (eBin oEq (eCall (F_divisor A) (aCons (eVar 0) aNil)) (eC (.int 1)))))
def F_is_fraction (A : Str → Addr) : Fv := fnOf 1 1 (b_is_fraction A)
def b_sure_fraction (A : Str → Addr) : Sv :=
    (sSeq (sSet 1 (eCall (F_tupled A 4) (aCons (eVar 0) aNil)))
    (sSeq (sIf (tvNot (tvT (eCall (F_is_fraction A) (aCons (eVar 1) aNil)))) (sRaise (A "Unfit")) sNext)
    (sRet (eVar 1))))
def F_sure_fraction (A : Str → Addr) : Fv := fnOf 1 2 (b_sure_fraction A)
def b_made (A : Str → Addr) : Sv :=
    (sSeq (sSet 2 (eCall (F_divisor A) (aCons (eTup (aCons (eVar 0) (aCons (eVar 1) aNil))) aNil)))
    (sRet (eIf (tvB (eBin oGt (eVar 1) (eC (.int 0)))) (eTup (aCons (eBin oDiv (eVar 0) (eVar 2)) (aCons (eBin oDiv (eVar 1) (eVar 2)) aNil))) (eTup (aCons (eBin oDiv (eNeg (eVar 0)) (eVar 2)) (aCons (eBin oDiv (eNeg (eVar 1)) (eVar 2)) aNil))))))
def F_made (A : Str → Addr) : Fv := fnOf 2 3 (b_made A)
def b_fraction (A : Str → Addr) : Sv :=
    (sSeq (sIf (tvB (eBin oEq (eVar 1) (eC (.int 0)))) (sRaise (A "Unfit")) sNext)
    (sRet (eCall (F_made A) (aCons (eVar 0) (aCons (eVar 1) aNil)))))
def F_fraction (A : Str → Addr) : Fv := fnOf 2 2 (b_fraction A)
def b_two (A : Str → Addr) : Sv :=
    (sRet (eTup (aCons (eCall (F_sure_fraction A) (aCons (eVar 0) aNil)) (aCons (eCall (F_sure_fraction A) (aCons (eVar 1) aNil)) aNil))))
def F_two (A : Str → Addr) : Fv := fnOf 2 2 (b_two A)
def b_added (A : Str → Addr) : Sv :=
    (sSeq (sNt (.tp [(.tp [(.nm 2), (.nm 3)]), (.tp [(.nm 4), (.nm 5)])]) (eCall (F_two A) (aCons (eVar 0) (aCons (eVar 1) aNil))))
    (sRet (eCall (F_made A) (aCons (eBin oAdd (eBin oMul (eVar 2) (eVar 5)) (eBin oMul (eVar 4) (eVar 3))) (aCons (eBin oMul (eVar 3) (eVar 5)) aNil)))))
def F_added (A : Str → Addr) : Fv := fnOf 2 6 (b_added A)
def b_negative (A : Str → Addr) : Sv :=
    (sSeq (sNt (.tp [(.nm 1), (.nm 2)]) (eCall (F_sure_fraction A) (aCons (eVar 0) aNil)))
    (sRet (eTup (aCons (eNeg (eVar 1)) (aCons (eVar 2) aNil)))))
def F_negative (A : Str → Addr) : Fv := fnOf 1 3 (b_negative A)
def b_less (A : Str → Addr) : Sv :=
    (sSeq (sNt (.tp [(.tp [(.nm 2), (.nm 3)]), (.tp [(.nm 4), (.nm 5)])]) (eCall (F_two A) (aCons (eVar 0) (aCons (eVar 1) aNil))))
    (sRet (eCall (F_made A) (aCons (eBin oSub (eBin oMul (eVar 2) (eVar 5)) (eBin oMul (eVar 4) (eVar 3))) (aCons (eBin oMul (eVar 3) (eVar 5)) aNil)))))
def F_less (A : Str → Addr) : Fv := fnOf 2 6 (b_less A)
def b_times (A : Str → Addr) : Sv :=
    (sSeq (sNt (.tp [(.tp [(.nm 2), (.nm 3)]), (.tp [(.nm 4), (.nm 5)])]) (eCall (F_two A) (aCons (eVar 0) (aCons (eVar 1) aNil))))
    (sRet (eCall (F_made A) (aCons (eBin oMul (eVar 2) (eVar 4)) (aCons (eBin oMul (eVar 3) (eVar 5)) aNil)))))
def F_times (A : Str → Addr) : Fv := fnOf 2 6 (b_times A)
def b_over (A : Str → Addr) : Sv :=
    (sSeq (sNt (.tp [(.tp [(.nm 2), (.nm 3)]), (.tp [(.nm 4), (.nm 5)])]) (eCall (F_two A) (aCons (eVar 0) (aCons (eVar 1) aNil))))
    (sSeq (sIf (tvB (eBin oEq (eVar 4) (eC (.int 0)))) (sRaise (A "Unfit")) sNext)
    (sRet (eCall (F_made A) (aCons (eBin oMul (eVar 2) (eVar 5)) (aCons (eBin oMul (eVar 3) (eVar 4)) aNil))))))
def F_over (A : Str → Addr) : Fv := fnOf 2 6 (b_over A)
def b_compared (A : Str → Addr) : Sv :=
    (sSeq (sNt (.tp [(.tp [(.nm 2), (.nm 3)]), (.tp [(.nm 4), (.nm 5)])]) (eCall (F_two A) (aCons (eVar 0) (aCons (eVar 1) aNil))))
    (sRet (eBin oSub (eCallO cInt (aCons (eBin oGt (eBin oMul (eVar 2) (eVar 5)) (eBin oMul (eVar 4) (eVar 3))) aNil)) (eCallO cInt (aCons (eBin oLt (eBin oMul (eVar 2) (eVar 5)) (eBin oMul (eVar 4) (eVar 3))) aNil)))))
def F_compared (A : Str → Addr) : Fv := fnOf 2 6 (b_compared A)
def b_less_than (A : Str → Addr) : Sv :=
    (sRet (eBin oLt (eCall (F_compared A) (aCons (eVar 0) (aCons (eVar 1) aNil))) (eC (.int 0))))
def F_less_than (A : Str → Addr) : Fv := fnOf 2 2 (b_less_than A)
def b_floor_of (A : Str → Addr) : Sv :=
    (sSeq (sNt (.tp [(.nm 1), (.nm 2)]) (eCall (F_sure_fraction A) (aCons (eVar 0) aNil)))
    (sRet (eBin oDiv (eVar 1) (eVar 2))))
def F_floor_of (A : Str → Addr) : Fv := fnOf 1 3 (b_floor_of A)
def b_ceiling_of (A : Str → Addr) : Sv :=
    (sSeq (sNt (.tp [(.nm 1), (.nm 2)]) (eCall (F_sure_fraction A) (aCons (eVar 0) aNil)))
    (sRet (eNeg (eBin oDiv (eNeg (eVar 1)) (eVar 2)))))
def F_ceiling_of (A : Str → Addr) : Fv := fnOf 1 3 (b_ceiling_of A)
def b_middle (A : Str → Addr) : Sv :=
    (sSeq (sNt (.tp [(.tp [(.nm 2), (.nm 3)]), (.tp [(.nm 4), (.nm 5)])]) (eCall (F_two A) (aCons (eVar 0) (aCons (eVar 1) aNil))))
    (sRet (eCall (F_made A) (aCons (eBin oAdd (eBin oMul (eVar 2) (eVar 5)) (eBin oMul (eVar 4) (eVar 3))) (aCons (eBin oMul (eBin oMul (eC (.int 2)) (eVar 3)) (eVar 5)) aNil)))))
def F_middle (A : Str → Addr) : Fv := fnOf 2 6 (b_middle A)
def b_simplest_above (A : Str → Addr) : Sv :=
    (sSeq (sPar 2 3 (aCons (eLst aNil) (aCons (eVar 0) aNil)))
    (sSeq (sWhile (tvAnd (tvB (eBin oNe (eBin oMod (eBin oIx (eVar 3) (eC (.int 0))) (eBin oIx (eVar 3) (eC (.int 1)))) (eC (.int 0)))) (tvB (eBin oGt (eBin oMul (eBin oAdd (eBin oDiv (eBin oIx (eVar 3) (eC (.int 0))) (eBin oIx (eVar 3) (eC (.int 1)))) (eC (.int 1))) (eBin oIx (eVar 1) (eC (.int 1)))) (eBin oIx (eVar 1) (eC (.int 0)))))) (sSeq (sSet 4 (eBin oDiv (eBin oIx (eVar 3) (eC (.int 0))) (eBin oIx (eVar 3) (eC (.int 1)))))
     (sSeq (sExpr (eBm mApp (eVar 2) (aCons (eVar 4) aNil)))
     (sPar 3 1 (aCons (eTup (aCons (eBin oIx (eVar 1) (eC (.int 1))) (aCons (eBin oSub (eBin oIx (eVar 1) (eC (.int 0))) (eBin oMul (eVar 4) (eBin oIx (eVar 1) (eC (.int 1))))) aNil))) (aCons (eTup (aCons (eBin oIx (eVar 3) (eC (.int 1))) (aCons (eBin oSub (eBin oIx (eVar 3) (eC (.int 0))) (eBin oMul (eVar 4) (eBin oIx (eVar 3) (eC (.int 1))))) aNil))) aNil))))))
    (sSeq (sPar 5 6 (aCons (eNeg (eBin oDiv (eNeg (eBin oIx (eVar 3) (eC (.int 0)))) (eBin oIx (eVar 3) (eC (.int 1))))) (aCons (eC (.int 1)) aNil)))
    (sSeq (sFor (iOf (eRev (eVar 2))) (.nm 4) (sPar 5 6 (aCons (eBin oAdd (eBin oMul (eVar 4) (eVar 5)) (eVar 6)) (aCons (eVar 5) aNil))))
    (sRet (eTup (aCons (eVar 5) (aCons (eVar 6) aNil))))))))
def F_simplest_above (A : Str → Addr) : Fv := fnOf 2 7 (b_simplest_above A)
def b_simplest (A : Str → Addr) : Sv :=
    (sSeq (sNt (.tp [(.nm 2), (.nm 3)]) (eCall (F_two A) (aCons (eVar 0) (aCons (eVar 1) aNil))))
    (sSeq (sIf (tvB (eBin oGt (eCall (F_compared A) (aCons (eVar 2) (aCons (eVar 3) aNil))) (eC (.int 0)))) (sRaise (A "Unfit")) sNext)
    (sSeq (sIf (tvB (eChain oLe oLe (eBin oIx (eVar 2) (eC (.int 0))) (eC (.int 0)) (eBin oIx (eVar 3) (eC (.int 0))))) (sRet (eTup (aCons (eC (.int 0)) (aCons (eC (.int 1)) aNil)))) sNext)
    (sSeq (sIf (tvB (eBin oGt (eBin oIx (eVar 2) (eC (.int 0))) (eC (.int 0)))) (sRet (eCall (F_simplest_above A) (aCons (eVar 2) (aCons (eVar 3) aNil)))) sNext)
    (sSeq (sNt (.tp [(.nm 4), (.nm 5)]) (eCall (F_simplest_above A) (aCons (eTup (aCons (eNeg (eBin oIx (eVar 3) (eC (.int 0)))) (aCons (eBin oIx (eVar 3) (eC (.int 1))) aNil))) (aCons (eTup (aCons (eNeg (eBin oIx (eVar 2) (eC (.int 0)))) (aCons (eBin oIx (eVar 2) (eC (.int 1))) aNil))) aNil))))
    (sRet (eTup (aCons (eNeg (eVar 4)) (aCons (eVar 5) aNil)))))))))
def F_simplest (A : Str → Addr) : Fv := fnOf 2 6 (b_simplest A)
def b__law_box (A : Str → Addr) : Sv :=
    (sSeq (sSet 2 (eIf (tvB (eBin oLt (eVar 1) (eCallO cLen (aCons (eVar 0) aNil)))) (eBin oIx (eVar 0) (eVar 1)) (eC (.int 0))))
    (sRet (eLst (aCons (eBin oMul (eCallO cAbs (aCons (eVar 2) aNil)) (eCallO cInt (aCons (eBin oGe (eCallO cAbs (aCons (eVar 2) aNil)) (eBin oPow (eC (.int 10)) (eC (.int 18)))) aNil))) (aCons (eBin oAdd (eBin oAdd (eBin oMod (eCallO cInt (aCons (eVar 2) aNil)) (eC (.int 2305843009213693951))) (eBin oMul (eC (.int 39373)) (eVar 1))) (eC (.int 3179068))) (aCons (eC (.int 0)) aNil))))))
def F__law_box (A : Str → Addr) : Fv := fnOf 2 3 (b__law_box A)
def b__law_take (A : Str → Addr) : Sv :=
    (sSeq (sIf (tvB (eBin oGt (eBin oIx (eVar 0) (eC (.int 0))) (eC (.int 0)))) (sSeq (sSet 2 (eBin oMod (eCallO cInt (aCons (eBin oIx (eVar 0) (eC (.int 0))) aNil)) (eVar 1)))
     (sSeq (sSub (eBin oDiv (eBin oIx (eVar 0) (eC (.int 0))) (eVar 1)) (eVar 0) (eC (.int 0)))
     (sRet (eVar 2)))) sNext)
    (sSeq (sSub (eBin oAdd (eBin oIx (eVar 0) (eC (.int 2))) (eC (.int 1))) (eVar 0) (eC (.int 2)))
    (sSeq (sSet 3 (eBin oMod (eCallO cInt (aCons (eBin oMul (eBin oAdd (eBin oIx (eVar 0) (eC (.int 1))) (eBin oMul (eC (.int 48271)) (eBin oIx (eVar 0) (eC (.int 2))))) (eBin oAdd (eC (.int 39373)) (eBin oIx (eVar 0) (eC (.int 2))))) aNil)) (eC (.int 2147483647))))
    (sSeq (sSet 4 (eBin oAdd (eBin oMod (eCallO cInt (aCons (eVar 3) aNil)) (eC (.int 40009))) (eC (.int 7))))
    (sSeq (sSet 5 (eBin oMod (eCallO cInt (aCons (eBin oMul (eBin oAdd (eBin oAdd (eVar 3) (eBin oIx (eVar 0) (eC (.int 2)))) (eBin oDiv (eBin oIx (eVar 0) (eC (.int 1))) (eC (.int 1000003)))) (eVar 4)) aNil)) (eC (.int 2147483629))))
    (sRet (eBin oMod (eCallO cInt (aCons (eBin oDiv (eBin oMod (eCallO cInt (aCons (eBin oAdd (eBin oMul (eVar 5) (eC (.int 48271))) (eVar 3)) aNil)) (eC (.int 2147483587))) (eC (.int 64))) aNil)) (eVar 1))))))))
def F__law_take (A : Str → Addr) : Fv := fnOf 2 6 (b__law_take A)
def b__law_cells (A : Str → Addr) : Sv :=
    (sSeq (sSet 2 (eOr (eCallO cList (aCons (eSl (eVar 0) oNone (oSome (eVar 1))) aNil)) (eLst (aCons (eC (.int 0)) aNil))))
    (sSeq (sFor (iEnumE (aCons (eSl (eVar 0) (oSome (eVar 1)) (oSome (eC (.int 63)))) aNil)) (.tp [(.nm 3), (.nm 4)]) (sSeq (sSet 5 (eBin oMod (eCallO cInt (aCons (eVar 3) aNil)) (eVar 1)))
     (sSub (eBin oAdd (eBin oIx (eVar 2) (eVar 5)) (eBin oMul (eVar 4) (eBin oAdd (eVar 3) (eC (.int 2))))) (eVar 2) (eVar 5))))
    (sRet (eVar 2))))
def F__law_cells (A : Str → Addr) : Fv := fnOf 2 6 (b__law_cells A)
def b__law_of (A : Str → Addr) : Sv :=
    (sRet (eBin oIx (eVar 1) (eCall (F__law_take A) (aCons (eVar 0) (aCons (eCallO cLen (aCons (eVar 1) aNil)) aNil)))))
def F__law_of (A : Str → Addr) : Fv := fnOf 2 2 (b__law_of A)
def b__law_same (A : Str → Addr) (R : Fv) : Sv :=
    (sSeq (sIf (tvT (eCallO cIsi (aCons (eVar 1) (aCons (eTup (aCons (eC (.ty .list)) (aCons (eC (.ty .tuple)) aNil))) aNil)))) (sSeq (sIf (tvOr (tvB (eBin oNe (eCallO cIsi (aCons (eVar 0) (aCons (eC (.ty .list)) aNil))) (eCallO cIsi (aCons (eVar 1) (aCons (eC (.ty .list)) aNil))))) (tvB (eBin oNe (eCallO cIsi (aCons (eVar 0) (aCons (eC (.ty .tuple)) aNil))) (eCallO cIsi (aCons (eVar 1) (aCons (eC (.ty .tuple)) aNil)))))) (sRet (eC (.bl false))) sNext)
     (sRet (eAnd (eBin oEq (eCallO cLen (aCons (eVar 0) aNil)) (eCallO cLen (aCons (eVar 1) aNil))) (eCallO cAll (aCons (eLc [2, 3] (iZipE (aCons (eVar 0) (aCons (eVar 1) aNil))) (.tp [(.nm 2), (.nm 3)]) tvYes (eCall R (aCons (eVar 2) (aCons (eVar 3) aNil)))) aNil))))) sNext)
    (sSeq (sIf (tvOr (tvB (eBin (oIs false) (eVar 1) (eC .non))) (tvT (eCallO cIsi (aCons (eVar 1) (aCons (eTup (aCons (eC (.ty .bool)) (aCons (eC (.ty .str)) aNil))) aNil))))) (sRet (eAnd (eBin oEq (eVar 0) (eVar 1)) (eAnd (eBin oEq (eCallO cIsi (aCons (eVar 0) (aCons (eC (.ty .bool)) aNil))) (eCallO cIsi (aCons (eVar 1) (aCons (eC (.ty .bool)) aNil)))) (eBin oEq (eBin (oIs false) (eVar 0) (eC .non)) (eBin (oIs false) (eVar 1) (eC .non)))))) sNext)
    (sRet (eAnd (eCallO cIsi (aCons (eVar 0) (aCons (eC (.ty .int)) aNil))) (eAnd (eNot (eCallO cIsi (aCons (eVar 0) (aCons (eC (.ty .bool)) aNil)))) (eBin oEq (eVar 0) (eVar 1)))))))
def F__law_same (A : Str → Addr) : Nat → Fv
  | 0 => fun _ _ => .no
  | n + 1 => fnOf 2 4 (b__law_same A (F__law_same A n))
def b__law_low (A : Str → Addr) : Sv :=
    (sSeq (sPar 2 3 (aCons (eCallO cAbs (aCons (eVar 0) aNil)) (aCons (eCallO cAbs (aCons (eVar 1) aNil)) aNil)))
    (sSeq (sWhile (tvB (eBin oGt (eVar 2) (eC (.int 0)))) (sPar 2 3 (aCons (eBin oMod (eVar 3) (eVar 2)) (aCons (eVar 2) aNil))))
    (sSeq (sSet 4 (eIf (tvB (eBin oGt (eVar 1) (eC (.int 0)))) (eC (.int 1)) (eNeg (eC (.int 1)))))
    (sRet (eTup (aCons (eBin oDiv (eBin oMul (eVar 4) (eVar 0)) (eVar 3)) (aCons (eBin oDiv (eBin oMul (eVar 4) (eVar 1)) (eVar 3)) aNil)))))))
def F__law_low (A : Str → Addr) : Fv := fnOf 2 5 (b__law_low A)
def b__law_times (A : Str → Addr) : Sv :=
    (sRet (eCall (F__law_low A) (aCons (eBin oMul (eBin oIx (eVar 0) (eC (.int 0))) (eBin oIx (eVar 1) (eC (.int 0)))) (aCons (eBin oMul (eBin oIx (eVar 0) (eC (.int 1))) (eBin oIx (eVar 1) (eC (.int 1)))) aNil))))
def F__law_times (A : Str → Addr) : Fv := fnOf 2 2 (b__law_times A)
def b__law_unmarked (A : Str → Addr) : Sv :=
    (sRet (eIf (tvAnd (tvT (eCallO cIsi (aCons (eVar 0) (aCons (eC (.ty .list)) aNil)))) (tvAnd (tvB (eBin oGt (eCallO cLen (aCons (eVar 0) aNil)) (eC (.int 0)))) (tvT (eCallO cIsi (aCons (eBin oIx (eVar 0) (eC (.int 0))) (aCons (eC (.ty .str)) aNil)))))) (eLst (aCons (eC (.str "told")) (aCons (eC (.str "a mark")) aNil))) (eVar 0)))
def F__law_unmarked (A : Str → Addr) : Fv := fnOf 1 1 (b__law_unmarked A)
def tb (A : Str → Addr) : List (Addr × Fv) := [(A "fraction", F_fraction A), (A "over", F_over A), (A "simplest", F_simplest A)]
def b__law_call (A : Str → Addr) : Sv :=
    (sSeq (sIf (tvB (eBin oLt (eCallO cLen (aCons (eVar 1) aNil)) (eC (.int 3)))) (sRet (eIf (tvB (eBin oEq (eCallO cLen (aCons (eVar 1) aNil)) (eC (.int 1)))) (eCallL (tb A) 0 (aCons (eBin oIx (eVar 1) (eC (.int 0))) aNil)) (eCallL (tb A) 0 (aCons (eBin oIx (eVar 1) (eC (.int 0))) (aCons (eBin oIx (eVar 1) (eC (.int 1))) aNil))))) sNext)
    (sSeq (sIf (tvB (eBin oEq (eCallO cLen (aCons (eVar 1) aNil)) (eC (.int 3)))) (sRet (eCallL (tb A) 0 (aCons (eBin oIx (eVar 1) (eC (.int 0))) (aCons (eBin oIx (eVar 1) (eC (.int 1))) (aCons (eBin oIx (eVar 1) (eC (.int 2))) aNil))))) sNext)
    (sRet (eCallL (tb A) 0 (aCons (eBin oIx (eVar 1) (eC (.int 0))) (aCons (eBin oIx (eVar 1) (eC (.int 1))) (aCons (eBin oIx (eVar 1) (eC (.int 2))) (aCons (eBin oIx (eVar 1) (eC (.int 3))) aNil))))))))
def F__law_call (A : Str → Addr) : Fv := fnOf 2 2 (b__law_call A)
def b__law_plus (A : Str → Addr) : Sv :=
    (sRet (eCall (F__law_low A) (aCons (eBin oAdd (eBin oMul (eBin oIx (eVar 0) (eC (.int 0))) (eBin oIx (eVar 1) (eC (.int 1)))) (eBin oMul (eBin oIx (eVar 1) (eC (.int 0))) (eBin oIx (eVar 0) (eC (.int 1))))) (aCons (eBin oMul (eBin oIx (eVar 0) (eC (.int 1))) (eBin oIx (eVar 1) (eC (.int 1)))) aNil))))
def F__law_plus (A : Str → Addr) : Fv := fnOf 2 2 (b__law_plus A)
def b__law_heard (A : Str → Addr) : Sv :=
    (sSeq (sNt (.tp [(.nm 2), (.nm 3)]) (eTup (aCons (eC .non) (aCons (eC .non) aNil))))
    (sSeq (sTry1 (sSet 3 (eCall (F__law_unmarked A) (aCons (eCall (F__law_call A) (aCons (eVar 0) (aCons (eVar 1) aNil))) aNil))) (A "Unfit") 4 2 "unfit")
    (sRet (eIf (tvB (eBin (oIs false) (eVar 2) (eC .non))) (eVar 3) (eVar 2)))))
def F__law_heard (A : Str → Addr) : Fv := fnOf 2 5 (b__law_heard A)
def b__law_number (A : Str → Addr) : Sv :=
    (sSeq (sSet 1 (eCall (F__law_of A) (aCons (eVar 0) (aCons (eLst (aCons (eC (.int 5)) (aCons (eC (.int 40)) (aCons (eC (.int 1000)) (aCons (eBin oPow (eC (.int 10)) (eC (.int 20))) aNil))))) aNil))))
    (sRet (eCall (F_fraction A) (aCons (eBin oSub (eCall (F__law_take A) (aCons (eVar 0) (aCons (eBin oMul (eC (.int 2)) (eVar 1)) aNil))) (eVar 1)) (aCons (eBin oAdd (eC (.int 1)) (eCall (F__law_take A) (aCons (eVar 0) (aCons (eVar 1) aNil)))) aNil)))))
def F__law_number (A : Str → Addr) : Fv := fnOf 1 2 (b__law_number A)
def b__law_simplest (A : Str → Addr) : Sv :=
    (sSeq (sSet 2 (eC (.int 1)))
    (sWhile (tvT (eC (.bl true))) (sSeq (sPar 3 4 (aCons (eBin oSub (eC (.int 0)) (eBin oDiv (eBin oSub (eC (.int 0)) (eBin oMul (eBin oIx (eVar 0) (eC (.int 0))) (eVar 2))) (eBin oIx (eVar 0) (eC (.int 1))))) (aCons (eBin oDiv (eBin oMul (eBin oIx (eVar 1) (eC (.int 0))) (eVar 2)) (eBin oIx (eVar 1) (eC (.int 1)))) aNil)))
     (sSeq (sIf (tvB (eBin oLe (eVar 3) (eVar 4))) (sSeq (sSet 5 (eIf (tvB (eBin oGt (eVar 3) (eC (.int 0)))) (eVar 3) (eIf (tvB (eBin oLt (eVar 4) (eC (.int 0)))) (eVar 4) (eC (.int 0)))))
      (sRet (eCall (F__law_low A) (aCons (eVar 5) (aCons (eVar 2) aNil))))) sNext)
     (sSet 2 (eBin oAdd (eVar 2) (eC (.int 1))))))))
def F__law_simplest (A : Str → Addr) : Fv := fnOf 2 6 (b__law_simplest A)
def b_law (A : Str → Addr) : Sv :=
    (sSeq (sSet 1 (eCall (F__law_box A) (aCons (eCall (F__law_cells A) (aCons (eVar 0) (aCons (eC (.int 1)) aNil))) (aCons (eC (.int 0)) aNil))))
    (sSeq (sFor (iRng1 (aCons (eC (.int 4)) aNil)) (.nm 2) (sSeq (sPar3 3 4 5 (aCons (eCall (F__law_number A) (aCons (eVar 1) aNil)) (aCons (eCall (F__law_number A) (aCons (eVar 1) aNil)) (aCons (eCall (F__law_number A) (aCons (eVar 1) aNil)) aNil))))
     (sSeq (sSet 6 (eLst (aCons (eCallK (F_added A) 0 2 [0, 1] aNil (aCons (eVar 3) (aCons (eVar 4) aNil))) (aCons (eCall (F_added A) (aCons (eCall (F_added A) (aCons (eVar 3) (aCons (eVar 4) aNil))) (aCons (eVar 5) aNil))) (aCons (eCall (F_times A) (aCons (eCall (F_times A) (aCons (eVar 3) (aCons (eVar 4) aNil))) (aCons (eVar 5) aNil))) (aCons (eCall (F_times A) (aCons (eVar 3) (aCons (eCall (F_added A) (aCons (eVar 4) (aCons (eVar 5) aNil))) aNil))) (aCons (eCall (F_less A) (aCons (eCall (F_added A) (aCons (eVar 3) (aCons (eVar 4) aNil))) (aCons (eVar 4) aNil))) (aCons (eCallK (F_less A) 0 2 [0, 1] aNil (aCons (eVar 3) (aCons (eVar 4) aNil))) (aCons (eCall (F_added A) (aCons (eVar 3) (aCons (eCallK (F_negative A) 0 1 [0] aNil (aCons (eVar 3) aNil)) aNil))) aNil)))))))))
     (sSeq (sSet 7 (eLst (aCons (eCall (F__law_plus A) (aCons (eVar 3) (aCons (eVar 4) aNil))) (aCons (eCall (F_added A) (aCons (eVar 3) (aCons (eCall (F_added A) (aCons (eVar 4) (aCons (eVar 5) aNil))) aNil))) (aCons (eCall (F_times A) (aCons (eVar 3) (aCons (eCall (F_times A) (aCons (eVar 5) (aCons (eVar 4) aNil))) aNil))) (aCons (eCall (F_added A) (aCons (eCall (F_times A) (aCons (eVar 3) (aCons (eVar 4) aNil))) (aCons (eCall (F_times A) (aCons (eVar 5) (aCons (eVar 3) aNil))) aNil))) (aCons (eVar 3) (aCons (eCall (F_negative A) (aCons (eCall (F_less A) (aCons (eVar 4) (aCons (eVar 3) aNil))) aNil)) (aCons (eTup (aCons (eC (.int 0)) (aCons (eC (.int 1)) aNil))) aNil)))))))))
     (sSeq (sIf (tvOr (tvNot (tvT (eCall (F__law_same A 5) (aCons (eVar 6) (aCons (eVar 7) aNil))))) (tvNot (tvT (eCallO cAll (aCons (eLc [15] (iOf (eVar 6)) (.nm 15) tvYes (eCall (F_is_fraction A) (aCons (eVar 15) aNil))) aNil))))) (sRet (eC (.bl false))) sNext)
     (sSeq (sIf (tvB (eBin oNe (eBin oIx (eVar 4) (eC (.int 0))) (eC (.int 0)))) (sIf (tvNot (tvT (eCall (F__law_same A 5) (aCons (eLst (aCons (eCall (F_over A) (aCons (eCall (F_times A) (aCons (eVar 3) (aCons (eVar 4) aNil))) (aCons (eVar 4) aNil))) (aCons (eCall (F_times A) (aCons (eCallK (F_over A) 0 2 [0, 1] aNil (aCons (eVar 3) (aCons (eVar 4) aNil))) (aCons (eVar 4) aNil))) (aCons (eCall (F_over A) (aCons (eVar 4) (aCons (eVar 4) aNil))) aNil)))) (aCons (eLst (aCons (eVar 3) (aCons (eVar 3) (aCons (eTup (aCons (eC (.int 1)) (aCons (eC (.int 1)) aNil))) aNil)))) aNil))))) (sRet (eC (.bl false))) sNext) (sIf (tvNot (tvT (eCall (F__law_same A 5) (aCons (eCall (F__law_heard A) (aCons (eC (.obj (A "over"))) (aCons (eTup (aCons (eVar 3) (aCons (eVar 4) aNil))) aNil))) (aCons (eLst (aCons (eC (.str "unfit")) (aCons (eC (.bl true)) aNil))) aNil))))) (sRet (eC (.bl false))) sNext))
     (sSeq (sSet 8 (eBin oSub (eCallO cInt (aCons (eBin oGt (eBin oMul (eBin oIx (eVar 3) (eC (.int 0))) (eBin oIx (eVar 4) (eC (.int 1)))) (eBin oMul (eBin oIx (eVar 4) (eC (.int 0))) (eBin oIx (eVar 3) (eC (.int 1))))) aNil)) (eCallO cInt (aCons (eBin oLt (eBin oMul (eBin oIx (eVar 3) (eC (.int 0))) (eBin oIx (eVar 4) (eC (.int 1)))) (eBin oMul (eBin oIx (eVar 4) (eC (.int 0))) (eBin oIx (eVar 3) (eC (.int 1))))) aNil))))
     (sSeq (sSet 6 (eLst (aCons (eCallK (F_compared A) 0 2 [0, 1] aNil (aCons (eVar 3) (aCons (eVar 4) aNil))) (aCons (eCall (F_compared A) (aCons (eVar 4) (aCons (eVar 3) aNil))) (aCons (eCallK (F_less_than A) 0 2 [0, 1] aNil (aCons (eVar 3) (aCons (eVar 4) aNil))) (aCons (eCall (F_compared A) (aCons (eCall (F_added A) (aCons (eVar 3) (aCons (eVar 5) aNil))) (aCons (eCall (F_added A) (aCons (eVar 4) (aCons (eVar 5) aNil))) aNil))) (aCons (eCallK (F_floor_of A) 0 1 [0] aNil (aCons (eVar 3) aNil)) (aCons (eCallK (F_ceiling_of A) 0 1 [0] aNil (aCons (eVar 3) aNil)) (aCons (eCallK (F_middle A) 0 2 [0, 1] aNil (aCons (eVar 3) (aCons (eVar 4) aNil))) aNil)))))))))
     (sSeq (sIf (tvNot (tvT (eCall (F__law_same A 5) (aCons (eVar 6) (aCons (eLst (aCons (eVar 8) (aCons (eBin oSub (eC (.int 0)) (eVar 8)) (aCons (eBin oLt (eVar 8) (eC (.int 0))) (aCons (eVar 8) (aCons (eBin oDiv (eBin oIx (eVar 3) (eC (.int 0))) (eBin oIx (eVar 3) (eC (.int 1)))) (aCons (eBin oSub (eC (.int 0)) (eBin oDiv (eBin oSub (eC (.int 0)) (eBin oIx (eVar 3) (eC (.int 0)))) (eBin oIx (eVar 3) (eC (.int 1))))) (aCons (eCall (F__law_times A) (aCons (eCall (F__law_plus A) (aCons (eVar 3) (aCons (eVar 4) aNil))) (aCons (eTup (aCons (eC (.int 1)) (aCons (eC (.int 2)) aNil))) aNil))) aNil)))))))) aNil))))) (sRet (eC (.bl false))) sNext)
     (sSeq (sIf (tvAnd (tvB (eBin oNe (eBin oIx (eVar 5) (eC (.int 0))) (eC (.int 0)))) (tvB (eBin oNe (eCall (F_compared A) (aCons (eCall (F_times A) (aCons (eVar 3) (aCons (eVar 5) aNil))) (aCons (eCall (F_times A) (aCons (eVar 4) (aCons (eVar 5) aNil))) aNil))) (eIf (tvB (eBin oGt (eBin oIx (eVar 5) (eC (.int 0))) (eC (.int 0)))) (eVar 8) (eBin oSub (eC (.int 0)) (eVar 8)))))) (sRet (eC (.bl false))) sNext)
     (sSeq (sPar 9 10 (aCons (eCall (F_fraction A) (aCons (eBin oSub (eCall (F__law_take A) (aCons (eVar 1) (aCons (eC (.int 81)) aNil))) (eC (.int 40))) (aCons (eBin oAdd (eC (.int 1)) (eCall (F__law_take A) (aCons (eVar 1) (aCons (eC (.int 30)) aNil)))) aNil))) (aCons (eCall (F_fraction A) (aCons (eBin oSub (eCall (F__law_take A) (aCons (eVar 1) (aCons (eC (.int 81)) aNil))) (eC (.int 40))) (aCons (eBin oAdd (eC (.int 1)) (eCall (F__law_take A) (aCons (eVar 1) (aCons (eC (.int 30)) aNil)))) aNil))) aNil)))
     (sSeq (sNt (.tp [(.nm 11), (.nm 12)]) (eIf (tvNot (tvT (eCall (F_less_than A) (aCons (eVar 10) (aCons (eVar 9) aNil))))) (eTup (aCons (eVar 9) (aCons (eVar 10) aNil))) (eTup (aCons (eVar 10) (aCons (eVar 9) aNil)))))
     (sSeq (sSet 13 (eCallK (F_simplest A) 0 2 [0, 1] aNil (aCons (eVar 11) (aCons (eVar 12) aNil))))
     (sSeq (sIf (tvOr (tvB (eBin oNe (eVar 13) (eCall (F__law_simplest A) (aCons (eVar 11) (aCons (eVar 12) aNil))))) (tvOr (tvB (eBin oNe (eCall (F_simplest A) (aCons (eCall (F_negative A) (aCons (eVar 12) aNil)) (aCons (eCall (F_negative A) (aCons (eVar 11) aNil)) aNil))) (eCall (F_negative A) (aCons (eVar 13) aNil)))) (tvB (eBin oNe (eCall (F_simplest A) (aCons (eVar 13) (aCons (eVar 13) aNil))) (eVar 13))))) (sRet (eC (.bl false))) sNext)
     (sSeq (sSet 14 (eIf (tvB (eBin oLe (eVar 8) (eC (.int 0)))) (eCall (F_simplest A) (aCons (eVar 3) (aCons (eVar 4) aNil))) (eCall (F_simplest A) (aCons (eVar 4) (aCons (eVar 3) aNil)))))
     (sSeq (sIf (tvOr (tvT (eCall (F_less_than A) (aCons (eVar 14) (aCons (eIf (tvB (eBin oLe (eVar 8) (eC (.int 0)))) (eVar 3) (eVar 4)) aNil)))) (tvOr (tvT (eCall (F_less_than A) (aCons (eIf (tvB (eBin oLe (eVar 8) (eC (.int 0)))) (eVar 4) (eVar 3)) (aCons (eVar 14) aNil)))) (tvB (eBin oGt (eBin oIx (eVar 14) (eC (.int 1))) (eCallO cMin2 (aCons (eBin oIx (eVar 3) (eC (.int 1))) (aCons (eBin oIx (eVar 4) (eC (.int 1))) aNil))))))) (sRet (eC (.bl false))) sNext)
     (sIf (tvAnd (tvB (eBin oGt (eVar 8) (eC (.int 0)))) (tvNot (tvT (eCall (F__law_same A 5) (aCons (eCall (F__law_heard A) (aCons (eC (.obj (A "simplest"))) (aCons (eTup (aCons (eVar 3) (aCons (eVar 4) aNil))) aNil))) (aCons (eLst (aCons (eC (.str "unfit")) (aCons (eC (.bl true)) aNil))) aNil)))))) (sRet (eC (.bl false))) sNext)))))))))))))))))
    (sRet (eCall (F__law_same A 5) (aCons (eLst (aCons (eCall (F_fraction A) (aCons (eC (.int 6)) (aCons (eNeg (eC (.int 4))) aNil))) (aCons (eCall (F_fraction A) (aCons (eC (.int 0)) (aCons (eNeg (eC (.int 7))) aNil))) (aCons (eCall (F_floor_of A) (aCons (eTup (aCons (eNeg (eC (.int 7))) (aCons (eC (.int 2)) aNil))) aNil)) (aCons (eCall (F_ceiling_of A) (aCons (eTup (aCons (eNeg (eC (.int 7))) (aCons (eC (.int 2)) aNil))) aNil)) (aCons (eCall (F__law_heard A) (aCons (eC (.obj (A "fraction"))) (aCons (eTup (aCons (eC (.int 1)) (aCons (eC (.int 0)) aNil))) aNil))) aNil)))))) (aCons (eLst (aCons (eTup (aCons (eNeg (eC (.int 3))) (aCons (eC (.int 2)) aNil))) (aCons (eTup (aCons (eC (.int 0)) (aCons (eC (.int 1)) aNil))) (aCons (eNeg (eC (.int 4))) (aCons (eNeg (eC (.int 3))) (aCons (eLst (aCons (eC (.str "unfit")) (aCons (eC (.bl true)) aNil))) aNil)))))) aNil))))))
def F_law (A : Str → Addr) : Fv := fnOf 1 16 (b_law A)
/-! what the top has written -/
structure Tx (A : Str → Addr) (fd : Str → FuncData) (K : PySem.W.Frag) (mg : Str → Option Value) : Prop where
  n_ValueError : mg "ValueError" = none
  n_abs : mg "abs" = none
  n_all : mg "all" = none
  n_bool : mg "bool" = none
  n_enumerate : mg "enumerate" = none
  n_int : mg "int" = none
  n_isinstance : mg "isinstance" = none
  n_len : mg "len" = none
  n_list : mg "list" = none
  n_min : mg "min" = none
  n_range : mg "range" = none
  n_str : mg "str" = none
  n_tuple : mg "tuple" = none
  n_zip : mg "zip" = none
  b_gcd : mg "gcd" = some (.builtin "math.gcd")
  x_Unfit : ExD K mg "Unfit" (A "Unfit")
  c_Unfit : CtD K (A "Unfit")
  g_is_number : mg "is_number" = some (.ref (A "is_number"))
  u_is_number : Fun K "is_number" "is_number" s_is_number (A "is_number") (fd "is_number")
  g_is_from : mg "is_from" = some (.ref (A "is_from"))
  u_is_from : Fun K "is_from" "is_from" s_is_from (A "is_from") (fd "is_from")
  g_is_long : mg "is_long" = some (.ref (A "is_long"))
  u_is_long : Fun K "is_long" "is_long" s_is_long (A "is_long") (fd "is_long")
  g_tupled : mg "tupled" = some (.ref (A "tupled"))
  u_tupled : Fun K "tupled" "tupled" s_tupled (A "tupled") (fd "tupled")
  g_divisor : mg "divisor" = some (.ref (A "divisor"))
  u_divisor : Fun K "divisor" "divisor" s_divisor (A "divisor") (fd "divisor")
  g_is_fraction : mg "is_fraction" = some (.ref (A "is_fraction"))
  u_is_fraction : Fun K "is_fraction" "is_fraction" s_is_fraction (A "is_fraction") (fd "is_fraction")
  g_sure_fraction : mg "sure_fraction" = some (.ref (A "sure_fraction"))
  u_sure_fraction : Fun K "sure_fraction" "sure_fraction" s_sure_fraction (A "sure_fraction") (fd "sure_fraction")
  g_made : mg "made" = some (.ref (A "made"))
  u_made : Fun K "made" "made" s_made (A "made") (fd "made")
  g_fraction : mg "fraction" = some (.ref (A "fraction"))
  u_fraction : Fun K "fraction" "fraction" s_fraction (A "fraction") (fd "fraction")
  g_two : mg "two" = some (.ref (A "two"))
  u_two : Fun K "two" "two" s_two (A "two") (fd "two")
  g_added : mg "added" = some (.ref (A "added"))
  u_added : Fun K "added" "added" s_added (A "added") (fd "added")
  g_negative : mg "negative" = some (.ref (A "negative"))
  u_negative : Fun K "negative" "negative" s_negative (A "negative") (fd "negative")
  g_less : mg "less" = some (.ref (A "less"))
  u_less : Fun K "less" "less" s_less (A "less") (fd "less")
  g_times : mg "times" = some (.ref (A "times"))
  u_times : Fun K "times" "times" s_times (A "times") (fd "times")
  g_over : mg "over" = some (.ref (A "over"))
  u_over : Fun K "over" "over" s_over (A "over") (fd "over")
  g_compared : mg "compared" = some (.ref (A "compared"))
  u_compared : Fun K "compared" "compared" s_compared (A "compared") (fd "compared")
  g_less_than : mg "less_than" = some (.ref (A "less_than"))
  u_less_than : Fun K "less_than" "less_than" s_less_than (A "less_than") (fd "less_than")
  g_floor_of : mg "floor_of" = some (.ref (A "floor_of"))
  u_floor_of : Fun K "floor_of" "floor_of" s_floor_of (A "floor_of") (fd "floor_of")
  g_ceiling_of : mg "ceiling_of" = some (.ref (A "ceiling_of"))
  u_ceiling_of : Fun K "ceiling_of" "ceiling_of" s_ceiling_of (A "ceiling_of") (fd "ceiling_of")
  g_middle : mg "middle" = some (.ref (A "middle"))
  u_middle : Fun K "middle" "middle" s_middle (A "middle") (fd "middle")
  g_simplest_above : mg "simplest_above" = some (.ref (A "simplest_above"))
  u_simplest_above : Fun K "simplest_above" "simplest_above" s_simplest_above (A "simplest_above") (fd "simplest_above")
  g_simplest : mg "simplest" = some (.ref (A "simplest"))
  u_simplest : Fun K "simplest" "simplest" s_simplest (A "simplest") (fd "simplest")
  g__law_box : mg "_law_box" = some (.ref (A "_law_box"))
  u__law_box : Fun K "_law_box" "_law_box" s__law_box (A "_law_box") (fd "_law_box")
  g__law_take : mg "_law_take" = some (.ref (A "_law_take"))
  u__law_take : Fun K "_law_take" "_law_take" s__law_take (A "_law_take") (fd "_law_take")
  g__law_cells : mg "_law_cells" = some (.ref (A "_law_cells"))
  u__law_cells : Fun K "_law_cells" "_law_cells" s__law_cells (A "_law_cells") (fd "_law_cells")
  g__law_of : mg "_law_of" = some (.ref (A "_law_of"))
  u__law_of : Fun K "_law_of" "_law_of" s__law_of (A "_law_of") (fd "_law_of")
  g__law_same : mg "_law_same" = some (.ref (A "_law_same"))
  u__law_same : Fun K "_law_same" "_law_same" s__law_same (A "_law_same") (fd "_law_same")
  g__law_low : mg "_law_low" = some (.ref (A "_law_low"))
  u__law_low : Fun K "_law_low" "_law_low" s__law_low (A "_law_low") (fd "_law_low")
  g__law_times : mg "_law_times" = some (.ref (A "_law_times"))
  u__law_times : Fun K "_law_times" "_law_times" s__law_times (A "_law_times") (fd "_law_times")
  g__law_unmarked : mg "_law_unmarked" = some (.ref (A "_law_unmarked"))
  u__law_unmarked : Fun K "_law_unmarked" "_law_unmarked" s__law_unmarked (A "_law_unmarked") (fd "_law_unmarked")
  g__law_call : mg "_law_call" = some (.ref (A "_law_call"))
  u__law_call : Fun K "_law_call" "_law_call" s__law_call (A "_law_call") (fd "_law_call")
  g__law_plus : mg "_law_plus" = some (.ref (A "_law_plus"))
  u__law_plus : Fun K "_law_plus" "_law_plus" s__law_plus (A "_law_plus") (fd "_law_plus")
  g__law_heard : mg "_law_heard" = some (.ref (A "_law_heard"))
  u__law_heard : Fun K "_law_heard" "_law_heard" s__law_heard (A "_law_heard") (fd "_law_heard")
  g__law_number : mg "_law_number" = some (.ref (A "_law_number"))
  u__law_number : Fun K "_law_number" "_law_number" s__law_number (A "_law_number") (fd "_law_number")
  g__law_simplest : mg "_law_simplest" = some (.ref (A "_law_simplest"))
  u__law_simplest : Fun K "_law_simplest" "_law_simplest" s__law_simplest (A "_law_simplest") (fd "_law_simplest")
  g_law : mg "law" = some (.ref (A "law"))
  u_law : Fun K "law" "law" s_law (A "law") (fd "law")
theorem kb_simplest_0_one_other {K : PySem.W.Frag} {f : Addr} {fd : FuncData} (U : Fun K "simplest" "simplest" s_simplest f fd) : KBd fd ["one", "other"] 0 ["one", "other"] [0, 1] := by
  obtain ⟨oc, od, kV, doc, pm, an, cdv, ct, osl, rfl, _⟩ := U.ex
  exact fun s us ws hu hw => match us, ws, hu, hw with | [], [_, _], _, _ => .of_eq rfl
theorem kb_middle_0_one_other {K : PySem.W.Frag} {f : Addr} {fd : FuncData} (U : Fun K "middle" "middle" s_middle f fd) : KBd fd ["one", "other"] 0 ["one", "other"] [0, 1] := by
  obtain ⟨oc, od, kV, doc, pm, an, cdv, ct, osl, rfl, _⟩ := U.ex
  exact fun s us ws hu hw => match us, ws, hu, hw with | [], [_, _], _, _ => .of_eq rfl
theorem kb_ceiling_of_0_one {K : PySem.W.Frag} {f : Addr} {fd : FuncData} (U : Fun K "ceiling_of" "ceiling_of" s_ceiling_of f fd) : KBd fd ["one"] 0 ["one"] [0] := by
  obtain ⟨oc, od, kV, doc, pm, an, cdv, ct, osl, rfl, _⟩ := U.ex
  exact fun s us ws hu hw => match us, ws, hu, hw with | [], [_], _, _ => .of_eq rfl
theorem kb_floor_of_0_one {K : PySem.W.Frag} {f : Addr} {fd : FuncData} (U : Fun K "floor_of" "floor_of" s_floor_of f fd) : KBd fd ["one"] 0 ["one"] [0] := by
  obtain ⟨oc, od, kV, doc, pm, an, cdv, ct, osl, rfl, _⟩ := U.ex
  exact fun s us ws hu hw => match us, ws, hu, hw with | [], [_], _, _ => .of_eq rfl
theorem kb_less_than_0_one_other {K : PySem.W.Frag} {f : Addr} {fd : FuncData} (U : Fun K "less_than" "less_than" s_less_than f fd) : KBd fd ["one", "other"] 0 ["one", "other"] [0, 1] := by
  obtain ⟨oc, od, kV, doc, pm, an, cdv, ct, osl, rfl, _⟩ := U.ex
  exact fun s us ws hu hw => match us, ws, hu, hw with | [], [_, _], _, _ => .of_eq rfl
theorem kb_compared_0_one_other {K : PySem.W.Frag} {f : Addr} {fd : FuncData} (U : Fun K "compared" "compared" s_compared f fd) : KBd fd ["one", "other"] 0 ["one", "other"] [0, 1] := by
  obtain ⟨oc, od, kV, doc, pm, an, cdv, ct, osl, rfl, _⟩ := U.ex
  exact fun s us ws hu hw => match us, ws, hu, hw with | [], [_, _], _, _ => .of_eq rfl
theorem kb_over_0_one_other {K : PySem.W.Frag} {f : Addr} {fd : FuncData} (U : Fun K "over" "over" s_over f fd) : KBd fd ["one", "other"] 0 ["one", "other"] [0, 1] := by
  obtain ⟨oc, od, kV, doc, pm, an, cdv, ct, osl, rfl, _⟩ := U.ex
  exact fun s us ws hu hw => match us, ws, hu, hw with | [], [_, _], _, _ => .of_eq rfl
theorem kb_negative_0_one {K : PySem.W.Frag} {f : Addr} {fd : FuncData} (U : Fun K "negative" "negative" s_negative f fd) : KBd fd ["one"] 0 ["one"] [0] := by
  obtain ⟨oc, od, kV, doc, pm, an, cdv, ct, osl, rfl, _⟩ := U.ex
  exact fun s us ws hu hw => match us, ws, hu, hw with | [], [_], _, _ => .of_eq rfl
theorem kb_less_0_one_other {K : PySem.W.Frag} {f : Addr} {fd : FuncData} (U : Fun K "less" "less" s_less f fd) : KBd fd ["one", "other"] 0 ["one", "other"] [0, 1] := by
  obtain ⟨oc, od, kV, doc, pm, an, cdv, ct, osl, rfl, _⟩ := U.ex
  exact fun s us ws hu hw => match us, ws, hu, hw with | [], [_, _], _, _ => .of_eq rfl
theorem kb_added_0_one_other {K : PySem.W.Frag} {f : Addr} {fd : FuncData} (U : Fun K "added" "added" s_added f fd) : KBd fd ["one", "other"] 0 ["one", "other"] [0, 1] := by
  obtain ⟨oc, od, kV, doc, pm, an, cdv, ct, osl, rfl, _⟩ := U.ex
  exact fun s us ws hu hw => match us, ws, hu, hw with | [], [_, _], _, _ => .of_eq rfl
/-! one theorem a def -/
section
variable {P : Program} {w : World} {K : PySem.W.Frag} {mg : Str → Option Value} {base : Heap} {A : Str → Addr} {fd : Str → FuncData}
theorem sc_is_number : FnScope ["thing"] ["thing"] (defScope s_is_number) := ⟨rfl, rfl, rfl, by decide +kernel, rfl, by decide +kernel, by decide +kernel⟩
theorem d_is_number (T : Tx A fd K mg)  : Dfn P w K mg base "is_number" (A "is_number") (fd "is_number") ["thing"] 1 (F_is_number A) :=
  fn_e T.u_is_number sc_is_number T.g_is_number (T.u_is_number.binds (ps := ["thing"]) fun _ _ _ _ _ _ us hl => match us, hl with | [_], _ => rfl) fun cdv AA outer s H E O =>
    (ess_one (es_ret (ee_and (ee_callB cd_isi rfl T.n_isinstance (by decide +kernel) (ea_cons (ee_var 0) (ea_cons (ee_ty .int rfl T.n_int (by decide +kernel)) ea_nil))) (ee_one (ee_not (ee_callB cd_isi rfl T.n_isinstance (by decide +kernel) (ea_cons (ee_var 0) (ea_cons (ee_ty .bool rfl T.n_bool (by decide +kernel)) ea_nil))))))))
theorem sc_is_from : FnScope ["thing", "least"] ["thing", "least"] (defScope s_is_from) := ⟨rfl, rfl, rfl, by decide +kernel, rfl, by decide +kernel, by decide +kernel⟩
theorem d_is_from (T : Tx A fd K mg) (d_is_number : Dfn P w K mg base "is_number" (A "is_number") (fd "is_number") ["thing"] 1 (F_is_number A)) : Dfn P w K mg base "is_from" (A "is_from") (fd "is_from") ["thing", "least"] 2 (F_is_from A) :=
  fn_e T.u_is_from sc_is_from T.g_is_from (T.u_is_from.binds (ps := ["thing", "least"]) fun _ _ _ _ _ _ us hl => match us, hl with | [_, _], _ => rfl) fun cdv AA outer s H E O =>
    (ess_one (es_ret (ee_and (ee_call O.toOkx d_is_number rfl (ea_cons (ee_var 0) ea_nil) ) (ee_one (ee_cmp od_ge (ee_var 0) (ee_var 1) (nomark _))))))
theorem sc_is_long : FnScope ["thing", "length"] ["thing", "length"] (defScope s_is_long) := ⟨rfl, rfl, rfl, by decide +kernel, rfl, by decide +kernel, by decide +kernel⟩
theorem d_is_long (T : Tx A fd K mg)  : Dfn P w K mg base "is_long" (A "is_long") (fd "is_long") ["thing", "length"] 1 (F_is_long A) :=
  fn_e T.u_is_long sc_is_long T.g_is_long (T.u_is_long.binds (ps := ["thing", "length"]) fun _ _ _ _ _ _ us hl => match us, hl with | [_, _], _ => rfl) fun cdv AA outer s H E O =>
    (ess_one (es_ret (ee_and (ee_callB cd_isi rfl T.n_isinstance (by decide +kernel) (ea_cons (ee_var 0) (ea_cons (ee_ty .tuple rfl T.n_tuple (by decide +kernel)) ea_nil))) (ee_one (ee_cmp (od_eq O.toOkx.room.units) (ee_callB cd_len rfl T.n_len (by decide +kernel) (ea_cons (ee_var 0) ea_nil)) (ee_var 1) (nomark _))))))
theorem sc_tupled : FnScope ["value", "own"] ["value"] (defScope s_tupled) := ⟨rfl, rfl, rfl, by decide +kernel, rfl, by decide +kernel, by decide +kernel⟩
theorem d_tupled (T : Tx A fd K mg)  : ∀ n, Dfn P w K mg base "tupled" (A "tupled") (fd "tupled") ["value"] (0 + n) (F_tupled A n)
  | 0 => dfn_no T.u_tupled T.g_tupled (T.u_tupled.binds (ps := ["value"]) fun _ _ _ _ _ _ us hl => match us, hl with | [_], _ => rfl)
  | n + 1 => by
    have dR := d_tupled T  n
    exact fn_e T.u_tupled sc_tupled T.g_tupled (T.u_tupled.binds (ps := ["value"]) fun _ _ _ _ _ _ us hl => match us, hl with | [_], _ => rfl) fun cdv AA outer s H E O =>
    (ess_one (es_ret (ee_if (et_truth (ee_callB cd_isi rfl T.n_isinstance (by decide +kernel) (ea_cons (ee_var 0) (ea_cons (ee_tup (ea_cons (ee_ty .list rfl T.n_list (by decide +kernel)) (ea_cons (ee_ty .tuple rfl T.n_tuple (by decide +kernel)) ea_nil))) ea_nil)))) (ee_callTy cd_tuple rfl T.n_tuple (by decide +kernel) (ea_cons (ee_lc [("own", 1)] O.toOkx.calm O.toOkx.nd (ei_of (ee_var 0)) (by first | rfl | kernel_rfl) (fun s H C cl fp => (en_name 1 (okx_blk O.toOkx).nd)) (fun s H C cl fp => ets_nil) (fun s H C cl fp => (ee_call (okx_blk O.toOkx) dR rfl (ea_cons (ee_var 1) ea_nil) (hj := Nat.le_refl _)))) ea_nil)) (ee_var 0))))
theorem sc_divisor : FnScope ["numbers", "found", "own"] ["numbers"] (defScope s_divisor) := ⟨rfl, rfl, rfl, by decide +kernel, rfl, by decide +kernel, by decide +kernel⟩
theorem d_divisor (T : Tx A fd K mg)  : Dfn P w K mg base "divisor" (A "divisor") (fd "divisor") ["numbers"] 1 (F_divisor A) :=
  fn_e T.u_divisor sc_divisor T.g_divisor (T.u_divisor.binds (ps := ["numbers"]) fun _ _ _ _ _ _ us hl => match us, hl with | [_], _ => rfl) fun cdv AA outer s H E O =>
    (ess_cons (es_set 1 O.toOkx.nd ee_int)
    (ess_cons (es_for O.po O.toOkx.calm (ei_of (ee_var 0)) (en_name 2 O.toOkx.nd) (ess_one (es_set 1 O.toOkx.nd (ee_callF cd_gcd rfl T.b_gcd (ea_cons (ee_var 1) (ea_cons (ee_var 2) ea_nil))))))
    (ess_one (es_ret (ee_var 1)))))
theorem sc_is_fraction : FnScope ["thing"] ["thing"] (defScope s_is_fraction) := ⟨rfl, rfl, rfl, by decide +kernel, rfl, by decide +kernel, by decide +kernel⟩
theorem d_is_fraction (T : Tx A fd K mg) (d_divisor : Dfn P w K mg base "divisor" (A "divisor") (fd "divisor") ["numbers"] 1 (F_divisor A)) (d_is_long : Dfn P w K mg base "is_long" (A "is_long") (fd "is_long") ["thing", "length"] 1 (F_is_long A)) (d_is_number : Dfn P w K mg base "is_number" (A "is_number") (fd "is_number") ["thing"] 1 (F_is_number A)) (d_is_from : Dfn P w K mg base "is_from" (A "is_from") (fd "is_from") ["thing", "least"] 2 (F_is_from A)) : Dfn P w K mg base "is_fraction" (A "is_fraction") (fd "is_fraction") ["thing"] 3 (F_is_fraction A) :=
  fn_e T.u_is_fraction sc_is_fraction T.g_is_fraction (T.u_is_fraction.binds (ps := ["thing"]) fun _ _ _ _ _ _ us hl => match us, hl with | [_], _ => rfl) fun cdv AA outer s H E O =>
    (ess_cons (es_if (EW.et (ew_or (et_not (et_truth (ee_call O.toOkx d_is_long rfl (ea_cons (ee_var 0) (ea_cons ee_int ea_nil)) ))) (ew_or (et_not (et_truth (ee_call O.toOkx d_is_number rfl (ea_cons (ee_ix (ee_var 0) ee_int) ea_nil) ))) (ew_or1 (et_not (et_truth (ee_call O.toOkx d_is_from rfl (ea_cons (ee_ix (ee_var 0) ee_int) (ea_cons ee_int ea_nil)) ))))))) (ess_one (es_ret ee_bl)) ess_nil)
    (ess_one (es_ret (ee_cmp (od_eq O.toOkx.room.units) (ee_call O.toOkx d_divisor rfl (ea_cons (ee_var 0) ea_nil) ) ee_int (nomark _)))))
theorem sc_sure_fraction : FnScope ["one", "own"] ["one"] (defScope s_sure_fraction) := ⟨rfl, rfl, rfl, by decide +kernel, rfl, by decide +kernel, by decide +kernel⟩
theorem d_sure_fraction (T : Tx A fd K mg) (d_is_fraction : Dfn P w K mg base "is_fraction" (A "is_fraction") (fd "is_fraction") ["thing"] 3 (F_is_fraction A)) (d_tupled : Dfn P w K mg base "tupled" (A "tupled") (fd "tupled") ["value"] 4 (F_tupled A 4)) : Dfn P w K mg base "sure_fraction" (A "sure_fraction") (fd "sure_fraction") ["one"] 5 (F_sure_fraction A) :=
  fn_e T.u_sure_fraction sc_sure_fraction T.g_sure_fraction (T.u_sure_fraction.binds (ps := ["one"]) fun _ _ _ _ _ _ us hl => match us, hl with | [_], _ => rfl) fun cdv AA outer s H E O =>
    (ess_cons (es_set 1 O.toOkx.nd (ee_call O.toOkx d_tupled rfl (ea_cons (ee_var 0) ea_nil) ))
    (ess_cons (es_if (et_not (et_truth (ee_call O.toOkx d_is_fraction rfl (ea_cons (ee_var 1) ea_nil) ))) (ess_one (es_raise O.toOkx T.x_Unfit)) ess_nil)
    (ess_one (es_ret (ee_var 1)))))
theorem sc_made : FnScope ["above", "below", "by"] ["above", "below"] (defScope s_made) := ⟨rfl, rfl, rfl, by decide +kernel, rfl, by decide +kernel, by decide +kernel⟩
theorem d_made (T : Tx A fd K mg) (d_divisor : Dfn P w K mg base "divisor" (A "divisor") (fd "divisor") ["numbers"] 1 (F_divisor A)) : Dfn P w K mg base "made" (A "made") (fd "made") ["above", "below"] 2 (F_made A) :=
  fn_e T.u_made sc_made T.g_made (T.u_made.binds (ps := ["above", "below"]) fun _ _ _ _ _ _ us hl => match us, hl with | [_, _], _ => rfl) fun cdv AA outer s H E O =>
    (ess_cons (es_set 2 O.toOkx.nd (ee_call O.toOkx d_divisor rfl (ea_cons (ee_tup (ea_cons (ee_var 0) (ea_cons (ee_var 1) ea_nil))) ea_nil) ))
    (ess_one (es_ret (ee_if (et_cmp od_gt (ee_var 1) ee_int (nomark _)) (ee_tup (ea_cons (ee_op od_div (ee_var 0) (ee_var 2)) (ea_cons (ee_op od_div (ee_var 1) (ee_var 2)) ea_nil))) (ee_tup (ea_cons (ee_op od_div (ee_neg (ee_var 0)) (ee_var 2)) (ea_cons (ee_op od_div (ee_neg (ee_var 1)) (ee_var 2)) ea_nil)))))))
theorem sc_fraction : FnScope ["above", "below"] ["above", "below"] (defScope s_fraction) := ⟨rfl, rfl, rfl, by decide +kernel, rfl, by decide +kernel, by decide +kernel⟩
theorem d_fraction (T : Tx A fd K mg) (d_made : Dfn P w K mg base "made" (A "made") (fd "made") ["above", "below"] 2 (F_made A)) : Dfn P w K mg base "fraction" (A "fraction") (fd "fraction") ["above", "below"] 3 (F_fraction A) :=
  fn_e T.u_fraction sc_fraction T.g_fraction (T.u_fraction.binds (ps := ["above", "below"]) fun _ _ _ _ _ _ us hl => match us, hl with | [_, _], _ => rfl) fun cdv AA outer s H E O =>
    (ess_cons (es_if (et_cmp (od_eq O.toOkx.room.units) (ee_var 1) ee_int (nomark _)) (ess_one (es_raise O.toOkx T.x_Unfit)) ess_nil)
    (ess_one (es_ret (ee_call O.toOkx d_made rfl (ea_cons (ee_var 0) (ea_cons (ee_var 1) ea_nil)) ))))
theorem sc_two : FnScope ["one", "other"] ["one", "other"] (defScope s_two) := ⟨rfl, rfl, rfl, by decide +kernel, rfl, by decide +kernel, by decide +kernel⟩
theorem d_two (T : Tx A fd K mg) (d_sure_fraction : Dfn P w K mg base "sure_fraction" (A "sure_fraction") (fd "sure_fraction") ["one"] 5 (F_sure_fraction A)) : Dfn P w K mg base "two" (A "two") (fd "two") ["one", "other"] 6 (F_two A) :=
  fn_e T.u_two sc_two T.g_two (T.u_two.binds (ps := ["one", "other"]) fun _ _ _ _ _ _ us hl => match us, hl with | [_, _], _ => rfl) fun cdv AA outer s H E O =>
    (ess_one (es_ret (ee_tup (ea_cons (ee_call O.toOkx d_sure_fraction rfl (ea_cons (ee_var 0) ea_nil) ) (ea_cons (ee_call O.toOkx d_sure_fraction rfl (ea_cons (ee_var 1) ea_nil) ) ea_nil)))))
theorem sc_added : FnScope ["one", "other", "a", "b", "c", "d"] ["one", "other"] (defScope s_added) := ⟨rfl, rfl, rfl, by decide +kernel, rfl, by decide +kernel, by decide +kernel⟩
theorem d_added (T : Tx A fd K mg) (d_made : Dfn P w K mg base "made" (A "made") (fd "made") ["above", "below"] 2 (F_made A)) (d_two : Dfn P w K mg base "two" (A "two") (fd "two") ["one", "other"] 6 (F_two A)) : Dfn P w K mg base "added" (A "added") (fd "added") ["one", "other"] 7 (F_added A) :=
  fn_e T.u_added sc_added T.g_added (T.u_added.binds (ps := ["one", "other"]) fun _ _ _ _ _ _ us hl => match us, hl with | [_, _], _ => rfl) fun cdv AA outer s H E O =>
    (ess_cons (es_nt (ee_call O.toOkx d_two rfl (ea_cons (ee_var 0) (ea_cons (ee_var 1) ea_nil)) ) (en_tup O.toOkx.calm (ens_cons (en_tup O.toOkx.calm (ens_cons (en_name 2 O.toOkx.nd) (ens_cons (en_name 3 O.toOkx.nd) ens_nil))) (ens_cons (en_tup O.toOkx.calm (ens_cons (en_name 4 O.toOkx.nd) (ens_cons (en_name 5 O.toOkx.nd) ens_nil))) ens_nil))))
    (ess_one (es_ret (ee_call O.toOkx d_made rfl (ea_cons (ee_op od_add (ee_op od_mul0 (ee_var 2) (ee_var 5)) (ee_op od_mul0 (ee_var 4) (ee_var 3))) (ea_cons (ee_op od_mul0 (ee_var 3) (ee_var 5)) ea_nil)) ))))
theorem sc_negative : FnScope ["one", "a", "b"] ["one"] (defScope s_negative) := ⟨rfl, rfl, rfl, by decide +kernel, rfl, by decide +kernel, by decide +kernel⟩
theorem d_negative (T : Tx A fd K mg) (d_sure_fraction : Dfn P w K mg base "sure_fraction" (A "sure_fraction") (fd "sure_fraction") ["one"] 5 (F_sure_fraction A)) : Dfn P w K mg base "negative" (A "negative") (fd "negative") ["one"] 6 (F_negative A) :=
  fn_e T.u_negative sc_negative T.g_negative (T.u_negative.binds (ps := ["one"]) fun _ _ _ _ _ _ us hl => match us, hl with | [_], _ => rfl) fun cdv AA outer s H E O =>
    (ess_cons (es_nt (ee_call O.toOkx d_sure_fraction rfl (ea_cons (ee_var 0) ea_nil) ) (en_tup O.toOkx.calm (ens_cons (en_name 1 O.toOkx.nd) (ens_cons (en_name 2 O.toOkx.nd) ens_nil))))
    (ess_one (es_ret (ee_tup (ea_cons (ee_neg (ee_var 1)) (ea_cons (ee_var 2) ea_nil))))))
theorem sc_less : FnScope ["one", "other", "a", "b", "c", "d"] ["one", "other"] (defScope s_less) := ⟨rfl, rfl, rfl, by decide +kernel, rfl, by decide +kernel, by decide +kernel⟩
theorem d_less (T : Tx A fd K mg) (d_made : Dfn P w K mg base "made" (A "made") (fd "made") ["above", "below"] 2 (F_made A)) (d_two : Dfn P w K mg base "two" (A "two") (fd "two") ["one", "other"] 6 (F_two A)) : Dfn P w K mg base "less" (A "less") (fd "less") ["one", "other"] 7 (F_less A) :=
  fn_e T.u_less sc_less T.g_less (T.u_less.binds (ps := ["one", "other"]) fun _ _ _ _ _ _ us hl => match us, hl with | [_, _], _ => rfl) fun cdv AA outer s H E O =>
    (ess_cons (es_nt (ee_call O.toOkx d_two rfl (ea_cons (ee_var 0) (ea_cons (ee_var 1) ea_nil)) ) (en_tup O.toOkx.calm (ens_cons (en_tup O.toOkx.calm (ens_cons (en_name 2 O.toOkx.nd) (ens_cons (en_name 3 O.toOkx.nd) ens_nil))) (ens_cons (en_tup O.toOkx.calm (ens_cons (en_name 4 O.toOkx.nd) (ens_cons (en_name 5 O.toOkx.nd) ens_nil))) ens_nil))))
    (ess_one (es_ret (ee_call O.toOkx d_made rfl (ea_cons (ee_op od_sub (ee_op od_mul0 (ee_var 2) (ee_var 5)) (ee_op od_mul0 (ee_var 4) (ee_var 3))) (ea_cons (ee_op od_mul0 (ee_var 3) (ee_var 5)) ea_nil)) ))))
theorem sc_times : FnScope ["one", "other", "a", "b", "c", "d"] ["one", "other"] (defScope s_times) := ⟨rfl, rfl, rfl, by decide +kernel, rfl, by decide +kernel, by decide +kernel⟩
theorem d_times (T : Tx A fd K mg) (d_made : Dfn P w K mg base "made" (A "made") (fd "made") ["above", "below"] 2 (F_made A)) (d_two : Dfn P w K mg base "two" (A "two") (fd "two") ["one", "other"] 6 (F_two A)) : Dfn P w K mg base "times" (A "times") (fd "times") ["one", "other"] 7 (F_times A) :=
  fn_e T.u_times sc_times T.g_times (T.u_times.binds (ps := ["one", "other"]) fun _ _ _ _ _ _ us hl => match us, hl with | [_, _], _ => rfl) fun cdv AA outer s H E O =>
    (ess_cons (es_nt (ee_call O.toOkx d_two rfl (ea_cons (ee_var 0) (ea_cons (ee_var 1) ea_nil)) ) (en_tup O.toOkx.calm (ens_cons (en_tup O.toOkx.calm (ens_cons (en_name 2 O.toOkx.nd) (ens_cons (en_name 3 O.toOkx.nd) ens_nil))) (ens_cons (en_tup O.toOkx.calm (ens_cons (en_name 4 O.toOkx.nd) (ens_cons (en_name 5 O.toOkx.nd) ens_nil))) ens_nil))))
    (ess_one (es_ret (ee_call O.toOkx d_made rfl (ea_cons (ee_op od_mul0 (ee_var 2) (ee_var 4)) (ea_cons (ee_op od_mul0 (ee_var 3) (ee_var 5)) ea_nil)) ))))
theorem sc_over : FnScope ["one", "other", "a", "b", "c", "d"] ["one", "other"] (defScope s_over) := ⟨rfl, rfl, rfl, by decide +kernel, rfl, by decide +kernel, by decide +kernel⟩
theorem d_over (T : Tx A fd K mg) (d_made : Dfn P w K mg base "made" (A "made") (fd "made") ["above", "below"] 2 (F_made A)) (d_two : Dfn P w K mg base "two" (A "two") (fd "two") ["one", "other"] 6 (F_two A)) : Dfn P w K mg base "over" (A "over") (fd "over") ["one", "other"] 7 (F_over A) :=
  fn_e T.u_over sc_over T.g_over (T.u_over.binds (ps := ["one", "other"]) fun _ _ _ _ _ _ us hl => match us, hl with | [_, _], _ => rfl) fun cdv AA outer s H E O =>
    (ess_cons (es_nt (ee_call O.toOkx d_two rfl (ea_cons (ee_var 0) (ea_cons (ee_var 1) ea_nil)) ) (en_tup O.toOkx.calm (ens_cons (en_tup O.toOkx.calm (ens_cons (en_name 2 O.toOkx.nd) (ens_cons (en_name 3 O.toOkx.nd) ens_nil))) (ens_cons (en_tup O.toOkx.calm (ens_cons (en_name 4 O.toOkx.nd) (ens_cons (en_name 5 O.toOkx.nd) ens_nil))) ens_nil))))
    (ess_cons (es_if (et_cmp (od_eq O.toOkx.room.units) (ee_var 4) ee_int (nomark _)) (ess_one (es_raise O.toOkx T.x_Unfit)) ess_nil)
    (ess_one (es_ret (ee_call O.toOkx d_made rfl (ea_cons (ee_op od_mul0 (ee_var 2) (ee_var 5)) (ea_cons (ee_op od_mul0 (ee_var 3) (ee_var 4)) ea_nil)) )))))
theorem sc_compared : FnScope ["one", "other", "a", "b", "c", "d"] ["one", "other"] (defScope s_compared) := ⟨rfl, rfl, rfl, by decide +kernel, rfl, by decide +kernel, by decide +kernel⟩
theorem d_compared (T : Tx A fd K mg) (d_two : Dfn P w K mg base "two" (A "two") (fd "two") ["one", "other"] 6 (F_two A)) : Dfn P w K mg base "compared" (A "compared") (fd "compared") ["one", "other"] 7 (F_compared A) :=
  fn_e T.u_compared sc_compared T.g_compared (T.u_compared.binds (ps := ["one", "other"]) fun _ _ _ _ _ _ us hl => match us, hl with | [_, _], _ => rfl) fun cdv AA outer s H E O =>
    (ess_cons (es_nt (ee_call O.toOkx d_two rfl (ea_cons (ee_var 0) (ea_cons (ee_var 1) ea_nil)) ) (en_tup O.toOkx.calm (ens_cons (en_tup O.toOkx.calm (ens_cons (en_name 2 O.toOkx.nd) (ens_cons (en_name 3 O.toOkx.nd) ens_nil))) (ens_cons (en_tup O.toOkx.calm (ens_cons (en_name 4 O.toOkx.nd) (ens_cons (en_name 5 O.toOkx.nd) ens_nil))) ens_nil))))
    (ess_one (es_ret (ee_op od_sub (ee_callTy cd_int rfl T.n_int (by decide +kernel) (ea_cons (ee_cmp od_gt (ee_op od_mul0 (ee_var 2) (ee_var 5)) (ee_op od_mul0 (ee_var 4) (ee_var 3)) (nomark _)) ea_nil)) (ee_callTy cd_int rfl T.n_int (by decide +kernel) (ea_cons (ee_cmp od_lt (ee_op od_mul0 (ee_var 2) (ee_var 5)) (ee_op od_mul0 (ee_var 4) (ee_var 3)) (nomark _)) ea_nil))))))
theorem sc_less_than : FnScope ["one", "other"] ["one", "other"] (defScope s_less_than) := ⟨rfl, rfl, rfl, by decide +kernel, rfl, by decide +kernel, by decide +kernel⟩
theorem d_less_than (T : Tx A fd K mg) (d_compared : Dfn P w K mg base "compared" (A "compared") (fd "compared") ["one", "other"] 7 (F_compared A)) : Dfn P w K mg base "less_than" (A "less_than") (fd "less_than") ["one", "other"] 8 (F_less_than A) :=
  fn_e T.u_less_than sc_less_than T.g_less_than (T.u_less_than.binds (ps := ["one", "other"]) fun _ _ _ _ _ _ us hl => match us, hl with | [_, _], _ => rfl) fun cdv AA outer s H E O =>
    (ess_one (es_ret (ee_cmp od_lt (ee_call O.toOkx d_compared rfl (ea_cons (ee_var 0) (ea_cons (ee_var 1) ea_nil)) ) ee_int (nomark _))))
theorem sc_floor_of : FnScope ["one", "a", "b"] ["one"] (defScope s_floor_of) := ⟨rfl, rfl, rfl, by decide +kernel, rfl, by decide +kernel, by decide +kernel⟩
theorem d_floor_of (T : Tx A fd K mg) (d_sure_fraction : Dfn P w K mg base "sure_fraction" (A "sure_fraction") (fd "sure_fraction") ["one"] 5 (F_sure_fraction A)) : Dfn P w K mg base "floor_of" (A "floor_of") (fd "floor_of") ["one"] 6 (F_floor_of A) :=
  fn_e T.u_floor_of sc_floor_of T.g_floor_of (T.u_floor_of.binds (ps := ["one"]) fun _ _ _ _ _ _ us hl => match us, hl with | [_], _ => rfl) fun cdv AA outer s H E O =>
    (ess_cons (es_nt (ee_call O.toOkx d_sure_fraction rfl (ea_cons (ee_var 0) ea_nil) ) (en_tup O.toOkx.calm (ens_cons (en_name 1 O.toOkx.nd) (ens_cons (en_name 2 O.toOkx.nd) ens_nil))))
    (ess_one (es_ret (ee_op od_div (ee_var 1) (ee_var 2)))))
theorem sc_ceiling_of : FnScope ["one", "a", "b"] ["one"] (defScope s_ceiling_of) := ⟨rfl, rfl, rfl, by decide +kernel, rfl, by decide +kernel, by decide +kernel⟩
theorem d_ceiling_of (T : Tx A fd K mg) (d_sure_fraction : Dfn P w K mg base "sure_fraction" (A "sure_fraction") (fd "sure_fraction") ["one"] 5 (F_sure_fraction A)) : Dfn P w K mg base "ceiling_of" (A "ceiling_of") (fd "ceiling_of") ["one"] 6 (F_ceiling_of A) :=
  fn_e T.u_ceiling_of sc_ceiling_of T.g_ceiling_of (T.u_ceiling_of.binds (ps := ["one"]) fun _ _ _ _ _ _ us hl => match us, hl with | [_], _ => rfl) fun cdv AA outer s H E O =>
    (ess_cons (es_nt (ee_call O.toOkx d_sure_fraction rfl (ea_cons (ee_var 0) ea_nil) ) (en_tup O.toOkx.calm (ens_cons (en_name 1 O.toOkx.nd) (ens_cons (en_name 2 O.toOkx.nd) ens_nil))))
    (ess_one (es_ret (ee_neg (ee_op od_div (ee_neg (ee_var 1)) (ee_var 2))))))
theorem sc_middle : FnScope ["one", "other", "a", "b", "c", "d"] ["one", "other"] (defScope s_middle) := ⟨rfl, rfl, rfl, by decide +kernel, rfl, by decide +kernel, by decide +kernel⟩
theorem d_middle (T : Tx A fd K mg) (d_made : Dfn P w K mg base "made" (A "made") (fd "made") ["above", "below"] 2 (F_made A)) (d_two : Dfn P w K mg base "two" (A "two") (fd "two") ["one", "other"] 6 (F_two A)) : Dfn P w K mg base "middle" (A "middle") (fd "middle") ["one", "other"] 7 (F_middle A) :=
  fn_e T.u_middle sc_middle T.g_middle (T.u_middle.binds (ps := ["one", "other"]) fun _ _ _ _ _ _ us hl => match us, hl with | [_, _], _ => rfl) fun cdv AA outer s H E O =>
    (ess_cons (es_nt (ee_call O.toOkx d_two rfl (ea_cons (ee_var 0) (ea_cons (ee_var 1) ea_nil)) ) (en_tup O.toOkx.calm (ens_cons (en_tup O.toOkx.calm (ens_cons (en_name 2 O.toOkx.nd) (ens_cons (en_name 3 O.toOkx.nd) ens_nil))) (ens_cons (en_tup O.toOkx.calm (ens_cons (en_name 4 O.toOkx.nd) (ens_cons (en_name 5 O.toOkx.nd) ens_nil))) ens_nil))))
    (ess_one (es_ret (ee_call O.toOkx d_made rfl (ea_cons (ee_op od_add (ee_op od_mul0 (ee_var 2) (ee_var 5)) (ee_op od_mul0 (ee_var 4) (ee_var 3))) (ea_cons (ee_op od_mul0 (ee_op od_mul0 ee_int (ee_var 3)) (ee_var 5)) ea_nil)) ))))
theorem sc_simplest_above : FnScope ["low", "high", "wholes", "left", "own", "above", "below"] ["low", "high"] (defScope s_simplest_above) := ⟨rfl, rfl, rfl, by decide +kernel, rfl, by decide +kernel, by decide +kernel⟩
theorem d_simplest_above (T : Tx A fd K mg)  : Dfn P w K mg base "simplest_above" (A "simplest_above") (fd "simplest_above") ["low", "high"] 1 (F_simplest_above A) :=
  fn_e T.u_simplest_above sc_simplest_above T.g_simplest_above (T.u_simplest_above.binds (ps := ["low", "high"]) fun _ _ _ _ _ _ us hl => match us, hl with | [_, _], _ => rfl) fun cdv AA outer s H E O =>
    (ess_cons (es_par 2 3 O.toOkx.calm O.toOkx.nd (ea_cons (ee_lst ea_nil) (ea_cons (ee_var 0) ea_nil)))
    (ess_cons (es_while O.po (EW.et (ew_and (et_cmp (od_ne O.toOkx.room.units) (ee_op od_mod (ee_ix (ee_var 3) ee_int) (ee_ix (ee_var 3) ee_int)) ee_int (nomark _)) (ew_and1 (et_cmp od_gt (ee_op od_mul0 (ee_op od_add (ee_op od_div (ee_ix (ee_var 3) ee_int) (ee_ix (ee_var 3) ee_int)) ee_int) (ee_ix (ee_var 1) ee_int)) (ee_ix (ee_var 1) ee_int) (nomark _))))) (ess_cons (es_set 4 O.toOkx.nd (ee_op od_div (ee_ix (ee_var 3) ee_int) (ee_ix (ee_var 3) ee_int)))
     (ess_cons (es_expr (ee_bm PySem.F.slot_list_append PySem.F.type_list_append md_append (ee_var 2) (ea_cons (ee_var 4) ea_nil)))
     (ess_one (es_par 3 1 O.toOkx.calm O.toOkx.nd (ea_cons (ee_tup (ea_cons (ee_ix (ee_var 1) ee_int) (ea_cons (ee_op od_sub (ee_ix (ee_var 1) ee_int) (ee_op od_mul0 (ee_var 4) (ee_ix (ee_var 1) ee_int))) ea_nil))) (ea_cons (ee_tup (ea_cons (ee_ix (ee_var 3) ee_int) (ea_cons (ee_op od_sub (ee_ix (ee_var 3) ee_int) (ee_op od_mul0 (ee_var 4) (ee_ix (ee_var 3) ee_int))) ea_nil))) ea_nil)))))))
    (ess_cons (es_par 5 6 O.toOkx.calm O.toOkx.nd (ea_cons (ee_neg (ee_op od_div (ee_neg (ee_ix (ee_var 3) ee_int)) (ee_ix (ee_var 3) ee_int))) (ea_cons ee_int ea_nil)))
    (ess_cons (es_for O.po O.toOkx.calm (ei_of (ee_rev (ee_var 2))) (en_name 4 O.toOkx.nd) (ess_one (es_par 5 6 O.toOkx.calm O.toOkx.nd (ea_cons (ee_op od_add (ee_op od_mul0 (ee_var 4) (ee_var 5)) (ee_var 6)) (ea_cons (ee_var 5) ea_nil)))))
    (ess_one (es_ret (ee_tup (ea_cons (ee_var 5) (ea_cons (ee_var 6) ea_nil)))))))))
theorem sc_simplest : FnScope ["one", "other", "low", "high", "above", "below"] ["one", "other"] (defScope s_simplest) := ⟨rfl, rfl, rfl, by decide +kernel, rfl, by decide +kernel, by decide +kernel⟩
theorem d_simplest (T : Tx A fd K mg) (d_simplest_above : Dfn P w K mg base "simplest_above" (A "simplest_above") (fd "simplest_above") ["low", "high"] 1 (F_simplest_above A)) (d_compared : Dfn P w K mg base "compared" (A "compared") (fd "compared") ["one", "other"] 7 (F_compared A)) (d_two : Dfn P w K mg base "two" (A "two") (fd "two") ["one", "other"] 6 (F_two A)) : Dfn P w K mg base "simplest" (A "simplest") (fd "simplest") ["one", "other"] 8 (F_simplest A) :=
  fn_e T.u_simplest sc_simplest T.g_simplest (T.u_simplest.binds (ps := ["one", "other"]) fun _ _ _ _ _ _ us hl => match us, hl with | [_, _], _ => rfl) fun cdv AA outer s H E O =>
    (ess_cons (es_nt (ee_call O.toOkx d_two rfl (ea_cons (ee_var 0) (ea_cons (ee_var 1) ea_nil)) ) (en_tup O.toOkx.calm (ens_cons (en_name 2 O.toOkx.nd) (ens_cons (en_name 3 O.toOkx.nd) ens_nil))))
    (ess_cons (es_if (et_cmp od_gt (ee_call O.toOkx d_compared rfl (ea_cons (ee_var 2) (ea_cons (ee_var 3) ea_nil)) ) ee_int (nomark _)) (ess_one (es_raise O.toOkx T.x_Unfit)) ess_nil)
    (ess_cons (es_if (et_chain od_le od_le (ee_ix (ee_var 2) ee_int) ee_int (ee_ix (ee_var 3) ee_int)) (ess_one (es_ret (ee_tup (ea_cons ee_int (ea_cons ee_int ea_nil))))) ess_nil)
    (ess_cons (es_if (et_cmp od_gt (ee_ix (ee_var 2) ee_int) ee_int (nomark _)) (ess_one (es_ret (ee_call O.toOkx d_simplest_above rfl (ea_cons (ee_var 2) (ea_cons (ee_var 3) ea_nil)) ))) ess_nil)
    (ess_cons (es_nt (ee_call O.toOkx d_simplest_above rfl (ea_cons (ee_tup (ea_cons (ee_neg (ee_ix (ee_var 3) ee_int)) (ea_cons (ee_ix (ee_var 3) ee_int) ea_nil))) (ea_cons (ee_tup (ea_cons (ee_neg (ee_ix (ee_var 2) ee_int)) (ea_cons (ee_ix (ee_var 2) ee_int) ea_nil))) ea_nil)) ) (en_tup O.toOkx.calm (ens_cons (en_name 4 O.toOkx.nd) (ens_cons (en_name 5 O.toOkx.nd) ens_nil))))
    (ess_one (es_ret (ee_tup (ea_cons (ee_neg (ee_var 4)) (ea_cons (ee_var 5) ea_nil))))))))))
theorem sc__law_box : FnScope ["script", "k", "bit_so"] ["script", "k"] (defScope s__law_box) := ⟨rfl, rfl, rfl, by decide +kernel, rfl, by decide +kernel, by decide +kernel⟩
theorem d__law_box (T : Tx A fd K mg)  : Dfn P w K mg base "_law_box" (A "_law_box") (fd "_law_box") ["script", "k"] 1 (F__law_box A) :=
  fn_e T.u__law_box sc__law_box T.g__law_box (T.u__law_box.binds (ps := ["script", "k"]) fun _ _ _ _ _ _ us hl => match us, hl with | [_, _], _ => rfl) fun cdv AA outer s H E O =>
    (ess_cons (es_set 2 O.toOkx.nd (ee_if (et_cmp od_lt (ee_var 1) (ee_callB cd_len rfl T.n_len (by decide +kernel) (ea_cons (ee_var 0) ea_nil)) (nomark _)) (ee_ix (ee_var 0) (ee_var 1)) ee_int))
    (ess_one (es_ret (ee_lst (ea_cons (ee_op od_mul0 (ee_callB cd_abs rfl T.n_abs (by decide +kernel) (ea_cons (ee_var 2) ea_nil)) (ee_callTy cd_int rfl T.n_int (by decide +kernel) (ea_cons (ee_cmp od_ge (ee_callB cd_abs rfl T.n_abs (by decide +kernel) (ea_cons (ee_var 2) ea_nil)) (ee_op od_pow ee_int ee_int) (nomark _)) ea_nil))) (ea_cons (ee_op od_add (ee_op od_add (ee_op od_mod (ee_callTy cd_int rfl T.n_int (by decide +kernel) (ea_cons (ee_var 2) ea_nil)) ee_int) (ee_op od_mul0 ee_int (ee_var 1))) ee_int) (ea_cons ee_int ea_nil)))))))
theorem sc__law_take : FnScope ["tin", "below_so", "drawn", "once_so", "wide_so", "twice_so"] ["tin", "below_so"] (defScope s__law_take) := ⟨rfl, rfl, rfl, by decide +kernel, rfl, by decide +kernel, by decide +kernel⟩
theorem d__law_take (T : Tx A fd K mg)  : Dfn P w K mg base "_law_take" (A "_law_take") (fd "_law_take") ["tin", "below_so"] 1 (F__law_take A) :=
  fn_e T.u__law_take sc__law_take T.g__law_take (T.u__law_take.binds (ps := ["tin", "below_so"]) fun _ _ _ _ _ _ us hl => match us, hl with | [_, _], _ => rfl) fun cdv AA outer s H E O =>
    (ess_cons (es_if (et_cmp od_gt (ee_ix (ee_var 0) ee_int) ee_int (nomark _)) (ess_cons (es_set 2 O.toOkx.nd (ee_op od_mod (ee_callTy cd_int rfl T.n_int (by decide +kernel) (ea_cons (ee_ix (ee_var 0) ee_int) ea_nil)) (ee_var 1)))
     (ess_cons (es_sub (ee_op od_div (ee_ix (ee_var 0) ee_int) (ee_var 1)) (ee_var 0) ee_int)
     (ess_one (es_ret (ee_var 2))))) ess_nil)
    (ess_cons (es_sub (ee_op od_add (ee_ix (ee_var 0) ee_int) ee_int) (ee_var 0) ee_int)
    (ess_cons (es_set 3 O.toOkx.nd (ee_op od_mod (ee_callTy cd_int rfl T.n_int (by decide +kernel) (ea_cons (ee_op od_mul0 (ee_op od_add (ee_ix (ee_var 0) ee_int) (ee_op od_mul0 ee_int (ee_ix (ee_var 0) ee_int))) (ee_op od_add ee_int (ee_ix (ee_var 0) ee_int))) ea_nil)) ee_int))
    (ess_cons (es_set 4 O.toOkx.nd (ee_op od_add (ee_op od_mod (ee_callTy cd_int rfl T.n_int (by decide +kernel) (ea_cons (ee_var 3) ea_nil)) ee_int) ee_int))
    (ess_cons (es_set 5 O.toOkx.nd (ee_op od_mod (ee_callTy cd_int rfl T.n_int (by decide +kernel) (ea_cons (ee_op od_mul0 (ee_op od_add (ee_op od_add (ee_var 3) (ee_ix (ee_var 0) ee_int)) (ee_op od_div (ee_ix (ee_var 0) ee_int) ee_int)) (ee_var 4)) ea_nil)) ee_int))
    (ess_one (es_ret (ee_op od_mod (ee_callTy cd_int rfl T.n_int (by decide +kernel) (ea_cons (ee_op od_div (ee_op od_mod (ee_callTy cd_int rfl T.n_int (by decide +kernel) (ea_cons (ee_op od_add (ee_op od_mul0 (ee_var 5) ee_int) (ee_var 3)) ea_nil)) ee_int) ee_int) ea_nil)) (ee_var 1)))))))))
theorem sc__law_cells : FnScope ["script", "most_so", "cells_so", "k", "bit_so", "at_so"] ["script", "most_so"] (defScope s__law_cells) := ⟨rfl, rfl, rfl, by decide +kernel, rfl, by decide +kernel, by decide +kernel⟩
theorem d__law_cells (T : Tx A fd K mg)  : Dfn P w K mg base "_law_cells" (A "_law_cells") (fd "_law_cells") ["script", "most_so"] 1 (F__law_cells A) :=
  fn_e T.u__law_cells sc__law_cells T.g__law_cells (T.u__law_cells.binds (ps := ["script", "most_so"]) fun _ _ _ _ _ _ us hl => match us, hl with | [_, _], _ => rfl) fun cdv AA outer s H E O =>
    (ess_cons (es_set 2 O.toOkx.nd (ee_or (ee_callTy cd_list rfl T.n_list (by decide +kernel) (ea_cons (ee_sl (ee_var 0) eo_none (eo_some (ee_var 1))) ea_nil)) (ee_one (ee_lst (ea_cons ee_int ea_nil)))))
    (ess_cons (es_for O.po O.toOkx.calm (ei_enum rfl T.n_enumerate (ea_cons (ee_sl (ee_var 0) (eo_some (ee_var 1)) (eo_some ee_int)) ea_nil)) (en_tup O.toOkx.calm (ens_cons (en_name 3 O.toOkx.nd) (ens_cons (en_name 4 O.toOkx.nd) ens_nil))) (ess_cons (es_set 5 O.toOkx.nd (ee_op od_mod (ee_callTy cd_int rfl T.n_int (by decide +kernel) (ea_cons (ee_var 3) ea_nil)) (ee_var 1)))
     (ess_one (es_sub (ee_op od_add (ee_ix (ee_var 2) (ee_var 5)) (ee_op od_mul0 (ee_var 4) (ee_op od_add (ee_var 3) ee_int))) (ee_var 2) (ee_var 5)))))
    (ess_one (es_ret (ee_var 2)))))
theorem sc__law_of : FnScope ["tin", "goods_so"] ["tin", "goods_so"] (defScope s__law_of) := ⟨rfl, rfl, rfl, by decide +kernel, rfl, by decide +kernel, by decide +kernel⟩
theorem d__law_of (T : Tx A fd K mg) (d__law_take : Dfn P w K mg base "_law_take" (A "_law_take") (fd "_law_take") ["tin", "below_so"] 1 (F__law_take A)) : Dfn P w K mg base "_law_of" (A "_law_of") (fd "_law_of") ["tin", "goods_so"] 2 (F__law_of A) :=
  fn_e T.u__law_of sc__law_of T.g__law_of (T.u__law_of.binds (ps := ["tin", "goods_so"]) fun _ _ _ _ _ _ us hl => match us, hl with | [_, _], _ => rfl) fun cdv AA outer s H E O =>
    (ess_one (es_ret (ee_ix (ee_var 1) (ee_call O.toOkx d__law_take rfl (ea_cons (ee_var 0) (ea_cons (ee_callB cd_len rfl T.n_len (by decide +kernel) (ea_cons (ee_var 1) ea_nil)) ea_nil)) ))))
theorem sc__law_same : FnScope ["got", "due", "mine", "its"] ["got", "due"] (defScope s__law_same) := ⟨rfl, rfl, rfl, by decide +kernel, rfl, by decide +kernel, by decide +kernel⟩
theorem d__law_same (T : Tx A fd K mg)  : ∀ n, Dfn P w K mg base "_law_same" (A "_law_same") (fd "_law_same") ["got", "due"] (0 + n) (F__law_same A n)
  | 0 => dfn_no T.u__law_same T.g__law_same (T.u__law_same.binds (ps := ["got", "due"]) fun _ _ _ _ _ _ us hl => match us, hl with | [_, _], _ => rfl)
  | n + 1 => by
    have dR := d__law_same T  n
    exact fn_e T.u__law_same sc__law_same T.g__law_same (T.u__law_same.binds (ps := ["got", "due"]) fun _ _ _ _ _ _ us hl => match us, hl with | [_, _], _ => rfl) fun cdv AA outer s H E O =>
    (ess_cons (es_if (et_truth (ee_callB cd_isi rfl T.n_isinstance (by decide +kernel) (ea_cons (ee_var 1) (ea_cons (ee_tup (ea_cons (ee_ty .list rfl T.n_list (by decide +kernel)) (ea_cons (ee_ty .tuple rfl T.n_tuple (by decide +kernel)) ea_nil))) ea_nil)))) (ess_cons (es_if (EW.et (ew_or (et_cmp (od_ne O.toOkx.room.units) (ee_callB cd_isi rfl T.n_isinstance (by decide +kernel) (ea_cons (ee_var 0) (ea_cons (ee_ty .list rfl T.n_list (by decide +kernel)) ea_nil))) (ee_callB cd_isi rfl T.n_isinstance (by decide +kernel) (ea_cons (ee_var 1) (ea_cons (ee_ty .list rfl T.n_list (by decide +kernel)) ea_nil))) (nomark _)) (ew_or1 (et_cmp (od_ne O.toOkx.room.units) (ee_callB cd_isi rfl T.n_isinstance (by decide +kernel) (ea_cons (ee_var 0) (ea_cons (ee_ty .tuple rfl T.n_tuple (by decide +kernel)) ea_nil))) (ee_callB cd_isi rfl T.n_isinstance (by decide +kernel) (ea_cons (ee_var 1) (ea_cons (ee_ty .tuple rfl T.n_tuple (by decide +kernel)) ea_nil))) (nomark _))))) (ess_one (es_ret ee_bl)) ess_nil)
     (ess_one (es_ret (ee_and (ee_cmp (od_eq O.toOkx.room.units) (ee_callB cd_len rfl T.n_len (by decide +kernel) (ea_cons (ee_var 0) ea_nil)) (ee_callB cd_len rfl T.n_len (by decide +kernel) (ea_cons (ee_var 1) ea_nil)) (nomark _)) (ee_one (ee_callB (cd_all O.toOkx.calm) rfl T.n_all (by decide +kernel) (ea_cons (ee_lc [("mine", 2), ("its", 3)] O.toOkx.calm O.toOkx.nd (ei_zip rfl T.n_zip (ea_cons (ee_var 0) (ea_cons (ee_var 1) ea_nil))) (by first | rfl | kernel_rfl) (fun s H C cl fp => (en_tup (okx_blk O.toOkx).calm (ens_cons (en_name 2 (okx_blk O.toOkx).nd) (ens_cons (en_name 3 (okx_blk O.toOkx).nd) ens_nil)))) (fun s H C cl fp => ets_nil) (fun s H C cl fp => (ee_call (okx_blk O.toOkx) dR rfl (ea_cons (ee_var 2) (ea_cons (ee_var 3) ea_nil)) (hj := Nat.le_refl _)))) ea_nil))))))) ess_nil)
    (ess_cons (es_if (EW.et (ew_or (et_cmp od_is (ee_var 1) ee_non (nomark _)) (ew_or1 (et_truth (ee_callB cd_isi rfl T.n_isinstance (by decide +kernel) (ea_cons (ee_var 1) (ea_cons (ee_tup (ea_cons (ee_ty .bool rfl T.n_bool (by decide +kernel)) (ea_cons (ee_ty .str rfl T.n_str (by decide +kernel)) ea_nil))) ea_nil))))))) (ess_one (es_ret (ee_and (ee_cmp (od_eq O.toOkx.room.units) (ee_var 0) (ee_var 1) (nomark _)) (ee_and (ee_cmp (od_eq O.toOkx.room.units) (ee_callB cd_isi rfl T.n_isinstance (by decide +kernel) (ea_cons (ee_var 0) (ea_cons (ee_ty .bool rfl T.n_bool (by decide +kernel)) ea_nil))) (ee_callB cd_isi rfl T.n_isinstance (by decide +kernel) (ea_cons (ee_var 1) (ea_cons (ee_ty .bool rfl T.n_bool (by decide +kernel)) ea_nil))) (nomark _)) (ee_one (ee_cmp (od_eq O.toOkx.room.units) (ee_cmp od_is (ee_var 0) ee_non (nomark _)) (ee_cmp od_is (ee_var 1) ee_non (nomark _)) (nomark _))))))) ess_nil)
    (ess_one (es_ret (ee_and (ee_callB cd_isi rfl T.n_isinstance (by decide +kernel) (ea_cons (ee_var 0) (ea_cons (ee_ty .int rfl T.n_int (by decide +kernel)) ea_nil))) (ee_and (ee_not (ee_callB cd_isi rfl T.n_isinstance (by decide +kernel) (ea_cons (ee_var 0) (ea_cons (ee_ty .bool rfl T.n_bool (by decide +kernel)) ea_nil)))) (ee_one (ee_cmp (od_eq O.toOkx.room.units) (ee_var 0) (ee_var 1) (nomark _)))))))))
theorem sc__law_low : FnScope ["above", "below", "one", "two_v", "sign_so"] ["above", "below"] (defScope s__law_low) := ⟨rfl, rfl, rfl, by decide +kernel, rfl, by decide +kernel, by decide +kernel⟩
theorem d__law_low (T : Tx A fd K mg)  : Dfn P w K mg base "_law_low" (A "_law_low") (fd "_law_low") ["above", "below"] 1 (F__law_low A) :=
  fn_e T.u__law_low sc__law_low T.g__law_low (T.u__law_low.binds (ps := ["above", "below"]) fun _ _ _ _ _ _ us hl => match us, hl with | [_, _], _ => rfl) fun cdv AA outer s H E O =>
    (ess_cons (es_par 2 3 O.toOkx.calm O.toOkx.nd (ea_cons (ee_callB cd_abs rfl T.n_abs (by decide +kernel) (ea_cons (ee_var 0) ea_nil)) (ea_cons (ee_callB cd_abs rfl T.n_abs (by decide +kernel) (ea_cons (ee_var 1) ea_nil)) ea_nil)))
    (ess_cons (es_while O.po (et_cmp od_gt (ee_var 2) ee_int (nomark _)) (ess_one (es_par 2 3 O.toOkx.calm O.toOkx.nd (ea_cons (ee_op od_mod (ee_var 3) (ee_var 2)) (ea_cons (ee_var 2) ea_nil)))))
    (ess_cons (es_set 4 O.toOkx.nd (ee_if (et_cmp od_gt (ee_var 1) ee_int (nomark _)) ee_int (ee_neg ee_int)))
    (ess_one (es_ret (ee_tup (ea_cons (ee_op od_div (ee_op od_mul0 (ee_var 4) (ee_var 0)) (ee_var 3)) (ea_cons (ee_op od_div (ee_op od_mul0 (ee_var 4) (ee_var 1)) (ee_var 3)) ea_nil))))))))
theorem sc__law_times : FnScope ["one_so", "two_v"] ["one_so", "two_v"] (defScope s__law_times) := ⟨rfl, rfl, rfl, by decide +kernel, rfl, by decide +kernel, by decide +kernel⟩
theorem d__law_times (T : Tx A fd K mg) (d__law_low : Dfn P w K mg base "_law_low" (A "_law_low") (fd "_law_low") ["above", "below"] 1 (F__law_low A)) : Dfn P w K mg base "_law_times" (A "_law_times") (fd "_law_times") ["one_so", "two_v"] 2 (F__law_times A) :=
  fn_e T.u__law_times sc__law_times T.g__law_times (T.u__law_times.binds (ps := ["one_so", "two_v"]) fun _ _ _ _ _ _ us hl => match us, hl with | [_, _], _ => rfl) fun cdv AA outer s H E O =>
    (ess_one (es_ret (ee_call O.toOkx d__law_low rfl (ea_cons (ee_op od_mul0 (ee_ix (ee_var 0) ee_int) (ee_ix (ee_var 1) ee_int)) (ea_cons (ee_op od_mul0 (ee_ix (ee_var 0) ee_int) (ee_ix (ee_var 1) ee_int)) ea_nil)) )))
theorem sc__law_unmarked : FnScope ["told_so"] ["told_so"] (defScope s__law_unmarked) := ⟨rfl, rfl, rfl, by decide +kernel, rfl, by decide +kernel, by decide +kernel⟩
theorem d__law_unmarked (T : Tx A fd K mg)  : Dfn P w K mg base "_law_unmarked" (A "_law_unmarked") (fd "_law_unmarked") ["told_so"] 1 (F__law_unmarked A) :=
  fn_e T.u__law_unmarked sc__law_unmarked T.g__law_unmarked (T.u__law_unmarked.binds (ps := ["told_so"]) fun _ _ _ _ _ _ us hl => match us, hl with | [_], _ => rfl) fun cdv AA outer s H E O =>
    (ess_one (es_ret (ee_if (EW.et (ew_and (et_truth (ee_callB cd_isi rfl T.n_isinstance (by decide +kernel) (ea_cons (ee_var 0) (ea_cons (ee_ty .list rfl T.n_list (by decide +kernel)) ea_nil)))) (ew_and (et_cmp od_gt (ee_callB cd_len rfl T.n_len (by decide +kernel) (ea_cons (ee_var 0) ea_nil)) ee_int (nomark _)) (ew_and1 (et_truth (ee_callB cd_isi rfl T.n_isinstance (by decide +kernel) (ea_cons (ee_ix (ee_var 0) ee_int) (ea_cons (ee_ty .str rfl T.n_str (by decide +kernel)) ea_nil)))))))) (ee_lst (ea_cons ee_str (ea_cons ee_str ea_nil))) (ee_var 0))))
theorem sc__law_call : FnScope ["door", "goods_so"] ["door", "goods_so"] (defScope s__law_call) := ⟨rfl, rfl, rfl, by decide +kernel, rfl, by decide +kernel, by decide +kernel⟩
theorem d__law_call (T : Tx A fd K mg)  (hT : HeldAll P w K mg base 8 (tb A)) : Dfn P w K mg base "_law_call" (A "_law_call") (fd "_law_call") ["door", "goods_so"] 9 (F__law_call A) :=
  fn_e T.u__law_call sc__law_call T.g__law_call (T.u__law_call.binds (ps := ["door", "goods_so"]) fun _ _ _ _ _ _ us hl => match us, hl with | [_, _], _ => rfl) fun cdv AA outer s H E O =>
    (ess_cons (es_if (et_cmp od_lt (ee_callB cd_len rfl T.n_len (by decide +kernel) (ea_cons (ee_var 1) ea_nil)) ee_int (nomark _)) (ess_one (es_ret (ee_if (et_cmp (od_eq O.toOkx.room.units) (ee_callB cd_len rfl T.n_len (by decide +kernel) (ea_cons (ee_var 1) ea_nil)) ee_int (nomark _)) (ee_callL 0 O.toOkx hT (ea_cons (ee_ix (ee_var 1) ee_int) ea_nil)) (ee_callL 0 O.toOkx hT (ea_cons (ee_ix (ee_var 1) ee_int) (ea_cons (ee_ix (ee_var 1) ee_int) ea_nil)))))) ess_nil)
    (ess_cons (es_if (et_cmp (od_eq O.toOkx.room.units) (ee_callB cd_len rfl T.n_len (by decide +kernel) (ea_cons (ee_var 1) ea_nil)) ee_int (nomark _)) (ess_one (es_ret (ee_callL 0 O.toOkx hT (ea_cons (ee_ix (ee_var 1) ee_int) (ea_cons (ee_ix (ee_var 1) ee_int) (ea_cons (ee_ix (ee_var 1) ee_int) ea_nil)))))) ess_nil)
    (ess_one (es_ret (ee_callL 0 O.toOkx hT (ea_cons (ee_ix (ee_var 1) ee_int) (ea_cons (ee_ix (ee_var 1) ee_int) (ea_cons (ee_ix (ee_var 1) ee_int) (ea_cons (ee_ix (ee_var 1) ee_int) ea_nil)))))))))
theorem sc__law_plus : FnScope ["one_so", "two_v"] ["one_so", "two_v"] (defScope s__law_plus) := ⟨rfl, rfl, rfl, by decide +kernel, rfl, by decide +kernel, by decide +kernel⟩
theorem d__law_plus (T : Tx A fd K mg) (d__law_low : Dfn P w K mg base "_law_low" (A "_law_low") (fd "_law_low") ["above", "below"] 1 (F__law_low A)) : Dfn P w K mg base "_law_plus" (A "_law_plus") (fd "_law_plus") ["one_so", "two_v"] 2 (F__law_plus A) :=
  fn_e T.u__law_plus sc__law_plus T.g__law_plus (T.u__law_plus.binds (ps := ["one_so", "two_v"]) fun _ _ _ _ _ _ us hl => match us, hl with | [_, _], _ => rfl) fun cdv AA outer s H E O =>
    (ess_one (es_ret (ee_call O.toOkx d__law_low rfl (ea_cons (ee_op od_add (ee_op od_mul0 (ee_ix (ee_var 0) ee_int) (ee_ix (ee_var 1) ee_int)) (ee_op od_mul0 (ee_ix (ee_var 1) ee_int) (ee_ix (ee_var 0) ee_int))) (ea_cons (ee_op od_mul0 (ee_ix (ee_var 0) ee_int) (ee_ix (ee_var 1) ee_int)) ea_nil)) )))
theorem sc__law_heard : FnScope ["door", "goods_so", "caught", "told_so", "error_a"] ["door", "goods_so"] (defScope s__law_heard) := ⟨rfl, rfl, rfl, by decide +kernel, rfl, by decide +kernel, by decide +kernel⟩
theorem d__law_heard (T : Tx A fd K mg) (d__law_unmarked : Dfn P w K mg base "_law_unmarked" (A "_law_unmarked") (fd "_law_unmarked") ["told_so"] 1 (F__law_unmarked A)) (d__law_call : Dfn P w K mg base "_law_call" (A "_law_call") (fd "_law_call") ["door", "goods_so"] 9 (F__law_call A)) : Dfn P w K mg base "_law_heard" (A "_law_heard") (fd "_law_heard") ["door", "goods_so"] 10 (F__law_heard A) :=
  fn_e T.u__law_heard sc__law_heard T.g__law_heard (T.u__law_heard.binds (ps := ["door", "goods_so"]) fun _ _ _ _ _ _ us hl => match us, hl with | [_, _], _ => rfl) fun cdv AA outer s H E O =>
    (ess_cons (es_nt (ee_tup (ea_cons ee_non (ea_cons ee_non ea_nil))) (en_tup O.toOkx.calm (ens_cons (en_name 2 O.toOkx.nd) (ens_cons (en_name 3 O.toOkx.nd) ens_nil))))
    (ess_cons (es_try1 4 2 rfl rfl O.toOkx.nd T.x_Unfit T.c_Unfit T.n_isinstance T.n_ValueError (fun W pn xe tk po =>
     (ess_one (es_set 3 (oks_tr O tk po).toOkx.nd (ee_call (oks_tr O tk po).toOkx d__law_unmarked rfl (ea_cons (ee_call (oks_tr O tk po).toOkx d__law_call rfl (ea_cons (ee_var 0) (ea_cons (ee_var 1) ea_nil)) ) ea_nil) )))))
    (ess_one (es_ret (ee_if (et_cmp od_is (ee_var 2) ee_non (nomark _)) (ee_var 3) (ee_var 2))))))
theorem sc__law_number : FnScope ["tin", "great_so"] ["tin"] (defScope s__law_number) := ⟨rfl, rfl, rfl, by decide +kernel, rfl, by decide +kernel, by decide +kernel⟩
theorem d__law_number (T : Tx A fd K mg) (d_fraction : Dfn P w K mg base "fraction" (A "fraction") (fd "fraction") ["above", "below"] 3 (F_fraction A)) (d__law_take : Dfn P w K mg base "_law_take" (A "_law_take") (fd "_law_take") ["tin", "below_so"] 1 (F__law_take A)) (d__law_of : Dfn P w K mg base "_law_of" (A "_law_of") (fd "_law_of") ["tin", "goods_so"] 2 (F__law_of A)) : Dfn P w K mg base "_law_number" (A "_law_number") (fd "_law_number") ["tin"] 4 (F__law_number A) :=
  fn_e T.u__law_number sc__law_number T.g__law_number (T.u__law_number.binds (ps := ["tin"]) fun _ _ _ _ _ _ us hl => match us, hl with | [_], _ => rfl) fun cdv AA outer s H E O =>
    (ess_cons (es_set 1 O.toOkx.nd (ee_call O.toOkx d__law_of rfl (ea_cons (ee_var 0) (ea_cons (ee_lst (ea_cons ee_int (ea_cons ee_int (ea_cons ee_int (ea_cons (ee_op od_pow ee_int ee_int) ea_nil))))) ea_nil)) ))
    (ess_one (es_ret (ee_call O.toOkx d_fraction rfl (ea_cons (ee_op od_sub (ee_call O.toOkx d__law_take rfl (ea_cons (ee_var 0) (ea_cons (ee_op od_mul0 ee_int (ee_var 1)) ea_nil)) ) (ee_var 1)) (ea_cons (ee_op od_add ee_int (ee_call O.toOkx d__law_take rfl (ea_cons (ee_var 0) (ea_cons (ee_var 1) ea_nil)) )) ea_nil)) ))))
theorem sc__law_simplest : FnScope ["one", "duo_so", "below", "low", "high", "above"] ["one", "duo_so"] (defScope s__law_simplest) := ⟨rfl, rfl, rfl, by decide +kernel, rfl, by decide +kernel, by decide +kernel⟩
theorem d__law_simplest (T : Tx A fd K mg) (d__law_low : Dfn P w K mg base "_law_low" (A "_law_low") (fd "_law_low") ["above", "below"] 1 (F__law_low A)) : Dfn P w K mg base "_law_simplest" (A "_law_simplest") (fd "_law_simplest") ["one", "duo_so"] 2 (F__law_simplest A) :=
  fn_e T.u__law_simplest sc__law_simplest T.g__law_simplest (T.u__law_simplest.binds (ps := ["one", "duo_so"]) fun _ _ _ _ _ _ us hl => match us, hl with | [_, _], _ => rfl) fun cdv AA outer s H E O =>
    (ess_cons (es_set 2 O.toOkx.nd ee_int)
    (ess_one (es_while O.po (et_truth ee_bl) (ess_cons (es_par 3 4 O.toOkx.calm O.toOkx.nd (ea_cons (ee_op od_sub ee_int (ee_op od_div (ee_op od_sub ee_int (ee_op od_mul0 (ee_ix (ee_var 0) ee_int) (ee_var 2))) (ee_ix (ee_var 0) ee_int))) (ea_cons (ee_op od_div (ee_op od_mul0 (ee_ix (ee_var 1) ee_int) (ee_var 2)) (ee_ix (ee_var 1) ee_int)) ea_nil)))
     (ess_cons (es_if (et_cmp od_le (ee_var 3) (ee_var 4) (nomark _)) (ess_cons (es_set 5 O.toOkx.nd (ee_if (et_cmp od_gt (ee_var 3) ee_int (nomark _)) (ee_var 3) (ee_if (et_cmp od_lt (ee_var 4) ee_int (nomark _)) (ee_var 4) ee_int)))
      (ess_one (es_ret (ee_call O.toOkx d__law_low rfl (ea_cons (ee_var 5) (ea_cons (ee_var 2) ea_nil)) )))) ess_nil)
     (ess_one (es_set 2 O.toOkx.nd (ee_op od_add (ee_var 2) ee_int))))))))
theorem sc_law : FnScope ["script", "tin", "lap", "a", "b", "c", "got", "due", "sign_so", "near", "far", "low", "high", "told_so", "wide_so", "own"] ["script"] (defScope s_law) := ⟨rfl, rfl, rfl, by decide +kernel, rfl, by decide +kernel, by decide +kernel⟩
theorem d_law (T : Tx A fd K mg) (d__law_same : Dfn P w K mg base "_law_same" (A "_law_same") (fd "_law_same") ["got", "due"] 5 (F__law_same A 5)) (d__law_heard : Dfn P w K mg base "_law_heard" (A "_law_heard") (fd "_law_heard") ["door", "goods_so"] 10 (F__law_heard A)) (d_ceiling_of : Dfn P w K mg base "ceiling_of" (A "ceiling_of") (fd "ceiling_of") ["one"] 6 (F_ceiling_of A)) (d_floor_of : Dfn P w K mg base "floor_of" (A "floor_of") (fd "floor_of") ["one"] 6 (F_floor_of A)) (d_fraction : Dfn P w K mg base "fraction" (A "fraction") (fd "fraction") ["above", "below"] 3 (F_fraction A)) (d_less_than : Dfn P w K mg base "less_than" (A "less_than") (fd "less_than") ["one", "other"] 8 (F_less_than A)) (d_simplest : Dfn P w K mg base "simplest" (A "simplest") (fd "simplest") ["one", "other"] 8 (F_simplest A)) (d__law_simplest : Dfn P w K mg base "_law_simplest" (A "_law_simplest") (fd "_law_simplest") ["one", "duo_so"] 2 (F__law_simplest A)) (d_negative : Dfn P w K mg base "negative" (A "negative") (fd "negative") ["one"] 6 (F_negative A)) (d__law_take : Dfn P w K mg base "_law_take" (A "_law_take") (fd "_law_take") ["tin", "below_so"] 1 (F__law_take A)) (d_compared : Dfn P w K mg base "compared" (A "compared") (fd "compared") ["one", "other"] 7 (F_compared A)) (d_times : Dfn P w K mg base "times" (A "times") (fd "times") ["one", "other"] 7 (F_times A)) (d__law_times : Dfn P w K mg base "_law_times" (A "_law_times") (fd "_law_times") ["one_so", "two_v"] 2 (F__law_times A)) (d__law_plus : Dfn P w K mg base "_law_plus" (A "_law_plus") (fd "_law_plus") ["one_so", "two_v"] 2 (F__law_plus A)) (d_middle : Dfn P w K mg base "middle" (A "middle") (fd "middle") ["one", "other"] 7 (F_middle A)) (d_added : Dfn P w K mg base "added" (A "added") (fd "added") ["one", "other"] 7 (F_added A)) (d_over : Dfn P w K mg base "over" (A "over") (fd "over") ["one", "other"] 7 (F_over A)) (d_is_fraction : Dfn P w K mg base "is_fraction" (A "is_fraction") (fd "is_fraction") ["thing"] 3 (F_is_fraction A)) (d_less : Dfn P w K mg base "less" (A "less") (fd "less") ["one", "other"] 7 (F_less A)) (d__law_number : Dfn P w K mg base "_law_number" (A "_law_number") (fd "_law_number") ["tin"] 4 (F__law_number A)) (d__law_box : Dfn P w K mg base "_law_box" (A "_law_box") (fd "_law_box") ["script", "k"] 1 (F__law_box A)) (d__law_cells : Dfn P w K mg base "_law_cells" (A "_law_cells") (fd "_law_cells") ["script", "most_so"] 1 (F__law_cells A)) : Dfn P w K mg base "law" (A "law") (fd "law") ["script"] 11 (F_law A) :=
  fn_e T.u_law sc_law T.g_law (T.u_law.binds (ps := ["script"]) fun _ _ _ _ _ _ us hl => match us, hl with | [_], _ => rfl) fun cdv AA outer s H E O =>
    (ess_cons (es_set 1 O.toOkx.nd (ee_call O.toOkx d__law_box rfl (ea_cons (ee_call O.toOkx d__law_cells rfl (ea_cons (ee_var 0) (ea_cons ee_int ea_nil)) ) (ea_cons ee_int ea_nil)) ))
    (ess_cons (es_for O.po O.toOkx.calm (ei_range1 rfl T.n_range (ea_cons ee_int ea_nil)) (en_name 2 O.toOkx.nd) (ess_cons (es_par3 3 4 5 O.toOkx.calm O.toOkx.nd (ea_cons (ee_call O.toOkx d__law_number rfl (ea_cons (ee_var 1) ea_nil) ) (ea_cons (ee_call O.toOkx d__law_number rfl (ea_cons (ee_var 1) ea_nil) ) (ea_cons (ee_call O.toOkx d__law_number rfl (ea_cons (ee_var 1) ea_nil) ) ea_nil))))
     (ess_cons (es_set 6 O.toOkx.nd (ee_lst (ea_cons (ee_callK0 O.toOkx d_added rfl (ek_cons (ee_var 3) (ek_cons (ee_var 4) ek_nil)) (kb_added_0_one_other T.u_added) ) (ea_cons (ee_call O.toOkx d_added rfl (ea_cons (ee_call O.toOkx d_added rfl (ea_cons (ee_var 3) (ea_cons (ee_var 4) ea_nil)) ) (ea_cons (ee_var 5) ea_nil)) ) (ea_cons (ee_call O.toOkx d_times rfl (ea_cons (ee_call O.toOkx d_times rfl (ea_cons (ee_var 3) (ea_cons (ee_var 4) ea_nil)) ) (ea_cons (ee_var 5) ea_nil)) ) (ea_cons (ee_call O.toOkx d_times rfl (ea_cons (ee_var 3) (ea_cons (ee_call O.toOkx d_added rfl (ea_cons (ee_var 4) (ea_cons (ee_var 5) ea_nil)) ) ea_nil)) ) (ea_cons (ee_call O.toOkx d_less rfl (ea_cons (ee_call O.toOkx d_added rfl (ea_cons (ee_var 3) (ea_cons (ee_var 4) ea_nil)) ) (ea_cons (ee_var 4) ea_nil)) ) (ea_cons (ee_callK0 O.toOkx d_less rfl (ek_cons (ee_var 3) (ek_cons (ee_var 4) ek_nil)) (kb_less_0_one_other T.u_less) ) (ea_cons (ee_call O.toOkx d_added rfl (ea_cons (ee_var 3) (ea_cons (ee_callK0 O.toOkx d_negative rfl (ek_cons (ee_var 3) ek_nil) (kb_negative_0_one T.u_negative) ) ea_nil)) ) ea_nil)))))))))
     (ess_cons (es_set 7 O.toOkx.nd (ee_lst (ea_cons (ee_call O.toOkx d__law_plus rfl (ea_cons (ee_var 3) (ea_cons (ee_var 4) ea_nil)) ) (ea_cons (ee_call O.toOkx d_added rfl (ea_cons (ee_var 3) (ea_cons (ee_call O.toOkx d_added rfl (ea_cons (ee_var 4) (ea_cons (ee_var 5) ea_nil)) ) ea_nil)) ) (ea_cons (ee_call O.toOkx d_times rfl (ea_cons (ee_var 3) (ea_cons (ee_call O.toOkx d_times rfl (ea_cons (ee_var 5) (ea_cons (ee_var 4) ea_nil)) ) ea_nil)) ) (ea_cons (ee_call O.toOkx d_added rfl (ea_cons (ee_call O.toOkx d_times rfl (ea_cons (ee_var 3) (ea_cons (ee_var 4) ea_nil)) ) (ea_cons (ee_call O.toOkx d_times rfl (ea_cons (ee_var 5) (ea_cons (ee_var 3) ea_nil)) ) ea_nil)) ) (ea_cons (ee_var 3) (ea_cons (ee_call O.toOkx d_negative rfl (ea_cons (ee_call O.toOkx d_less rfl (ea_cons (ee_var 4) (ea_cons (ee_var 3) ea_nil)) ) ea_nil) ) (ea_cons (ee_tup (ea_cons ee_int (ea_cons ee_int ea_nil))) ea_nil)))))))))
     (ess_cons (es_if (EW.et (ew_or (et_not (et_truth (ee_call O.toOkx d__law_same rfl (ea_cons (ee_var 6) (ea_cons (ee_var 7) ea_nil)) ))) (ew_or1 (et_not (et_truth (ee_callB (cd_all O.toOkx.calm) rfl T.n_all (by decide +kernel) (ea_cons (ee_lc [("own", 15)] O.toOkx.calm O.toOkx.nd (ei_of (ee_var 6)) (by first | rfl | kernel_rfl) (fun s H C cl fp => (en_name 15 (okx_blk O.toOkx).nd)) (fun s H C cl fp => ets_nil) (fun s H C cl fp => (ee_call (okx_blk O.toOkx) d_is_fraction rfl (ea_cons (ee_var 15) ea_nil) ))) ea_nil))))))) (ess_one (es_ret ee_bl)) ess_nil)
     (ess_cons (es_if (et_cmp (od_ne O.toOkx.room.units) (ee_ix (ee_var 4) ee_int) ee_int (nomark _)) (ess_one (es_if (et_not (et_truth (ee_call O.toOkx d__law_same rfl (ea_cons (ee_lst (ea_cons (ee_call O.toOkx d_over rfl (ea_cons (ee_call O.toOkx d_times rfl (ea_cons (ee_var 3) (ea_cons (ee_var 4) ea_nil)) ) (ea_cons (ee_var 4) ea_nil)) ) (ea_cons (ee_call O.toOkx d_times rfl (ea_cons (ee_callK0 O.toOkx d_over rfl (ek_cons (ee_var 3) (ek_cons (ee_var 4) ek_nil)) (kb_over_0_one_other T.u_over) ) (ea_cons (ee_var 4) ea_nil)) ) (ea_cons (ee_call O.toOkx d_over rfl (ea_cons (ee_var 4) (ea_cons (ee_var 4) ea_nil)) ) ea_nil)))) (ea_cons (ee_lst (ea_cons (ee_var 3) (ea_cons (ee_var 3) (ea_cons (ee_tup (ea_cons ee_int (ea_cons ee_int ea_nil))) ea_nil)))) ea_nil)) ))) (ess_one (es_ret ee_bl)) ess_nil)) (ess_one (es_if (et_not (et_truth (ee_call O.toOkx d__law_same rfl (ea_cons (ee_call O.toOkx d__law_heard rfl (ea_cons (ee_obj rfl T.g_over) (ea_cons (ee_tup (ea_cons (ee_var 3) (ea_cons (ee_var 4) ea_nil))) ea_nil)) ) (ea_cons (ee_lst (ea_cons ee_str (ea_cons ee_bl ea_nil))) ea_nil)) ))) (ess_one (es_ret ee_bl)) ess_nil)))
     (ess_cons (es_set 8 O.toOkx.nd (ee_op od_sub (ee_callTy cd_int rfl T.n_int (by decide +kernel) (ea_cons (ee_cmp od_gt (ee_op od_mul0 (ee_ix (ee_var 3) ee_int) (ee_ix (ee_var 4) ee_int)) (ee_op od_mul0 (ee_ix (ee_var 4) ee_int) (ee_ix (ee_var 3) ee_int)) (nomark _)) ea_nil)) (ee_callTy cd_int rfl T.n_int (by decide +kernel) (ea_cons (ee_cmp od_lt (ee_op od_mul0 (ee_ix (ee_var 3) ee_int) (ee_ix (ee_var 4) ee_int)) (ee_op od_mul0 (ee_ix (ee_var 4) ee_int) (ee_ix (ee_var 3) ee_int)) (nomark _)) ea_nil))))
     (ess_cons (es_set 6 O.toOkx.nd (ee_lst (ea_cons (ee_callK0 O.toOkx d_compared rfl (ek_cons (ee_var 3) (ek_cons (ee_var 4) ek_nil)) (kb_compared_0_one_other T.u_compared) ) (ea_cons (ee_call O.toOkx d_compared rfl (ea_cons (ee_var 4) (ea_cons (ee_var 3) ea_nil)) ) (ea_cons (ee_callK0 O.toOkx d_less_than rfl (ek_cons (ee_var 3) (ek_cons (ee_var 4) ek_nil)) (kb_less_than_0_one_other T.u_less_than) ) (ea_cons (ee_call O.toOkx d_compared rfl (ea_cons (ee_call O.toOkx d_added rfl (ea_cons (ee_var 3) (ea_cons (ee_var 5) ea_nil)) ) (ea_cons (ee_call O.toOkx d_added rfl (ea_cons (ee_var 4) (ea_cons (ee_var 5) ea_nil)) ) ea_nil)) ) (ea_cons (ee_callK0 O.toOkx d_floor_of rfl (ek_cons (ee_var 3) ek_nil) (kb_floor_of_0_one T.u_floor_of) ) (ea_cons (ee_callK0 O.toOkx d_ceiling_of rfl (ek_cons (ee_var 3) ek_nil) (kb_ceiling_of_0_one T.u_ceiling_of) ) (ea_cons (ee_callK0 O.toOkx d_middle rfl (ek_cons (ee_var 3) (ek_cons (ee_var 4) ek_nil)) (kb_middle_0_one_other T.u_middle) ) ea_nil)))))))))
     (ess_cons (es_if (et_not (et_truth (ee_call O.toOkx d__law_same rfl (ea_cons (ee_var 6) (ea_cons (ee_lst (ea_cons (ee_var 8) (ea_cons (ee_op od_sub ee_int (ee_var 8)) (ea_cons (ee_cmp od_lt (ee_var 8) ee_int (nomark _)) (ea_cons (ee_var 8) (ea_cons (ee_op od_div (ee_ix (ee_var 3) ee_int) (ee_ix (ee_var 3) ee_int)) (ea_cons (ee_op od_sub ee_int (ee_op od_div (ee_op od_sub ee_int (ee_ix (ee_var 3) ee_int)) (ee_ix (ee_var 3) ee_int))) (ea_cons (ee_call O.toOkx d__law_times rfl (ea_cons (ee_call O.toOkx d__law_plus rfl (ea_cons (ee_var 3) (ea_cons (ee_var 4) ea_nil)) ) (ea_cons (ee_tup (ea_cons ee_int (ea_cons ee_int ea_nil))) ea_nil)) ) ea_nil)))))))) ea_nil)) ))) (ess_one (es_ret ee_bl)) ess_nil)
     (ess_cons (es_if (EW.et (ew_and (et_cmp (od_ne O.toOkx.room.units) (ee_ix (ee_var 5) ee_int) ee_int (nomark _)) (ew_and1 (et_cmp (od_ne O.toOkx.room.units) (ee_call O.toOkx d_compared rfl (ea_cons (ee_call O.toOkx d_times rfl (ea_cons (ee_var 3) (ea_cons (ee_var 5) ea_nil)) ) (ea_cons (ee_call O.toOkx d_times rfl (ea_cons (ee_var 4) (ea_cons (ee_var 5) ea_nil)) ) ea_nil)) ) (ee_if (et_cmp od_gt (ee_ix (ee_var 5) ee_int) ee_int (nomark _)) (ee_var 8) (ee_op od_sub ee_int (ee_var 8))) (nomark _))))) (ess_one (es_ret ee_bl)) ess_nil)
     (ess_cons (es_par 9 10 O.toOkx.calm O.toOkx.nd (ea_cons (ee_call O.toOkx d_fraction rfl (ea_cons (ee_op od_sub (ee_call O.toOkx d__law_take rfl (ea_cons (ee_var 1) (ea_cons ee_int ea_nil)) ) ee_int) (ea_cons (ee_op od_add ee_int (ee_call O.toOkx d__law_take rfl (ea_cons (ee_var 1) (ea_cons ee_int ea_nil)) )) ea_nil)) ) (ea_cons (ee_call O.toOkx d_fraction rfl (ea_cons (ee_op od_sub (ee_call O.toOkx d__law_take rfl (ea_cons (ee_var 1) (ea_cons ee_int ea_nil)) ) ee_int) (ea_cons (ee_op od_add ee_int (ee_call O.toOkx d__law_take rfl (ea_cons (ee_var 1) (ea_cons ee_int ea_nil)) )) ea_nil)) ) ea_nil)))
     (ess_cons (es_nt (ee_if (et_not (et_truth (ee_call O.toOkx d_less_than rfl (ea_cons (ee_var 10) (ea_cons (ee_var 9) ea_nil)) ))) (ee_tup (ea_cons (ee_var 9) (ea_cons (ee_var 10) ea_nil))) (ee_tup (ea_cons (ee_var 10) (ea_cons (ee_var 9) ea_nil)))) (en_tup O.toOkx.calm (ens_cons (en_name 11 O.toOkx.nd) (ens_cons (en_name 12 O.toOkx.nd) ens_nil))))
     (ess_cons (es_set 13 O.toOkx.nd (ee_callK0 O.toOkx d_simplest rfl (ek_cons (ee_var 11) (ek_cons (ee_var 12) ek_nil)) (kb_simplest_0_one_other T.u_simplest) ))
     (ess_cons (es_if (EW.et (ew_or (et_cmp (od_ne O.toOkx.room.units) (ee_var 13) (ee_call O.toOkx d__law_simplest rfl (ea_cons (ee_var 11) (ea_cons (ee_var 12) ea_nil)) ) (nomark _)) (ew_or (et_cmp (od_ne O.toOkx.room.units) (ee_call O.toOkx d_simplest rfl (ea_cons (ee_call O.toOkx d_negative rfl (ea_cons (ee_var 12) ea_nil) ) (ea_cons (ee_call O.toOkx d_negative rfl (ea_cons (ee_var 11) ea_nil) ) ea_nil)) ) (ee_call O.toOkx d_negative rfl (ea_cons (ee_var 13) ea_nil) ) (nomark _)) (ew_or1 (et_cmp (od_ne O.toOkx.room.units) (ee_call O.toOkx d_simplest rfl (ea_cons (ee_var 13) (ea_cons (ee_var 13) ea_nil)) ) (ee_var 13) (nomark _)))))) (ess_one (es_ret ee_bl)) ess_nil)
     (ess_cons (es_set 14 O.toOkx.nd (ee_if (et_cmp od_le (ee_var 8) ee_int (nomark _)) (ee_call O.toOkx d_simplest rfl (ea_cons (ee_var 3) (ea_cons (ee_var 4) ea_nil)) ) (ee_call O.toOkx d_simplest rfl (ea_cons (ee_var 4) (ea_cons (ee_var 3) ea_nil)) )))
     (ess_cons (es_if (EW.et (ew_or (et_truth (ee_call O.toOkx d_less_than rfl (ea_cons (ee_var 14) (ea_cons (ee_if (et_cmp od_le (ee_var 8) ee_int (nomark _)) (ee_var 3) (ee_var 4)) ea_nil)) )) (ew_or (et_truth (ee_call O.toOkx d_less_than rfl (ea_cons (ee_if (et_cmp od_le (ee_var 8) ee_int (nomark _)) (ee_var 4) (ee_var 3)) (ea_cons (ee_var 14) ea_nil)) )) (ew_or1 (et_cmp od_gt (ee_ix (ee_var 14) ee_int) (ee_callB (cd_min2 O.toOkx.calm) rfl T.n_min (by decide +kernel) (ea_cons (ee_ix (ee_var 3) ee_int) (ea_cons (ee_ix (ee_var 4) ee_int) ea_nil))) (nomark _)))))) (ess_one (es_ret ee_bl)) ess_nil)
     (ess_one (es_if (EW.et (ew_and (et_cmp od_gt (ee_var 8) ee_int (nomark _)) (ew_and1 (et_not (et_truth (ee_call O.toOkx d__law_same rfl (ea_cons (ee_call O.toOkx d__law_heard rfl (ea_cons (ee_obj rfl T.g_simplest) (ea_cons (ee_tup (ea_cons (ee_var 3) (ea_cons (ee_var 4) ea_nil))) ea_nil)) ) (ea_cons (ee_lst (ea_cons ee_str (ea_cons ee_bl ea_nil))) ea_nil)) )))))) (ess_one (es_ret ee_bl)) ess_nil))))))))))))))))))
    (ess_one (es_ret (ee_call O.toOkx d__law_same rfl (ea_cons (ee_lst (ea_cons (ee_call O.toOkx d_fraction rfl (ea_cons ee_int (ea_cons (ee_neg ee_int) ea_nil)) ) (ea_cons (ee_call O.toOkx d_fraction rfl (ea_cons ee_int (ea_cons (ee_neg ee_int) ea_nil)) ) (ea_cons (ee_call O.toOkx d_floor_of rfl (ea_cons (ee_tup (ea_cons (ee_neg ee_int) (ea_cons ee_int ea_nil))) ea_nil) ) (ea_cons (ee_call O.toOkx d_ceiling_of rfl (ea_cons (ee_tup (ea_cons (ee_neg ee_int) (ea_cons ee_int ea_nil))) ea_nil) ) (ea_cons (ee_call O.toOkx d__law_heard rfl (ea_cons (ee_obj rfl T.g_fraction) (ea_cons (ee_tup (ea_cons ee_int (ea_cons ee_int ea_nil))) ea_nil)) ) ea_nil)))))) (ea_cons (ee_lst (ea_cons (ee_tup (ea_cons (ee_neg ee_int) (ea_cons ee_int ea_nil))) (ea_cons (ee_tup (ea_cons ee_int (ea_cons ee_int ea_nil))) (ea_cons (ee_neg ee_int) (ea_cons (ee_neg ee_int) (ea_cons (ee_lst (ea_cons ee_str (ea_cons ee_bl ea_nil))) ea_nil)))))) ea_nil)) )))))
theorem held (T : Tx A fd K mg) (d_fraction : Dfn P w K mg base "fraction" (A "fraction") (fd "fraction") ["above", "below"] 3 (F_fraction A)) (d_over : Dfn P w K mg base "over" (A "over") (fd "over") ["one", "other"] 7 (F_over A)) (d_simplest : Dfn P w K mg base "simplest" (A "simplest") (fd "simplest") ["one", "other"] 8 (F_simplest A)) : HeldAll P w K mg base 8 (tb A) := by
  intro p hp
  simp only [tb, List.mem_cons, List.not_mem_nil, or_false] at hp
  rcases hp with rfl | rfl | rfl
  · exact ⟨⟨_, _, _, _, by decide, d_fraction⟩⟩
  · exact ⟨⟨_, _, _, _, by decide, d_over⟩⟩
  · exact ⟨⟨_, _, _, _, by decide, d_simplest⟩⟩
theorem d_all (T : Tx A fd K mg) : Dfn P w K mg base "law" (A "law") (fd "law") ["script"] 11 (F_law A) := by
  have d_is_number := d_is_number (P := P) (w := w) (base := base) T 
  have d_is_from := d_is_from (P := P) (w := w) (base := base) T d_is_number
  have d_is_long := d_is_long (P := P) (w := w) (base := base) T 
  have d_tupled := d_tupled (P := P) (w := w) (base := base) T  4
  have d_divisor := d_divisor (P := P) (w := w) (base := base) T 
  have d_is_fraction := d_is_fraction (P := P) (w := w) (base := base) T d_divisor d_is_long d_is_number d_is_from
  have d_sure_fraction := d_sure_fraction (P := P) (w := w) (base := base) T d_is_fraction d_tupled
  have d_made := d_made (P := P) (w := w) (base := base) T d_divisor
  have d_fraction := d_fraction (P := P) (w := w) (base := base) T d_made
  have d_two := d_two (P := P) (w := w) (base := base) T d_sure_fraction
  have d_added := d_added (P := P) (w := w) (base := base) T d_made d_two
  have d_negative := d_negative (P := P) (w := w) (base := base) T d_sure_fraction
  have d_less := d_less (P := P) (w := w) (base := base) T d_made d_two
  have d_times := d_times (P := P) (w := w) (base := base) T d_made d_two
  have d_over := d_over (P := P) (w := w) (base := base) T d_made d_two
  have d_compared := d_compared (P := P) (w := w) (base := base) T d_two
  have d_less_than := d_less_than (P := P) (w := w) (base := base) T d_compared
  have d_floor_of := d_floor_of (P := P) (w := w) (base := base) T d_sure_fraction
  have d_ceiling_of := d_ceiling_of (P := P) (w := w) (base := base) T d_sure_fraction
  have d_middle := d_middle (P := P) (w := w) (base := base) T d_made d_two
  have d_simplest_above := d_simplest_above (P := P) (w := w) (base := base) T 
  have d_simplest := d_simplest (P := P) (w := w) (base := base) T d_simplest_above d_compared d_two
  have d__law_box := d__law_box (P := P) (w := w) (base := base) T 
  have d__law_take := d__law_take (P := P) (w := w) (base := base) T 
  have d__law_cells := d__law_cells (P := P) (w := w) (base := base) T 
  have d__law_of := d__law_of (P := P) (w := w) (base := base) T d__law_take
  have d__law_same := d__law_same (P := P) (w := w) (base := base) T  5
  have d__law_low := d__law_low (P := P) (w := w) (base := base) T 
  have d__law_times := d__law_times (P := P) (w := w) (base := base) T d__law_low
  have d__law_unmarked := d__law_unmarked (P := P) (w := w) (base := base) T 
  have d__law_call := d__law_call (P := P) (w := w) (base := base) T  (held T d_fraction d_over d_simplest)
  have d__law_plus := d__law_plus (P := P) (w := w) (base := base) T d__law_low
  have d__law_heard := d__law_heard (P := P) (w := w) (base := base) T d__law_unmarked d__law_call
  have d__law_number := d__law_number (P := P) (w := w) (base := base) T d_fraction d__law_take d__law_of
  have d__law_simplest := d__law_simplest (P := P) (w := w) (base := base) T d__law_low
  have d_law := d_law (P := P) (w := w) (base := base) T d__law_same d__law_heard d_ceiling_of d_floor_of d_fraction d_less_than d_simplest d__law_simplest d_negative d__law_take d_compared d_times d__law_times d__law_plus d_middle d_added d_over d_is_fraction d_less d__law_number d__law_box d__law_cells
  exact d_law
end
/-! the head -/
def adr (mg : Str → Option Value) (x : Str) : Addr := match mg x with | some (.ref a) => a | _ => 0
def fdo (K : PySem.W.Frag) (mg : Str → Option Value) (x : Str) : FuncData := match K.lookup (adr mg x) with | some ⟨_, _, .func f, _⟩ => f | _ => PySem.W.fnOf x x (defArgs (.Pass ⟨0, 0, 0, 0⟩)) [] (defScope (.Pass ⟨0, 0, 0, 0⟩)) .none .none .none .none none .none .none
theorem fun_of {K : PySem.W.Frag} {h : Heap} {mg : Str → Option Value} {x : Str} {st : Stmt} {f : Addr} {oc : Value} {od an : Option Addr} {osl : Array (Option Value)} {kV doc pm cdv ct : Value} (X : K.In h) (G : h.Ns mainGlobals mg) (a : PySem.W.nsIn K mainGlobals x = some (some (.ref f)))
    (l : K.lookup f = some ⟨oc, od, .func (PySem.W.fnOf x x (defArgs st) (defBody st) (defScope st) .none kV doc pm an cdv ct), osl⟩) (c : PySem.W.codeIn K cdv x = true) (k : PySem.W.keepIn K (.ref f) = true) : mg x = some (.ref (adr mg x)) ∧ Fun K x x st (adr mg x) (fdo K mg x) := by
  have e := PySem.W.mg_of X G a
  have ea : adr mg x = f := by unfold adr; rw [e]
  have ef : fdo K mg x = PySem.W.fnOf x x (defArgs st) (defBody st) (defScope st) .none kV doc pm an cdv ct := by unfold fdo; rw [ea, l]
  rw [ea, ef]
  exact ⟨e, fun_mk l c k⟩
theorem tx_mk {K : PySem.W.Frag} {h : Heap} {mg : Str → Option Value} (X : K.In h) (G : h.Ns mainGlobals mg)
  {oc_is_number : Value} {od_is_number an_is_number : Option Addr} {sl_is_number : Array (Option Value)} {kV_is_number dc_is_number pm_is_number cd_is_number ct_is_number : Value} {f_is_number : Addr}
  {oc_is_from : Value} {od_is_from an_is_from : Option Addr} {sl_is_from : Array (Option Value)} {kV_is_from dc_is_from pm_is_from cd_is_from ct_is_from : Value} {f_is_from : Addr}
  {oc_is_long : Value} {od_is_long an_is_long : Option Addr} {sl_is_long : Array (Option Value)} {kV_is_long dc_is_long pm_is_long cd_is_long ct_is_long : Value} {f_is_long : Addr}
  {oc_tupled : Value} {od_tupled an_tupled : Option Addr} {sl_tupled : Array (Option Value)} {kV_tupled dc_tupled pm_tupled cd_tupled ct_tupled : Value} {f_tupled : Addr}
  {oc_divisor : Value} {od_divisor an_divisor : Option Addr} {sl_divisor : Array (Option Value)} {kV_divisor dc_divisor pm_divisor cd_divisor ct_divisor : Value} {f_divisor : Addr}
  {oc_is_fraction : Value} {od_is_fraction an_is_fraction : Option Addr} {sl_is_fraction : Array (Option Value)} {kV_is_fraction dc_is_fraction pm_is_fraction cd_is_fraction ct_is_fraction : Value} {f_is_fraction : Addr}
  {oc_sure_fraction : Value} {od_sure_fraction an_sure_fraction : Option Addr} {sl_sure_fraction : Array (Option Value)} {kV_sure_fraction dc_sure_fraction pm_sure_fraction cd_sure_fraction ct_sure_fraction : Value} {f_sure_fraction : Addr}
  {oc_made : Value} {od_made an_made : Option Addr} {sl_made : Array (Option Value)} {kV_made dc_made pm_made cd_made ct_made : Value} {f_made : Addr}
  {oc_fraction : Value} {od_fraction an_fraction : Option Addr} {sl_fraction : Array (Option Value)} {kV_fraction dc_fraction pm_fraction cd_fraction ct_fraction : Value} {f_fraction : Addr}
  {oc_two : Value} {od_two an_two : Option Addr} {sl_two : Array (Option Value)} {kV_two dc_two pm_two cd_two ct_two : Value} {f_two : Addr}
  {oc_added : Value} {od_added an_added : Option Addr} {sl_added : Array (Option Value)} {kV_added dc_added pm_added cd_added ct_added : Value} {f_added : Addr}
  {oc_negative : Value} {od_negative an_negative : Option Addr} {sl_negative : Array (Option Value)} {kV_negative dc_negative pm_negative cd_negative ct_negative : Value} {f_negative : Addr}
  {oc_less : Value} {od_less an_less : Option Addr} {sl_less : Array (Option Value)} {kV_less dc_less pm_less cd_less ct_less : Value} {f_less : Addr}
  {oc_times : Value} {od_times an_times : Option Addr} {sl_times : Array (Option Value)} {kV_times dc_times pm_times cd_times ct_times : Value} {f_times : Addr}
  {oc_over : Value} {od_over an_over : Option Addr} {sl_over : Array (Option Value)} {kV_over dc_over pm_over cd_over ct_over : Value} {f_over : Addr}
  {oc_compared : Value} {od_compared an_compared : Option Addr} {sl_compared : Array (Option Value)} {kV_compared dc_compared pm_compared cd_compared ct_compared : Value} {f_compared : Addr}
  {oc_less_than : Value} {od_less_than an_less_than : Option Addr} {sl_less_than : Array (Option Value)} {kV_less_than dc_less_than pm_less_than cd_less_than ct_less_than : Value} {f_less_than : Addr}
  {oc_floor_of : Value} {od_floor_of an_floor_of : Option Addr} {sl_floor_of : Array (Option Value)} {kV_floor_of dc_floor_of pm_floor_of cd_floor_of ct_floor_of : Value} {f_floor_of : Addr}
  {oc_ceiling_of : Value} {od_ceiling_of an_ceiling_of : Option Addr} {sl_ceiling_of : Array (Option Value)} {kV_ceiling_of dc_ceiling_of pm_ceiling_of cd_ceiling_of ct_ceiling_of : Value} {f_ceiling_of : Addr}
  {oc_middle : Value} {od_middle an_middle : Option Addr} {sl_middle : Array (Option Value)} {kV_middle dc_middle pm_middle cd_middle ct_middle : Value} {f_middle : Addr}
  {oc_simplest_above : Value} {od_simplest_above an_simplest_above : Option Addr} {sl_simplest_above : Array (Option Value)} {kV_simplest_above dc_simplest_above pm_simplest_above cd_simplest_above ct_simplest_above : Value} {f_simplest_above : Addr}
  {oc_simplest : Value} {od_simplest an_simplest : Option Addr} {sl_simplest : Array (Option Value)} {kV_simplest dc_simplest pm_simplest cd_simplest ct_simplest : Value} {f_simplest : Addr}
  {oc__law_box : Value} {od__law_box an__law_box : Option Addr} {sl__law_box : Array (Option Value)} {kV__law_box dc__law_box pm__law_box cd__law_box ct__law_box : Value} {f__law_box : Addr}
  {oc__law_take : Value} {od__law_take an__law_take : Option Addr} {sl__law_take : Array (Option Value)} {kV__law_take dc__law_take pm__law_take cd__law_take ct__law_take : Value} {f__law_take : Addr}
  {oc__law_cells : Value} {od__law_cells an__law_cells : Option Addr} {sl__law_cells : Array (Option Value)} {kV__law_cells dc__law_cells pm__law_cells cd__law_cells ct__law_cells : Value} {f__law_cells : Addr}
  {oc__law_of : Value} {od__law_of an__law_of : Option Addr} {sl__law_of : Array (Option Value)} {kV__law_of dc__law_of pm__law_of cd__law_of ct__law_of : Value} {f__law_of : Addr}
  {oc__law_same : Value} {od__law_same an__law_same : Option Addr} {sl__law_same : Array (Option Value)} {kV__law_same dc__law_same pm__law_same cd__law_same ct__law_same : Value} {f__law_same : Addr}
  {oc__law_low : Value} {od__law_low an__law_low : Option Addr} {sl__law_low : Array (Option Value)} {kV__law_low dc__law_low pm__law_low cd__law_low ct__law_low : Value} {f__law_low : Addr}
  {oc__law_times : Value} {od__law_times an__law_times : Option Addr} {sl__law_times : Array (Option Value)} {kV__law_times dc__law_times pm__law_times cd__law_times ct__law_times : Value} {f__law_times : Addr}
  {oc__law_unmarked : Value} {od__law_unmarked an__law_unmarked : Option Addr} {sl__law_unmarked : Array (Option Value)} {kV__law_unmarked dc__law_unmarked pm__law_unmarked cd__law_unmarked ct__law_unmarked : Value} {f__law_unmarked : Addr}
  {oc__law_call : Value} {od__law_call an__law_call : Option Addr} {sl__law_call : Array (Option Value)} {kV__law_call dc__law_call pm__law_call cd__law_call ct__law_call : Value} {f__law_call : Addr}
  {oc__law_plus : Value} {od__law_plus an__law_plus : Option Addr} {sl__law_plus : Array (Option Value)} {kV__law_plus dc__law_plus pm__law_plus cd__law_plus ct__law_plus : Value} {f__law_plus : Addr}
  {oc__law_heard : Value} {od__law_heard an__law_heard : Option Addr} {sl__law_heard : Array (Option Value)} {kV__law_heard dc__law_heard pm__law_heard cd__law_heard ct__law_heard : Value} {f__law_heard : Addr}
  {oc__law_number : Value} {od__law_number an__law_number : Option Addr} {sl__law_number : Array (Option Value)} {kV__law_number dc__law_number pm__law_number cd__law_number ct__law_number : Value} {f__law_number : Addr}
  {oc__law_simplest : Value} {od__law_simplest an__law_simplest : Option Addr} {sl__law_simplest : Array (Option Value)} {kV__law_simplest dc__law_simplest pm__law_simplest cd__law_simplest ct__law_simplest : Value} {f__law_simplest : Addr}
  {oc_law : Value} {od_law an_law : Option Addr} {sl_law : Array (Option Value)} {kV_law dc_law pm_law cd_law ct_law : Value} {f_law : Addr}
  (a_is_number : PySem.W.nsIn K mainGlobals "is_number" = some (some (.ref f_is_number))) (l_is_number : K.lookup f_is_number = some ⟨oc_is_number, od_is_number, .func (PySem.W.fnOf "is_number" "is_number" (defArgs s_is_number) (defBody s_is_number) (defScope s_is_number) .none kV_is_number dc_is_number pm_is_number an_is_number cd_is_number ct_is_number), sl_is_number⟩) (c_is_number : PySem.W.codeIn K cd_is_number "is_number" = true) (k_is_number : PySem.W.keepIn K (.ref f_is_number) = true)
  (a_is_from : PySem.W.nsIn K mainGlobals "is_from" = some (some (.ref f_is_from))) (l_is_from : K.lookup f_is_from = some ⟨oc_is_from, od_is_from, .func (PySem.W.fnOf "is_from" "is_from" (defArgs s_is_from) (defBody s_is_from) (defScope s_is_from) .none kV_is_from dc_is_from pm_is_from an_is_from cd_is_from ct_is_from), sl_is_from⟩) (c_is_from : PySem.W.codeIn K cd_is_from "is_from" = true) (k_is_from : PySem.W.keepIn K (.ref f_is_from) = true)
  (a_is_long : PySem.W.nsIn K mainGlobals "is_long" = some (some (.ref f_is_long))) (l_is_long : K.lookup f_is_long = some ⟨oc_is_long, od_is_long, .func (PySem.W.fnOf "is_long" "is_long" (defArgs s_is_long) (defBody s_is_long) (defScope s_is_long) .none kV_is_long dc_is_long pm_is_long an_is_long cd_is_long ct_is_long), sl_is_long⟩) (c_is_long : PySem.W.codeIn K cd_is_long "is_long" = true) (k_is_long : PySem.W.keepIn K (.ref f_is_long) = true)
  (a_tupled : PySem.W.nsIn K mainGlobals "tupled" = some (some (.ref f_tupled))) (l_tupled : K.lookup f_tupled = some ⟨oc_tupled, od_tupled, .func (PySem.W.fnOf "tupled" "tupled" (defArgs s_tupled) (defBody s_tupled) (defScope s_tupled) .none kV_tupled dc_tupled pm_tupled an_tupled cd_tupled ct_tupled), sl_tupled⟩) (c_tupled : PySem.W.codeIn K cd_tupled "tupled" = true) (k_tupled : PySem.W.keepIn K (.ref f_tupled) = true)
  (a_divisor : PySem.W.nsIn K mainGlobals "divisor" = some (some (.ref f_divisor))) (l_divisor : K.lookup f_divisor = some ⟨oc_divisor, od_divisor, .func (PySem.W.fnOf "divisor" "divisor" (defArgs s_divisor) (defBody s_divisor) (defScope s_divisor) .none kV_divisor dc_divisor pm_divisor an_divisor cd_divisor ct_divisor), sl_divisor⟩) (c_divisor : PySem.W.codeIn K cd_divisor "divisor" = true) (k_divisor : PySem.W.keepIn K (.ref f_divisor) = true)
  (a_is_fraction : PySem.W.nsIn K mainGlobals "is_fraction" = some (some (.ref f_is_fraction))) (l_is_fraction : K.lookup f_is_fraction = some ⟨oc_is_fraction, od_is_fraction, .func (PySem.W.fnOf "is_fraction" "is_fraction" (defArgs s_is_fraction) (defBody s_is_fraction) (defScope s_is_fraction) .none kV_is_fraction dc_is_fraction pm_is_fraction an_is_fraction cd_is_fraction ct_is_fraction), sl_is_fraction⟩) (c_is_fraction : PySem.W.codeIn K cd_is_fraction "is_fraction" = true) (k_is_fraction : PySem.W.keepIn K (.ref f_is_fraction) = true)
  (a_sure_fraction : PySem.W.nsIn K mainGlobals "sure_fraction" = some (some (.ref f_sure_fraction))) (l_sure_fraction : K.lookup f_sure_fraction = some ⟨oc_sure_fraction, od_sure_fraction, .func (PySem.W.fnOf "sure_fraction" "sure_fraction" (defArgs s_sure_fraction) (defBody s_sure_fraction) (defScope s_sure_fraction) .none kV_sure_fraction dc_sure_fraction pm_sure_fraction an_sure_fraction cd_sure_fraction ct_sure_fraction), sl_sure_fraction⟩) (c_sure_fraction : PySem.W.codeIn K cd_sure_fraction "sure_fraction" = true) (k_sure_fraction : PySem.W.keepIn K (.ref f_sure_fraction) = true)
  (a_made : PySem.W.nsIn K mainGlobals "made" = some (some (.ref f_made))) (l_made : K.lookup f_made = some ⟨oc_made, od_made, .func (PySem.W.fnOf "made" "made" (defArgs s_made) (defBody s_made) (defScope s_made) .none kV_made dc_made pm_made an_made cd_made ct_made), sl_made⟩) (c_made : PySem.W.codeIn K cd_made "made" = true) (k_made : PySem.W.keepIn K (.ref f_made) = true)
  (a_fraction : PySem.W.nsIn K mainGlobals "fraction" = some (some (.ref f_fraction))) (l_fraction : K.lookup f_fraction = some ⟨oc_fraction, od_fraction, .func (PySem.W.fnOf "fraction" "fraction" (defArgs s_fraction) (defBody s_fraction) (defScope s_fraction) .none kV_fraction dc_fraction pm_fraction an_fraction cd_fraction ct_fraction), sl_fraction⟩) (c_fraction : PySem.W.codeIn K cd_fraction "fraction" = true) (k_fraction : PySem.W.keepIn K (.ref f_fraction) = true)
  (a_two : PySem.W.nsIn K mainGlobals "two" = some (some (.ref f_two))) (l_two : K.lookup f_two = some ⟨oc_two, od_two, .func (PySem.W.fnOf "two" "two" (defArgs s_two) (defBody s_two) (defScope s_two) .none kV_two dc_two pm_two an_two cd_two ct_two), sl_two⟩) (c_two : PySem.W.codeIn K cd_two "two" = true) (k_two : PySem.W.keepIn K (.ref f_two) = true)
  (a_added : PySem.W.nsIn K mainGlobals "added" = some (some (.ref f_added))) (l_added : K.lookup f_added = some ⟨oc_added, od_added, .func (PySem.W.fnOf "added" "added" (defArgs s_added) (defBody s_added) (defScope s_added) .none kV_added dc_added pm_added an_added cd_added ct_added), sl_added⟩) (c_added : PySem.W.codeIn K cd_added "added" = true) (k_added : PySem.W.keepIn K (.ref f_added) = true)
  (a_negative : PySem.W.nsIn K mainGlobals "negative" = some (some (.ref f_negative))) (l_negative : K.lookup f_negative = some ⟨oc_negative, od_negative, .func (PySem.W.fnOf "negative" "negative" (defArgs s_negative) (defBody s_negative) (defScope s_negative) .none kV_negative dc_negative pm_negative an_negative cd_negative ct_negative), sl_negative⟩) (c_negative : PySem.W.codeIn K cd_negative "negative" = true) (k_negative : PySem.W.keepIn K (.ref f_negative) = true)
  (a_less : PySem.W.nsIn K mainGlobals "less" = some (some (.ref f_less))) (l_less : K.lookup f_less = some ⟨oc_less, od_less, .func (PySem.W.fnOf "less" "less" (defArgs s_less) (defBody s_less) (defScope s_less) .none kV_less dc_less pm_less an_less cd_less ct_less), sl_less⟩) (c_less : PySem.W.codeIn K cd_less "less" = true) (k_less : PySem.W.keepIn K (.ref f_less) = true)
  (a_times : PySem.W.nsIn K mainGlobals "times" = some (some (.ref f_times))) (l_times : K.lookup f_times = some ⟨oc_times, od_times, .func (PySem.W.fnOf "times" "times" (defArgs s_times) (defBody s_times) (defScope s_times) .none kV_times dc_times pm_times an_times cd_times ct_times), sl_times⟩) (c_times : PySem.W.codeIn K cd_times "times" = true) (k_times : PySem.W.keepIn K (.ref f_times) = true)
  (a_over : PySem.W.nsIn K mainGlobals "over" = some (some (.ref f_over))) (l_over : K.lookup f_over = some ⟨oc_over, od_over, .func (PySem.W.fnOf "over" "over" (defArgs s_over) (defBody s_over) (defScope s_over) .none kV_over dc_over pm_over an_over cd_over ct_over), sl_over⟩) (c_over : PySem.W.codeIn K cd_over "over" = true) (k_over : PySem.W.keepIn K (.ref f_over) = true)
  (a_compared : PySem.W.nsIn K mainGlobals "compared" = some (some (.ref f_compared))) (l_compared : K.lookup f_compared = some ⟨oc_compared, od_compared, .func (PySem.W.fnOf "compared" "compared" (defArgs s_compared) (defBody s_compared) (defScope s_compared) .none kV_compared dc_compared pm_compared an_compared cd_compared ct_compared), sl_compared⟩) (c_compared : PySem.W.codeIn K cd_compared "compared" = true) (k_compared : PySem.W.keepIn K (.ref f_compared) = true)
  (a_less_than : PySem.W.nsIn K mainGlobals "less_than" = some (some (.ref f_less_than))) (l_less_than : K.lookup f_less_than = some ⟨oc_less_than, od_less_than, .func (PySem.W.fnOf "less_than" "less_than" (defArgs s_less_than) (defBody s_less_than) (defScope s_less_than) .none kV_less_than dc_less_than pm_less_than an_less_than cd_less_than ct_less_than), sl_less_than⟩) (c_less_than : PySem.W.codeIn K cd_less_than "less_than" = true) (k_less_than : PySem.W.keepIn K (.ref f_less_than) = true)
  (a_floor_of : PySem.W.nsIn K mainGlobals "floor_of" = some (some (.ref f_floor_of))) (l_floor_of : K.lookup f_floor_of = some ⟨oc_floor_of, od_floor_of, .func (PySem.W.fnOf "floor_of" "floor_of" (defArgs s_floor_of) (defBody s_floor_of) (defScope s_floor_of) .none kV_floor_of dc_floor_of pm_floor_of an_floor_of cd_floor_of ct_floor_of), sl_floor_of⟩) (c_floor_of : PySem.W.codeIn K cd_floor_of "floor_of" = true) (k_floor_of : PySem.W.keepIn K (.ref f_floor_of) = true)
  (a_ceiling_of : PySem.W.nsIn K mainGlobals "ceiling_of" = some (some (.ref f_ceiling_of))) (l_ceiling_of : K.lookup f_ceiling_of = some ⟨oc_ceiling_of, od_ceiling_of, .func (PySem.W.fnOf "ceiling_of" "ceiling_of" (defArgs s_ceiling_of) (defBody s_ceiling_of) (defScope s_ceiling_of) .none kV_ceiling_of dc_ceiling_of pm_ceiling_of an_ceiling_of cd_ceiling_of ct_ceiling_of), sl_ceiling_of⟩) (c_ceiling_of : PySem.W.codeIn K cd_ceiling_of "ceiling_of" = true) (k_ceiling_of : PySem.W.keepIn K (.ref f_ceiling_of) = true)
  (a_middle : PySem.W.nsIn K mainGlobals "middle" = some (some (.ref f_middle))) (l_middle : K.lookup f_middle = some ⟨oc_middle, od_middle, .func (PySem.W.fnOf "middle" "middle" (defArgs s_middle) (defBody s_middle) (defScope s_middle) .none kV_middle dc_middle pm_middle an_middle cd_middle ct_middle), sl_middle⟩) (c_middle : PySem.W.codeIn K cd_middle "middle" = true) (k_middle : PySem.W.keepIn K (.ref f_middle) = true)
  (a_simplest_above : PySem.W.nsIn K mainGlobals "simplest_above" = some (some (.ref f_simplest_above))) (l_simplest_above : K.lookup f_simplest_above = some ⟨oc_simplest_above, od_simplest_above, .func (PySem.W.fnOf "simplest_above" "simplest_above" (defArgs s_simplest_above) (defBody s_simplest_above) (defScope s_simplest_above) .none kV_simplest_above dc_simplest_above pm_simplest_above an_simplest_above cd_simplest_above ct_simplest_above), sl_simplest_above⟩) (c_simplest_above : PySem.W.codeIn K cd_simplest_above "simplest_above" = true) (k_simplest_above : PySem.W.keepIn K (.ref f_simplest_above) = true)
  (a_simplest : PySem.W.nsIn K mainGlobals "simplest" = some (some (.ref f_simplest))) (l_simplest : K.lookup f_simplest = some ⟨oc_simplest, od_simplest, .func (PySem.W.fnOf "simplest" "simplest" (defArgs s_simplest) (defBody s_simplest) (defScope s_simplest) .none kV_simplest dc_simplest pm_simplest an_simplest cd_simplest ct_simplest), sl_simplest⟩) (c_simplest : PySem.W.codeIn K cd_simplest "simplest" = true) (k_simplest : PySem.W.keepIn K (.ref f_simplest) = true)
  (a__law_box : PySem.W.nsIn K mainGlobals "_law_box" = some (some (.ref f__law_box))) (l__law_box : K.lookup f__law_box = some ⟨oc__law_box, od__law_box, .func (PySem.W.fnOf "_law_box" "_law_box" (defArgs s__law_box) (defBody s__law_box) (defScope s__law_box) .none kV__law_box dc__law_box pm__law_box an__law_box cd__law_box ct__law_box), sl__law_box⟩) (c__law_box : PySem.W.codeIn K cd__law_box "_law_box" = true) (k__law_box : PySem.W.keepIn K (.ref f__law_box) = true)
  (a__law_take : PySem.W.nsIn K mainGlobals "_law_take" = some (some (.ref f__law_take))) (l__law_take : K.lookup f__law_take = some ⟨oc__law_take, od__law_take, .func (PySem.W.fnOf "_law_take" "_law_take" (defArgs s__law_take) (defBody s__law_take) (defScope s__law_take) .none kV__law_take dc__law_take pm__law_take an__law_take cd__law_take ct__law_take), sl__law_take⟩) (c__law_take : PySem.W.codeIn K cd__law_take "_law_take" = true) (k__law_take : PySem.W.keepIn K (.ref f__law_take) = true)
  (a__law_cells : PySem.W.nsIn K mainGlobals "_law_cells" = some (some (.ref f__law_cells))) (l__law_cells : K.lookup f__law_cells = some ⟨oc__law_cells, od__law_cells, .func (PySem.W.fnOf "_law_cells" "_law_cells" (defArgs s__law_cells) (defBody s__law_cells) (defScope s__law_cells) .none kV__law_cells dc__law_cells pm__law_cells an__law_cells cd__law_cells ct__law_cells), sl__law_cells⟩) (c__law_cells : PySem.W.codeIn K cd__law_cells "_law_cells" = true) (k__law_cells : PySem.W.keepIn K (.ref f__law_cells) = true)
  (a__law_of : PySem.W.nsIn K mainGlobals "_law_of" = some (some (.ref f__law_of))) (l__law_of : K.lookup f__law_of = some ⟨oc__law_of, od__law_of, .func (PySem.W.fnOf "_law_of" "_law_of" (defArgs s__law_of) (defBody s__law_of) (defScope s__law_of) .none kV__law_of dc__law_of pm__law_of an__law_of cd__law_of ct__law_of), sl__law_of⟩) (c__law_of : PySem.W.codeIn K cd__law_of "_law_of" = true) (k__law_of : PySem.W.keepIn K (.ref f__law_of) = true)
  (a__law_same : PySem.W.nsIn K mainGlobals "_law_same" = some (some (.ref f__law_same))) (l__law_same : K.lookup f__law_same = some ⟨oc__law_same, od__law_same, .func (PySem.W.fnOf "_law_same" "_law_same" (defArgs s__law_same) (defBody s__law_same) (defScope s__law_same) .none kV__law_same dc__law_same pm__law_same an__law_same cd__law_same ct__law_same), sl__law_same⟩) (c__law_same : PySem.W.codeIn K cd__law_same "_law_same" = true) (k__law_same : PySem.W.keepIn K (.ref f__law_same) = true)
  (a__law_low : PySem.W.nsIn K mainGlobals "_law_low" = some (some (.ref f__law_low))) (l__law_low : K.lookup f__law_low = some ⟨oc__law_low, od__law_low, .func (PySem.W.fnOf "_law_low" "_law_low" (defArgs s__law_low) (defBody s__law_low) (defScope s__law_low) .none kV__law_low dc__law_low pm__law_low an__law_low cd__law_low ct__law_low), sl__law_low⟩) (c__law_low : PySem.W.codeIn K cd__law_low "_law_low" = true) (k__law_low : PySem.W.keepIn K (.ref f__law_low) = true)
  (a__law_times : PySem.W.nsIn K mainGlobals "_law_times" = some (some (.ref f__law_times))) (l__law_times : K.lookup f__law_times = some ⟨oc__law_times, od__law_times, .func (PySem.W.fnOf "_law_times" "_law_times" (defArgs s__law_times) (defBody s__law_times) (defScope s__law_times) .none kV__law_times dc__law_times pm__law_times an__law_times cd__law_times ct__law_times), sl__law_times⟩) (c__law_times : PySem.W.codeIn K cd__law_times "_law_times" = true) (k__law_times : PySem.W.keepIn K (.ref f__law_times) = true)
  (a__law_unmarked : PySem.W.nsIn K mainGlobals "_law_unmarked" = some (some (.ref f__law_unmarked))) (l__law_unmarked : K.lookup f__law_unmarked = some ⟨oc__law_unmarked, od__law_unmarked, .func (PySem.W.fnOf "_law_unmarked" "_law_unmarked" (defArgs s__law_unmarked) (defBody s__law_unmarked) (defScope s__law_unmarked) .none kV__law_unmarked dc__law_unmarked pm__law_unmarked an__law_unmarked cd__law_unmarked ct__law_unmarked), sl__law_unmarked⟩) (c__law_unmarked : PySem.W.codeIn K cd__law_unmarked "_law_unmarked" = true) (k__law_unmarked : PySem.W.keepIn K (.ref f__law_unmarked) = true)
  (a__law_call : PySem.W.nsIn K mainGlobals "_law_call" = some (some (.ref f__law_call))) (l__law_call : K.lookup f__law_call = some ⟨oc__law_call, od__law_call, .func (PySem.W.fnOf "_law_call" "_law_call" (defArgs s__law_call) (defBody s__law_call) (defScope s__law_call) .none kV__law_call dc__law_call pm__law_call an__law_call cd__law_call ct__law_call), sl__law_call⟩) (c__law_call : PySem.W.codeIn K cd__law_call "_law_call" = true) (k__law_call : PySem.W.keepIn K (.ref f__law_call) = true)
  (a__law_plus : PySem.W.nsIn K mainGlobals "_law_plus" = some (some (.ref f__law_plus))) (l__law_plus : K.lookup f__law_plus = some ⟨oc__law_plus, od__law_plus, .func (PySem.W.fnOf "_law_plus" "_law_plus" (defArgs s__law_plus) (defBody s__law_plus) (defScope s__law_plus) .none kV__law_plus dc__law_plus pm__law_plus an__law_plus cd__law_plus ct__law_plus), sl__law_plus⟩) (c__law_plus : PySem.W.codeIn K cd__law_plus "_law_plus" = true) (k__law_plus : PySem.W.keepIn K (.ref f__law_plus) = true)
  (a__law_heard : PySem.W.nsIn K mainGlobals "_law_heard" = some (some (.ref f__law_heard))) (l__law_heard : K.lookup f__law_heard = some ⟨oc__law_heard, od__law_heard, .func (PySem.W.fnOf "_law_heard" "_law_heard" (defArgs s__law_heard) (defBody s__law_heard) (defScope s__law_heard) .none kV__law_heard dc__law_heard pm__law_heard an__law_heard cd__law_heard ct__law_heard), sl__law_heard⟩) (c__law_heard : PySem.W.codeIn K cd__law_heard "_law_heard" = true) (k__law_heard : PySem.W.keepIn K (.ref f__law_heard) = true)
  (a__law_number : PySem.W.nsIn K mainGlobals "_law_number" = some (some (.ref f__law_number))) (l__law_number : K.lookup f__law_number = some ⟨oc__law_number, od__law_number, .func (PySem.W.fnOf "_law_number" "_law_number" (defArgs s__law_number) (defBody s__law_number) (defScope s__law_number) .none kV__law_number dc__law_number pm__law_number an__law_number cd__law_number ct__law_number), sl__law_number⟩) (c__law_number : PySem.W.codeIn K cd__law_number "_law_number" = true) (k__law_number : PySem.W.keepIn K (.ref f__law_number) = true)
  (a__law_simplest : PySem.W.nsIn K mainGlobals "_law_simplest" = some (some (.ref f__law_simplest))) (l__law_simplest : K.lookup f__law_simplest = some ⟨oc__law_simplest, od__law_simplest, .func (PySem.W.fnOf "_law_simplest" "_law_simplest" (defArgs s__law_simplest) (defBody s__law_simplest) (defScope s__law_simplest) .none kV__law_simplest dc__law_simplest pm__law_simplest an__law_simplest cd__law_simplest ct__law_simplest), sl__law_simplest⟩) (c__law_simplest : PySem.W.codeIn K cd__law_simplest "_law_simplest" = true) (k__law_simplest : PySem.W.keepIn K (.ref f__law_simplest) = true)
  (a_law : PySem.W.nsIn K mainGlobals "law" = some (some (.ref f_law))) (l_law : K.lookup f_law = some ⟨oc_law, od_law, .func (PySem.W.fnOf "law" "law" (defArgs s_law) (defBody s_law) (defScope s_law) .none kV_law dc_law pm_law an_law cd_law ct_law), sl_law⟩) (c_law : PySem.W.codeIn K cd_law "law" = true) (k_law : PySem.W.keepIn K (.ref f_law) = true)
  {C_Unfit : Addr} (a_Unfit : PySem.W.nsIn K mainGlobals "Unfit" = some (some (.ref C_Unfit))) (e_Unfit : PySem.W.excIn K C_Unfit [.type "ValueError", .type "Exception", .type "BaseException", .type "object"] "ValueError.__new__" = true) (k_Unfit : PySem.W.keepIn K (.ref C_Unfit) = true) (b_Unfit : PySem.W.subIn K (.ref C_Unfit) (.type "BaseException") = some true) (t_Unfit : PySem.W.typeIn K (.ref C_Unfit) = some (.type "type"))
  (m_Unfit : PySem.W.subIn K (.ref C_Unfit) (.ref C_Unfit) = some true) (v_Unfit : PySem.W.subIn K (.ref C_Unfit) (.type "ValueError") = some true)
  (p1_Unfit : PySem.W.findIn K (.ref C_Unfit) "__getattribute__" = some (some (.builtin "BaseException.__getattribute__"))) (p2_Unfit : PySem.W.findIn K (.ref C_Unfit) "__getattr__" = some none) (p3_Unfit : PySem.W.hasDictIn K C_Unfit = true) (p4_Unfit : PySem.W.findIn K (.ref C_Unfit) "__class__" = some (some (.builtin "object.__class__"))) (p5_Unfit : PySem.W.mroIn K C_Unfit (.type "object") = some true)
  (p6 : PySem.W.specialIn K (.builtin "object.__class__") "__get__" = some (some (.builtin "getset_descriptor.__get__"))) (p7 : PySem.W.takesIn K (.builtin "object.__class__") = some true)
  (z_ValueError : PySem.W.nsIn K mainGlobals "ValueError" = some none)
  (z_abs : PySem.W.nsIn K mainGlobals "abs" = some none)
  (z_all : PySem.W.nsIn K mainGlobals "all" = some none)
  (z_bool : PySem.W.nsIn K mainGlobals "bool" = some none)
  (z_enumerate : PySem.W.nsIn K mainGlobals "enumerate" = some none)
  (z_int : PySem.W.nsIn K mainGlobals "int" = some none)
  (z_isinstance : PySem.W.nsIn K mainGlobals "isinstance" = some none)
  (z_len : PySem.W.nsIn K mainGlobals "len" = some none)
  (z_list : PySem.W.nsIn K mainGlobals "list" = some none)
  (z_min : PySem.W.nsIn K mainGlobals "min" = some none)
  (z_range : PySem.W.nsIn K mainGlobals "range" = some none)
  (z_str : PySem.W.nsIn K mainGlobals "str" = some none)
  (z_tuple : PySem.W.nsIn K mainGlobals "tuple" = some none)
  (z_zip : PySem.W.nsIn K mainGlobals "zip" = some none)
  (z_gcd : PySem.W.nsIn K mainGlobals "gcd" = some (some (.builtin "math.gcd"))) : Tx (adr mg) (fdo K mg) K mg := by
  have h_Unfit : adr mg "Unfit" = C_Unfit := by unfold adr; rw [PySem.W.mg_of X G a_Unfit]
  exact {
    n_ValueError := PySem.W.mg_none_of X G z_ValueError
    n_abs := PySem.W.mg_none_of X G z_abs
    n_all := PySem.W.mg_none_of X G z_all
    n_bool := PySem.W.mg_none_of X G z_bool
    n_enumerate := PySem.W.mg_none_of X G z_enumerate
    n_int := PySem.W.mg_none_of X G z_int
    n_isinstance := PySem.W.mg_none_of X G z_isinstance
    n_len := PySem.W.mg_none_of X G z_len
    n_list := PySem.W.mg_none_of X G z_list
    n_min := PySem.W.mg_none_of X G z_min
    n_range := PySem.W.mg_none_of X G z_range
    n_str := PySem.W.mg_none_of X G z_str
    n_tuple := PySem.W.mg_none_of X G z_tuple
    n_zip := PySem.W.mg_none_of X G z_zip
    b_gcd := PySem.W.mg_of X G z_gcd
    x_Unfit := by rw [h_Unfit]; exact ⟨PySem.W.mg_of X G a_Unfit, e_Unfit, k_Unfit, b_Unfit, t_Unfit⟩
    c_Unfit := by rw [h_Unfit]; exact ⟨⟨p1_Unfit, p2_Unfit, b_Unfit, p3_Unfit, p4_Unfit, p6, p7, p5_Unfit⟩, PySem.W.exm_ref b_Unfit p3_Unfit t_Unfit m_Unfit, kit_ve v_Unfit⟩
    g_is_number := (fun_of X G a_is_number l_is_number c_is_number k_is_number).1
    u_is_number := (fun_of X G a_is_number l_is_number c_is_number k_is_number).2
    g_is_from := (fun_of X G a_is_from l_is_from c_is_from k_is_from).1
    u_is_from := (fun_of X G a_is_from l_is_from c_is_from k_is_from).2
    g_is_long := (fun_of X G a_is_long l_is_long c_is_long k_is_long).1
    u_is_long := (fun_of X G a_is_long l_is_long c_is_long k_is_long).2
    g_tupled := (fun_of X G a_tupled l_tupled c_tupled k_tupled).1
    u_tupled := (fun_of X G a_tupled l_tupled c_tupled k_tupled).2
    g_divisor := (fun_of X G a_divisor l_divisor c_divisor k_divisor).1
    u_divisor := (fun_of X G a_divisor l_divisor c_divisor k_divisor).2
    g_is_fraction := (fun_of X G a_is_fraction l_is_fraction c_is_fraction k_is_fraction).1
    u_is_fraction := (fun_of X G a_is_fraction l_is_fraction c_is_fraction k_is_fraction).2
    g_sure_fraction := (fun_of X G a_sure_fraction l_sure_fraction c_sure_fraction k_sure_fraction).1
    u_sure_fraction := (fun_of X G a_sure_fraction l_sure_fraction c_sure_fraction k_sure_fraction).2
    g_made := (fun_of X G a_made l_made c_made k_made).1
    u_made := (fun_of X G a_made l_made c_made k_made).2
    g_fraction := (fun_of X G a_fraction l_fraction c_fraction k_fraction).1
    u_fraction := (fun_of X G a_fraction l_fraction c_fraction k_fraction).2
    g_two := (fun_of X G a_two l_two c_two k_two).1
    u_two := (fun_of X G a_two l_two c_two k_two).2
    g_added := (fun_of X G a_added l_added c_added k_added).1
    u_added := (fun_of X G a_added l_added c_added k_added).2
    g_negative := (fun_of X G a_negative l_negative c_negative k_negative).1
    u_negative := (fun_of X G a_negative l_negative c_negative k_negative).2
    g_less := (fun_of X G a_less l_less c_less k_less).1
    u_less := (fun_of X G a_less l_less c_less k_less).2
    g_times := (fun_of X G a_times l_times c_times k_times).1
    u_times := (fun_of X G a_times l_times c_times k_times).2
    g_over := (fun_of X G a_over l_over c_over k_over).1
    u_over := (fun_of X G a_over l_over c_over k_over).2
    g_compared := (fun_of X G a_compared l_compared c_compared k_compared).1
    u_compared := (fun_of X G a_compared l_compared c_compared k_compared).2
    g_less_than := (fun_of X G a_less_than l_less_than c_less_than k_less_than).1
    u_less_than := (fun_of X G a_less_than l_less_than c_less_than k_less_than).2
    g_floor_of := (fun_of X G a_floor_of l_floor_of c_floor_of k_floor_of).1
    u_floor_of := (fun_of X G a_floor_of l_floor_of c_floor_of k_floor_of).2
    g_ceiling_of := (fun_of X G a_ceiling_of l_ceiling_of c_ceiling_of k_ceiling_of).1
    u_ceiling_of := (fun_of X G a_ceiling_of l_ceiling_of c_ceiling_of k_ceiling_of).2
    g_middle := (fun_of X G a_middle l_middle c_middle k_middle).1
    u_middle := (fun_of X G a_middle l_middle c_middle k_middle).2
    g_simplest_above := (fun_of X G a_simplest_above l_simplest_above c_simplest_above k_simplest_above).1
    u_simplest_above := (fun_of X G a_simplest_above l_simplest_above c_simplest_above k_simplest_above).2
    g_simplest := (fun_of X G a_simplest l_simplest c_simplest k_simplest).1
    u_simplest := (fun_of X G a_simplest l_simplest c_simplest k_simplest).2
    g__law_box := (fun_of X G a__law_box l__law_box c__law_box k__law_box).1
    u__law_box := (fun_of X G a__law_box l__law_box c__law_box k__law_box).2
    g__law_take := (fun_of X G a__law_take l__law_take c__law_take k__law_take).1
    u__law_take := (fun_of X G a__law_take l__law_take c__law_take k__law_take).2
    g__law_cells := (fun_of X G a__law_cells l__law_cells c__law_cells k__law_cells).1
    u__law_cells := (fun_of X G a__law_cells l__law_cells c__law_cells k__law_cells).2
    g__law_of := (fun_of X G a__law_of l__law_of c__law_of k__law_of).1
    u__law_of := (fun_of X G a__law_of l__law_of c__law_of k__law_of).2
    g__law_same := (fun_of X G a__law_same l__law_same c__law_same k__law_same).1
    u__law_same := (fun_of X G a__law_same l__law_same c__law_same k__law_same).2
    g__law_low := (fun_of X G a__law_low l__law_low c__law_low k__law_low).1
    u__law_low := (fun_of X G a__law_low l__law_low c__law_low k__law_low).2
    g__law_times := (fun_of X G a__law_times l__law_times c__law_times k__law_times).1
    u__law_times := (fun_of X G a__law_times l__law_times c__law_times k__law_times).2
    g__law_unmarked := (fun_of X G a__law_unmarked l__law_unmarked c__law_unmarked k__law_unmarked).1
    u__law_unmarked := (fun_of X G a__law_unmarked l__law_unmarked c__law_unmarked k__law_unmarked).2
    g__law_call := (fun_of X G a__law_call l__law_call c__law_call k__law_call).1
    u__law_call := (fun_of X G a__law_call l__law_call c__law_call k__law_call).2
    g__law_plus := (fun_of X G a__law_plus l__law_plus c__law_plus k__law_plus).1
    u__law_plus := (fun_of X G a__law_plus l__law_plus c__law_plus k__law_plus).2
    g__law_heard := (fun_of X G a__law_heard l__law_heard c__law_heard k__law_heard).1
    u__law_heard := (fun_of X G a__law_heard l__law_heard c__law_heard k__law_heard).2
    g__law_number := (fun_of X G a__law_number l__law_number c__law_number k__law_number).1
    u__law_number := (fun_of X G a__law_number l__law_number c__law_number k__law_number).2
    g__law_simplest := (fun_of X G a__law_simplest l__law_simplest c__law_simplest k__law_simplest).1
    u__law_simplest := (fun_of X G a__law_simplest l__law_simplest c__law_simplest k__law_simplest).2
    g_law := (fun_of X G a_law l_law c_law k_law).1
    u_law := (fun_of X G a_law l_law c_law k_law).2 }
abbrev Good (A : Str → Addr) : Prop := [A "fraction", A "over", A "simplest"].Nodup
theorem all_mk {K : PySem.W.Frag} {h : Heap} {mg : Str → Option Value} {fa : Addr} (X : K.In h) (G : h.Ns mainGlobals mg) (hmg : mg "law" = some (.ref fa))
  (hp : ∀ A : Str → Addr, Good A → ∀ ns : List Int, ns.length ≤ 63 → (∀ z ∈ ns, Builtin.Int.intBits z ≤ 1048576) → ∃ S, F_law A [.fz (ns.map .int)] [] = .ok (.bl true) S)
  {oc_is_number : Value} {od_is_number an_is_number : Option Addr} {sl_is_number : Array (Option Value)} {kV_is_number dc_is_number pm_is_number cd_is_number ct_is_number : Value} {f_is_number : Addr}
  {oc_is_from : Value} {od_is_from an_is_from : Option Addr} {sl_is_from : Array (Option Value)} {kV_is_from dc_is_from pm_is_from cd_is_from ct_is_from : Value} {f_is_from : Addr}
  {oc_is_long : Value} {od_is_long an_is_long : Option Addr} {sl_is_long : Array (Option Value)} {kV_is_long dc_is_long pm_is_long cd_is_long ct_is_long : Value} {f_is_long : Addr}
  {oc_tupled : Value} {od_tupled an_tupled : Option Addr} {sl_tupled : Array (Option Value)} {kV_tupled dc_tupled pm_tupled cd_tupled ct_tupled : Value} {f_tupled : Addr}
  {oc_divisor : Value} {od_divisor an_divisor : Option Addr} {sl_divisor : Array (Option Value)} {kV_divisor dc_divisor pm_divisor cd_divisor ct_divisor : Value} {f_divisor : Addr}
  {oc_is_fraction : Value} {od_is_fraction an_is_fraction : Option Addr} {sl_is_fraction : Array (Option Value)} {kV_is_fraction dc_is_fraction pm_is_fraction cd_is_fraction ct_is_fraction : Value} {f_is_fraction : Addr}
  {oc_sure_fraction : Value} {od_sure_fraction an_sure_fraction : Option Addr} {sl_sure_fraction : Array (Option Value)} {kV_sure_fraction dc_sure_fraction pm_sure_fraction cd_sure_fraction ct_sure_fraction : Value} {f_sure_fraction : Addr}
  {oc_made : Value} {od_made an_made : Option Addr} {sl_made : Array (Option Value)} {kV_made dc_made pm_made cd_made ct_made : Value} {f_made : Addr}
  {oc_fraction : Value} {od_fraction an_fraction : Option Addr} {sl_fraction : Array (Option Value)} {kV_fraction dc_fraction pm_fraction cd_fraction ct_fraction : Value} {f_fraction : Addr}
  {oc_two : Value} {od_two an_two : Option Addr} {sl_two : Array (Option Value)} {kV_two dc_two pm_two cd_two ct_two : Value} {f_two : Addr}
  {oc_added : Value} {od_added an_added : Option Addr} {sl_added : Array (Option Value)} {kV_added dc_added pm_added cd_added ct_added : Value} {f_added : Addr}
  {oc_negative : Value} {od_negative an_negative : Option Addr} {sl_negative : Array (Option Value)} {kV_negative dc_negative pm_negative cd_negative ct_negative : Value} {f_negative : Addr}
  {oc_less : Value} {od_less an_less : Option Addr} {sl_less : Array (Option Value)} {kV_less dc_less pm_less cd_less ct_less : Value} {f_less : Addr}
  {oc_times : Value} {od_times an_times : Option Addr} {sl_times : Array (Option Value)} {kV_times dc_times pm_times cd_times ct_times : Value} {f_times : Addr}
  {oc_over : Value} {od_over an_over : Option Addr} {sl_over : Array (Option Value)} {kV_over dc_over pm_over cd_over ct_over : Value} {f_over : Addr}
  {oc_compared : Value} {od_compared an_compared : Option Addr} {sl_compared : Array (Option Value)} {kV_compared dc_compared pm_compared cd_compared ct_compared : Value} {f_compared : Addr}
  {oc_less_than : Value} {od_less_than an_less_than : Option Addr} {sl_less_than : Array (Option Value)} {kV_less_than dc_less_than pm_less_than cd_less_than ct_less_than : Value} {f_less_than : Addr}
  {oc_floor_of : Value} {od_floor_of an_floor_of : Option Addr} {sl_floor_of : Array (Option Value)} {kV_floor_of dc_floor_of pm_floor_of cd_floor_of ct_floor_of : Value} {f_floor_of : Addr}
  {oc_ceiling_of : Value} {od_ceiling_of an_ceiling_of : Option Addr} {sl_ceiling_of : Array (Option Value)} {kV_ceiling_of dc_ceiling_of pm_ceiling_of cd_ceiling_of ct_ceiling_of : Value} {f_ceiling_of : Addr}
  {oc_middle : Value} {od_middle an_middle : Option Addr} {sl_middle : Array (Option Value)} {kV_middle dc_middle pm_middle cd_middle ct_middle : Value} {f_middle : Addr}
  {oc_simplest_above : Value} {od_simplest_above an_simplest_above : Option Addr} {sl_simplest_above : Array (Option Value)} {kV_simplest_above dc_simplest_above pm_simplest_above cd_simplest_above ct_simplest_above : Value} {f_simplest_above : Addr}
  {oc_simplest : Value} {od_simplest an_simplest : Option Addr} {sl_simplest : Array (Option Value)} {kV_simplest dc_simplest pm_simplest cd_simplest ct_simplest : Value} {f_simplest : Addr}
  {oc__law_box : Value} {od__law_box an__law_box : Option Addr} {sl__law_box : Array (Option Value)} {kV__law_box dc__law_box pm__law_box cd__law_box ct__law_box : Value} {f__law_box : Addr}
  {oc__law_take : Value} {od__law_take an__law_take : Option Addr} {sl__law_take : Array (Option Value)} {kV__law_take dc__law_take pm__law_take cd__law_take ct__law_take : Value} {f__law_take : Addr}
  {oc__law_cells : Value} {od__law_cells an__law_cells : Option Addr} {sl__law_cells : Array (Option Value)} {kV__law_cells dc__law_cells pm__law_cells cd__law_cells ct__law_cells : Value} {f__law_cells : Addr}
  {oc__law_of : Value} {od__law_of an__law_of : Option Addr} {sl__law_of : Array (Option Value)} {kV__law_of dc__law_of pm__law_of cd__law_of ct__law_of : Value} {f__law_of : Addr}
  {oc__law_same : Value} {od__law_same an__law_same : Option Addr} {sl__law_same : Array (Option Value)} {kV__law_same dc__law_same pm__law_same cd__law_same ct__law_same : Value} {f__law_same : Addr}
  {oc__law_low : Value} {od__law_low an__law_low : Option Addr} {sl__law_low : Array (Option Value)} {kV__law_low dc__law_low pm__law_low cd__law_low ct__law_low : Value} {f__law_low : Addr}
  {oc__law_times : Value} {od__law_times an__law_times : Option Addr} {sl__law_times : Array (Option Value)} {kV__law_times dc__law_times pm__law_times cd__law_times ct__law_times : Value} {f__law_times : Addr}
  {oc__law_unmarked : Value} {od__law_unmarked an__law_unmarked : Option Addr} {sl__law_unmarked : Array (Option Value)} {kV__law_unmarked dc__law_unmarked pm__law_unmarked cd__law_unmarked ct__law_unmarked : Value} {f__law_unmarked : Addr}
  {oc__law_call : Value} {od__law_call an__law_call : Option Addr} {sl__law_call : Array (Option Value)} {kV__law_call dc__law_call pm__law_call cd__law_call ct__law_call : Value} {f__law_call : Addr}
  {oc__law_plus : Value} {od__law_plus an__law_plus : Option Addr} {sl__law_plus : Array (Option Value)} {kV__law_plus dc__law_plus pm__law_plus cd__law_plus ct__law_plus : Value} {f__law_plus : Addr}
  {oc__law_heard : Value} {od__law_heard an__law_heard : Option Addr} {sl__law_heard : Array (Option Value)} {kV__law_heard dc__law_heard pm__law_heard cd__law_heard ct__law_heard : Value} {f__law_heard : Addr}
  {oc__law_number : Value} {od__law_number an__law_number : Option Addr} {sl__law_number : Array (Option Value)} {kV__law_number dc__law_number pm__law_number cd__law_number ct__law_number : Value} {f__law_number : Addr}
  {oc__law_simplest : Value} {od__law_simplest an__law_simplest : Option Addr} {sl__law_simplest : Array (Option Value)} {kV__law_simplest dc__law_simplest pm__law_simplest cd__law_simplest ct__law_simplest : Value} {f__law_simplest : Addr}
  {oc_law : Value} {od_law an_law : Option Addr} {sl_law : Array (Option Value)} {kV_law dc_law pm_law cd_law ct_law : Value} {f_law : Addr}
  (a_is_number : PySem.W.nsIn K mainGlobals "is_number" = some (some (.ref f_is_number))) (l_is_number : K.lookup f_is_number = some ⟨oc_is_number, od_is_number, .func (PySem.W.fnOf "is_number" "is_number" (defArgs s_is_number) (defBody s_is_number) (defScope s_is_number) .none kV_is_number dc_is_number pm_is_number an_is_number cd_is_number ct_is_number), sl_is_number⟩) (c_is_number : PySem.W.codeIn K cd_is_number "is_number" = true) (k_is_number : PySem.W.keepIn K (.ref f_is_number) = true)
  (a_is_from : PySem.W.nsIn K mainGlobals "is_from" = some (some (.ref f_is_from))) (l_is_from : K.lookup f_is_from = some ⟨oc_is_from, od_is_from, .func (PySem.W.fnOf "is_from" "is_from" (defArgs s_is_from) (defBody s_is_from) (defScope s_is_from) .none kV_is_from dc_is_from pm_is_from an_is_from cd_is_from ct_is_from), sl_is_from⟩) (c_is_from : PySem.W.codeIn K cd_is_from "is_from" = true) (k_is_from : PySem.W.keepIn K (.ref f_is_from) = true)
  (a_is_long : PySem.W.nsIn K mainGlobals "is_long" = some (some (.ref f_is_long))) (l_is_long : K.lookup f_is_long = some ⟨oc_is_long, od_is_long, .func (PySem.W.fnOf "is_long" "is_long" (defArgs s_is_long) (defBody s_is_long) (defScope s_is_long) .none kV_is_long dc_is_long pm_is_long an_is_long cd_is_long ct_is_long), sl_is_long⟩) (c_is_long : PySem.W.codeIn K cd_is_long "is_long" = true) (k_is_long : PySem.W.keepIn K (.ref f_is_long) = true)
  (a_tupled : PySem.W.nsIn K mainGlobals "tupled" = some (some (.ref f_tupled))) (l_tupled : K.lookup f_tupled = some ⟨oc_tupled, od_tupled, .func (PySem.W.fnOf "tupled" "tupled" (defArgs s_tupled) (defBody s_tupled) (defScope s_tupled) .none kV_tupled dc_tupled pm_tupled an_tupled cd_tupled ct_tupled), sl_tupled⟩) (c_tupled : PySem.W.codeIn K cd_tupled "tupled" = true) (k_tupled : PySem.W.keepIn K (.ref f_tupled) = true)
  (a_divisor : PySem.W.nsIn K mainGlobals "divisor" = some (some (.ref f_divisor))) (l_divisor : K.lookup f_divisor = some ⟨oc_divisor, od_divisor, .func (PySem.W.fnOf "divisor" "divisor" (defArgs s_divisor) (defBody s_divisor) (defScope s_divisor) .none kV_divisor dc_divisor pm_divisor an_divisor cd_divisor ct_divisor), sl_divisor⟩) (c_divisor : PySem.W.codeIn K cd_divisor "divisor" = true) (k_divisor : PySem.W.keepIn K (.ref f_divisor) = true)
  (a_is_fraction : PySem.W.nsIn K mainGlobals "is_fraction" = some (some (.ref f_is_fraction))) (l_is_fraction : K.lookup f_is_fraction = some ⟨oc_is_fraction, od_is_fraction, .func (PySem.W.fnOf "is_fraction" "is_fraction" (defArgs s_is_fraction) (defBody s_is_fraction) (defScope s_is_fraction) .none kV_is_fraction dc_is_fraction pm_is_fraction an_is_fraction cd_is_fraction ct_is_fraction), sl_is_fraction⟩) (c_is_fraction : PySem.W.codeIn K cd_is_fraction "is_fraction" = true) (k_is_fraction : PySem.W.keepIn K (.ref f_is_fraction) = true)
  (a_sure_fraction : PySem.W.nsIn K mainGlobals "sure_fraction" = some (some (.ref f_sure_fraction))) (l_sure_fraction : K.lookup f_sure_fraction = some ⟨oc_sure_fraction, od_sure_fraction, .func (PySem.W.fnOf "sure_fraction" "sure_fraction" (defArgs s_sure_fraction) (defBody s_sure_fraction) (defScope s_sure_fraction) .none kV_sure_fraction dc_sure_fraction pm_sure_fraction an_sure_fraction cd_sure_fraction ct_sure_fraction), sl_sure_fraction⟩) (c_sure_fraction : PySem.W.codeIn K cd_sure_fraction "sure_fraction" = true) (k_sure_fraction : PySem.W.keepIn K (.ref f_sure_fraction) = true)
  (a_made : PySem.W.nsIn K mainGlobals "made" = some (some (.ref f_made))) (l_made : K.lookup f_made = some ⟨oc_made, od_made, .func (PySem.W.fnOf "made" "made" (defArgs s_made) (defBody s_made) (defScope s_made) .none kV_made dc_made pm_made an_made cd_made ct_made), sl_made⟩) (c_made : PySem.W.codeIn K cd_made "made" = true) (k_made : PySem.W.keepIn K (.ref f_made) = true)
  (a_fraction : PySem.W.nsIn K mainGlobals "fraction" = some (some (.ref f_fraction))) (l_fraction : K.lookup f_fraction = some ⟨oc_fraction, od_fraction, .func (PySem.W.fnOf "fraction" "fraction" (defArgs s_fraction) (defBody s_fraction) (defScope s_fraction) .none kV_fraction dc_fraction pm_fraction an_fraction cd_fraction ct_fraction), sl_fraction⟩) (c_fraction : PySem.W.codeIn K cd_fraction "fraction" = true) (k_fraction : PySem.W.keepIn K (.ref f_fraction) = true)
  (a_two : PySem.W.nsIn K mainGlobals "two" = some (some (.ref f_two))) (l_two : K.lookup f_two = some ⟨oc_two, od_two, .func (PySem.W.fnOf "two" "two" (defArgs s_two) (defBody s_two) (defScope s_two) .none kV_two dc_two pm_two an_two cd_two ct_two), sl_two⟩) (c_two : PySem.W.codeIn K cd_two "two" = true) (k_two : PySem.W.keepIn K (.ref f_two) = true)
  (a_added : PySem.W.nsIn K mainGlobals "added" = some (some (.ref f_added))) (l_added : K.lookup f_added = some ⟨oc_added, od_added, .func (PySem.W.fnOf "added" "added" (defArgs s_added) (defBody s_added) (defScope s_added) .none kV_added dc_added pm_added an_added cd_added ct_added), sl_added⟩) (c_added : PySem.W.codeIn K cd_added "added" = true) (k_added : PySem.W.keepIn K (.ref f_added) = true)
  (a_negative : PySem.W.nsIn K mainGlobals "negative" = some (some (.ref f_negative))) (l_negative : K.lookup f_negative = some ⟨oc_negative, od_negative, .func (PySem.W.fnOf "negative" "negative" (defArgs s_negative) (defBody s_negative) (defScope s_negative) .none kV_negative dc_negative pm_negative an_negative cd_negative ct_negative), sl_negative⟩) (c_negative : PySem.W.codeIn K cd_negative "negative" = true) (k_negative : PySem.W.keepIn K (.ref f_negative) = true)
  (a_less : PySem.W.nsIn K mainGlobals "less" = some (some (.ref f_less))) (l_less : K.lookup f_less = some ⟨oc_less, od_less, .func (PySem.W.fnOf "less" "less" (defArgs s_less) (defBody s_less) (defScope s_less) .none kV_less dc_less pm_less an_less cd_less ct_less), sl_less⟩) (c_less : PySem.W.codeIn K cd_less "less" = true) (k_less : PySem.W.keepIn K (.ref f_less) = true)
  (a_times : PySem.W.nsIn K mainGlobals "times" = some (some (.ref f_times))) (l_times : K.lookup f_times = some ⟨oc_times, od_times, .func (PySem.W.fnOf "times" "times" (defArgs s_times) (defBody s_times) (defScope s_times) .none kV_times dc_times pm_times an_times cd_times ct_times), sl_times⟩) (c_times : PySem.W.codeIn K cd_times "times" = true) (k_times : PySem.W.keepIn K (.ref f_times) = true)
  (a_over : PySem.W.nsIn K mainGlobals "over" = some (some (.ref f_over))) (l_over : K.lookup f_over = some ⟨oc_over, od_over, .func (PySem.W.fnOf "over" "over" (defArgs s_over) (defBody s_over) (defScope s_over) .none kV_over dc_over pm_over an_over cd_over ct_over), sl_over⟩) (c_over : PySem.W.codeIn K cd_over "over" = true) (k_over : PySem.W.keepIn K (.ref f_over) = true)
  (a_compared : PySem.W.nsIn K mainGlobals "compared" = some (some (.ref f_compared))) (l_compared : K.lookup f_compared = some ⟨oc_compared, od_compared, .func (PySem.W.fnOf "compared" "compared" (defArgs s_compared) (defBody s_compared) (defScope s_compared) .none kV_compared dc_compared pm_compared an_compared cd_compared ct_compared), sl_compared⟩) (c_compared : PySem.W.codeIn K cd_compared "compared" = true) (k_compared : PySem.W.keepIn K (.ref f_compared) = true)
  (a_less_than : PySem.W.nsIn K mainGlobals "less_than" = some (some (.ref f_less_than))) (l_less_than : K.lookup f_less_than = some ⟨oc_less_than, od_less_than, .func (PySem.W.fnOf "less_than" "less_than" (defArgs s_less_than) (defBody s_less_than) (defScope s_less_than) .none kV_less_than dc_less_than pm_less_than an_less_than cd_less_than ct_less_than), sl_less_than⟩) (c_less_than : PySem.W.codeIn K cd_less_than "less_than" = true) (k_less_than : PySem.W.keepIn K (.ref f_less_than) = true)
  (a_floor_of : PySem.W.nsIn K mainGlobals "floor_of" = some (some (.ref f_floor_of))) (l_floor_of : K.lookup f_floor_of = some ⟨oc_floor_of, od_floor_of, .func (PySem.W.fnOf "floor_of" "floor_of" (defArgs s_floor_of) (defBody s_floor_of) (defScope s_floor_of) .none kV_floor_of dc_floor_of pm_floor_of an_floor_of cd_floor_of ct_floor_of), sl_floor_of⟩) (c_floor_of : PySem.W.codeIn K cd_floor_of "floor_of" = true) (k_floor_of : PySem.W.keepIn K (.ref f_floor_of) = true)
  (a_ceiling_of : PySem.W.nsIn K mainGlobals "ceiling_of" = some (some (.ref f_ceiling_of))) (l_ceiling_of : K.lookup f_ceiling_of = some ⟨oc_ceiling_of, od_ceiling_of, .func (PySem.W.fnOf "ceiling_of" "ceiling_of" (defArgs s_ceiling_of) (defBody s_ceiling_of) (defScope s_ceiling_of) .none kV_ceiling_of dc_ceiling_of pm_ceiling_of an_ceiling_of cd_ceiling_of ct_ceiling_of), sl_ceiling_of⟩) (c_ceiling_of : PySem.W.codeIn K cd_ceiling_of "ceiling_of" = true) (k_ceiling_of : PySem.W.keepIn K (.ref f_ceiling_of) = true)
  (a_middle : PySem.W.nsIn K mainGlobals "middle" = some (some (.ref f_middle))) (l_middle : K.lookup f_middle = some ⟨oc_middle, od_middle, .func (PySem.W.fnOf "middle" "middle" (defArgs s_middle) (defBody s_middle) (defScope s_middle) .none kV_middle dc_middle pm_middle an_middle cd_middle ct_middle), sl_middle⟩) (c_middle : PySem.W.codeIn K cd_middle "middle" = true) (k_middle : PySem.W.keepIn K (.ref f_middle) = true)
  (a_simplest_above : PySem.W.nsIn K mainGlobals "simplest_above" = some (some (.ref f_simplest_above))) (l_simplest_above : K.lookup f_simplest_above = some ⟨oc_simplest_above, od_simplest_above, .func (PySem.W.fnOf "simplest_above" "simplest_above" (defArgs s_simplest_above) (defBody s_simplest_above) (defScope s_simplest_above) .none kV_simplest_above dc_simplest_above pm_simplest_above an_simplest_above cd_simplest_above ct_simplest_above), sl_simplest_above⟩) (c_simplest_above : PySem.W.codeIn K cd_simplest_above "simplest_above" = true) (k_simplest_above : PySem.W.keepIn K (.ref f_simplest_above) = true)
  (a_simplest : PySem.W.nsIn K mainGlobals "simplest" = some (some (.ref f_simplest))) (l_simplest : K.lookup f_simplest = some ⟨oc_simplest, od_simplest, .func (PySem.W.fnOf "simplest" "simplest" (defArgs s_simplest) (defBody s_simplest) (defScope s_simplest) .none kV_simplest dc_simplest pm_simplest an_simplest cd_simplest ct_simplest), sl_simplest⟩) (c_simplest : PySem.W.codeIn K cd_simplest "simplest" = true) (k_simplest : PySem.W.keepIn K (.ref f_simplest) = true)
  (a__law_box : PySem.W.nsIn K mainGlobals "_law_box" = some (some (.ref f__law_box))) (l__law_box : K.lookup f__law_box = some ⟨oc__law_box, od__law_box, .func (PySem.W.fnOf "_law_box" "_law_box" (defArgs s__law_box) (defBody s__law_box) (defScope s__law_box) .none kV__law_box dc__law_box pm__law_box an__law_box cd__law_box ct__law_box), sl__law_box⟩) (c__law_box : PySem.W.codeIn K cd__law_box "_law_box" = true) (k__law_box : PySem.W.keepIn K (.ref f__law_box) = true)
  (a__law_take : PySem.W.nsIn K mainGlobals "_law_take" = some (some (.ref f__law_take))) (l__law_take : K.lookup f__law_take = some ⟨oc__law_take, od__law_take, .func (PySem.W.fnOf "_law_take" "_law_take" (defArgs s__law_take) (defBody s__law_take) (defScope s__law_take) .none kV__law_take dc__law_take pm__law_take an__law_take cd__law_take ct__law_take), sl__law_take⟩) (c__law_take : PySem.W.codeIn K cd__law_take "_law_take" = true) (k__law_take : PySem.W.keepIn K (.ref f__law_take) = true)
  (a__law_cells : PySem.W.nsIn K mainGlobals "_law_cells" = some (some (.ref f__law_cells))) (l__law_cells : K.lookup f__law_cells = some ⟨oc__law_cells, od__law_cells, .func (PySem.W.fnOf "_law_cells" "_law_cells" (defArgs s__law_cells) (defBody s__law_cells) (defScope s__law_cells) .none kV__law_cells dc__law_cells pm__law_cells an__law_cells cd__law_cells ct__law_cells), sl__law_cells⟩) (c__law_cells : PySem.W.codeIn K cd__law_cells "_law_cells" = true) (k__law_cells : PySem.W.keepIn K (.ref f__law_cells) = true)
  (a__law_of : PySem.W.nsIn K mainGlobals "_law_of" = some (some (.ref f__law_of))) (l__law_of : K.lookup f__law_of = some ⟨oc__law_of, od__law_of, .func (PySem.W.fnOf "_law_of" "_law_of" (defArgs s__law_of) (defBody s__law_of) (defScope s__law_of) .none kV__law_of dc__law_of pm__law_of an__law_of cd__law_of ct__law_of), sl__law_of⟩) (c__law_of : PySem.W.codeIn K cd__law_of "_law_of" = true) (k__law_of : PySem.W.keepIn K (.ref f__law_of) = true)
  (a__law_same : PySem.W.nsIn K mainGlobals "_law_same" = some (some (.ref f__law_same))) (l__law_same : K.lookup f__law_same = some ⟨oc__law_same, od__law_same, .func (PySem.W.fnOf "_law_same" "_law_same" (defArgs s__law_same) (defBody s__law_same) (defScope s__law_same) .none kV__law_same dc__law_same pm__law_same an__law_same cd__law_same ct__law_same), sl__law_same⟩) (c__law_same : PySem.W.codeIn K cd__law_same "_law_same" = true) (k__law_same : PySem.W.keepIn K (.ref f__law_same) = true)
  (a__law_low : PySem.W.nsIn K mainGlobals "_law_low" = some (some (.ref f__law_low))) (l__law_low : K.lookup f__law_low = some ⟨oc__law_low, od__law_low, .func (PySem.W.fnOf "_law_low" "_law_low" (defArgs s__law_low) (defBody s__law_low) (defScope s__law_low) .none kV__law_low dc__law_low pm__law_low an__law_low cd__law_low ct__law_low), sl__law_low⟩) (c__law_low : PySem.W.codeIn K cd__law_low "_law_low" = true) (k__law_low : PySem.W.keepIn K (.ref f__law_low) = true)
  (a__law_times : PySem.W.nsIn K mainGlobals "_law_times" = some (some (.ref f__law_times))) (l__law_times : K.lookup f__law_times = some ⟨oc__law_times, od__law_times, .func (PySem.W.fnOf "_law_times" "_law_times" (defArgs s__law_times) (defBody s__law_times) (defScope s__law_times) .none kV__law_times dc__law_times pm__law_times an__law_times cd__law_times ct__law_times), sl__law_times⟩) (c__law_times : PySem.W.codeIn K cd__law_times "_law_times" = true) (k__law_times : PySem.W.keepIn K (.ref f__law_times) = true)
  (a__law_unmarked : PySem.W.nsIn K mainGlobals "_law_unmarked" = some (some (.ref f__law_unmarked))) (l__law_unmarked : K.lookup f__law_unmarked = some ⟨oc__law_unmarked, od__law_unmarked, .func (PySem.W.fnOf "_law_unmarked" "_law_unmarked" (defArgs s__law_unmarked) (defBody s__law_unmarked) (defScope s__law_unmarked) .none kV__law_unmarked dc__law_unmarked pm__law_unmarked an__law_unmarked cd__law_unmarked ct__law_unmarked), sl__law_unmarked⟩) (c__law_unmarked : PySem.W.codeIn K cd__law_unmarked "_law_unmarked" = true) (k__law_unmarked : PySem.W.keepIn K (.ref f__law_unmarked) = true)
  (a__law_call : PySem.W.nsIn K mainGlobals "_law_call" = some (some (.ref f__law_call))) (l__law_call : K.lookup f__law_call = some ⟨oc__law_call, od__law_call, .func (PySem.W.fnOf "_law_call" "_law_call" (defArgs s__law_call) (defBody s__law_call) (defScope s__law_call) .none kV__law_call dc__law_call pm__law_call an__law_call cd__law_call ct__law_call), sl__law_call⟩) (c__law_call : PySem.W.codeIn K cd__law_call "_law_call" = true) (k__law_call : PySem.W.keepIn K (.ref f__law_call) = true)
  (a__law_plus : PySem.W.nsIn K mainGlobals "_law_plus" = some (some (.ref f__law_plus))) (l__law_plus : K.lookup f__law_plus = some ⟨oc__law_plus, od__law_plus, .func (PySem.W.fnOf "_law_plus" "_law_plus" (defArgs s__law_plus) (defBody s__law_plus) (defScope s__law_plus) .none kV__law_plus dc__law_plus pm__law_plus an__law_plus cd__law_plus ct__law_plus), sl__law_plus⟩) (c__law_plus : PySem.W.codeIn K cd__law_plus "_law_plus" = true) (k__law_plus : PySem.W.keepIn K (.ref f__law_plus) = true)
  (a__law_heard : PySem.W.nsIn K mainGlobals "_law_heard" = some (some (.ref f__law_heard))) (l__law_heard : K.lookup f__law_heard = some ⟨oc__law_heard, od__law_heard, .func (PySem.W.fnOf "_law_heard" "_law_heard" (defArgs s__law_heard) (defBody s__law_heard) (defScope s__law_heard) .none kV__law_heard dc__law_heard pm__law_heard an__law_heard cd__law_heard ct__law_heard), sl__law_heard⟩) (c__law_heard : PySem.W.codeIn K cd__law_heard "_law_heard" = true) (k__law_heard : PySem.W.keepIn K (.ref f__law_heard) = true)
  (a__law_number : PySem.W.nsIn K mainGlobals "_law_number" = some (some (.ref f__law_number))) (l__law_number : K.lookup f__law_number = some ⟨oc__law_number, od__law_number, .func (PySem.W.fnOf "_law_number" "_law_number" (defArgs s__law_number) (defBody s__law_number) (defScope s__law_number) .none kV__law_number dc__law_number pm__law_number an__law_number cd__law_number ct__law_number), sl__law_number⟩) (c__law_number : PySem.W.codeIn K cd__law_number "_law_number" = true) (k__law_number : PySem.W.keepIn K (.ref f__law_number) = true)
  (a__law_simplest : PySem.W.nsIn K mainGlobals "_law_simplest" = some (some (.ref f__law_simplest))) (l__law_simplest : K.lookup f__law_simplest = some ⟨oc__law_simplest, od__law_simplest, .func (PySem.W.fnOf "_law_simplest" "_law_simplest" (defArgs s__law_simplest) (defBody s__law_simplest) (defScope s__law_simplest) .none kV__law_simplest dc__law_simplest pm__law_simplest an__law_simplest cd__law_simplest ct__law_simplest), sl__law_simplest⟩) (c__law_simplest : PySem.W.codeIn K cd__law_simplest "_law_simplest" = true) (k__law_simplest : PySem.W.keepIn K (.ref f__law_simplest) = true)
  (a_law : PySem.W.nsIn K mainGlobals "law" = some (some (.ref f_law))) (l_law : K.lookup f_law = some ⟨oc_law, od_law, .func (PySem.W.fnOf "law" "law" (defArgs s_law) (defBody s_law) (defScope s_law) .none kV_law dc_law pm_law an_law cd_law ct_law), sl_law⟩) (c_law : PySem.W.codeIn K cd_law "law" = true) (k_law : PySem.W.keepIn K (.ref f_law) = true)
  {C_Unfit : Addr} (a_Unfit : PySem.W.nsIn K mainGlobals "Unfit" = some (some (.ref C_Unfit))) (e_Unfit : PySem.W.excIn K C_Unfit [.type "ValueError", .type "Exception", .type "BaseException", .type "object"] "ValueError.__new__" = true) (k_Unfit : PySem.W.keepIn K (.ref C_Unfit) = true) (b_Unfit : PySem.W.subIn K (.ref C_Unfit) (.type "BaseException") = some true) (t_Unfit : PySem.W.typeIn K (.ref C_Unfit) = some (.type "type"))
  (m_Unfit : PySem.W.subIn K (.ref C_Unfit) (.ref C_Unfit) = some true) (v_Unfit : PySem.W.subIn K (.ref C_Unfit) (.type "ValueError") = some true)
  (p1_Unfit : PySem.W.findIn K (.ref C_Unfit) "__getattribute__" = some (some (.builtin "BaseException.__getattribute__"))) (p2_Unfit : PySem.W.findIn K (.ref C_Unfit) "__getattr__" = some none) (p3_Unfit : PySem.W.hasDictIn K C_Unfit = true) (p4_Unfit : PySem.W.findIn K (.ref C_Unfit) "__class__" = some (some (.builtin "object.__class__"))) (p5_Unfit : PySem.W.mroIn K C_Unfit (.type "object") = some true)
  (p6 : PySem.W.specialIn K (.builtin "object.__class__") "__get__" = some (some (.builtin "getset_descriptor.__get__"))) (p7 : PySem.W.takesIn K (.builtin "object.__class__") = some true)
  (z_ValueError : PySem.W.nsIn K mainGlobals "ValueError" = some none)
  (z_abs : PySem.W.nsIn K mainGlobals "abs" = some none)
  (z_all : PySem.W.nsIn K mainGlobals "all" = some none)
  (z_bool : PySem.W.nsIn K mainGlobals "bool" = some none)
  (z_enumerate : PySem.W.nsIn K mainGlobals "enumerate" = some none)
  (z_int : PySem.W.nsIn K mainGlobals "int" = some none)
  (z_isinstance : PySem.W.nsIn K mainGlobals "isinstance" = some none)
  (z_len : PySem.W.nsIn K mainGlobals "len" = some none)
  (z_list : PySem.W.nsIn K mainGlobals "list" = some none)
  (z_min : PySem.W.nsIn K mainGlobals "min" = some none)
  (z_range : PySem.W.nsIn K mainGlobals "range" = some none)
  (z_str : PySem.W.nsIn K mainGlobals "str" = some none)
  (z_tuple : PySem.W.nsIn K mainGlobals "tuple" = some none)
  (z_zip : PySem.W.nsIn K mainGlobals "zip" = some none)
  (z_gcd : PySem.W.nsIn K mainGlobals "gcd" = some (some (.builtin "math.gcd")))
  (hnd : [f_fraction, f_over, f_simplest].Nodup)
  : ∃ fd : FuncData, (∀ (s : Shared) (u : Value), BindsTo s fd ⟨[u], []⟩ [("script", u)]) ∧ ∀ (P : Program) (w : World) (base : Heap), FnOk P w K mg base (L2.CX P w) 11 fa fd ["script"] (spLaw K) := by
  have T := tx_mk X G a_is_number l_is_number c_is_number k_is_number a_is_from l_is_from c_is_from k_is_from a_is_long l_is_long c_is_long k_is_long a_tupled l_tupled c_tupled k_tupled a_divisor l_divisor c_divisor k_divisor a_is_fraction l_is_fraction c_is_fraction k_is_fraction a_sure_fraction l_sure_fraction c_sure_fraction k_sure_fraction a_made l_made c_made k_made a_fraction l_fraction c_fraction k_fraction a_two l_two c_two k_two a_added l_added c_added k_added a_negative l_negative c_negative k_negative a_less l_less c_less k_less a_times l_times c_times k_times a_over l_over c_over k_over a_compared l_compared c_compared k_compared a_less_than l_less_than c_less_than k_less_than a_floor_of l_floor_of c_floor_of k_floor_of a_ceiling_of l_ceiling_of c_ceiling_of k_ceiling_of a_middle l_middle c_middle k_middle a_simplest_above l_simplest_above c_simplest_above k_simplest_above a_simplest l_simplest c_simplest k_simplest a__law_box l__law_box c__law_box k__law_box a__law_take l__law_take c__law_take k__law_take a__law_cells l__law_cells c__law_cells k__law_cells a__law_of l__law_of c__law_of k__law_of a__law_same l__law_same c__law_same k__law_same a__law_low l__law_low c__law_low k__law_low a__law_times l__law_times c__law_times k__law_times a__law_unmarked l__law_unmarked c__law_unmarked k__law_unmarked a__law_call l__law_call c__law_call k__law_call a__law_plus l__law_plus c__law_plus k__law_plus a__law_heard l__law_heard c__law_heard k__law_heard a__law_number l__law_number c__law_number k__law_number a__law_simplest l__law_simplest c__law_simplest k__law_simplest a_law l_law c_law k_law a_Unfit e_Unfit k_Unfit b_Unfit t_Unfit m_Unfit v_Unfit p1_Unfit p2_Unfit p3_Unfit p4_Unfit p5_Unfit p6 p7 z_ValueError z_abs z_all z_bool z_enumerate z_int z_isinstance z_len z_list z_min z_range z_str z_tuple z_zip z_gcd
  have e : fa = adr mg "law" := Value.ref.inj (Option.some.inj (hmg.symm.trans T.g_law))
  subst e
  have y_fraction : adr mg "fraction" = f_fraction := by unfold adr; rw [PySem.W.mg_of X G a_fraction]
  have y_over : adr mg "over" = f_over := by unfold adr; rw [PySem.W.mg_of X G a_over]
  have y_simplest : adr mg "simplest" = f_simplest := by unfold adr; rw [PySem.W.mg_of X G a_simplest]
  have gd : Good (adr mg) := by
    show [adr mg "fraction", adr mg "over", adr mg "simplest"].Nodup
    rw [y_fraction, y_over, y_simplest]; exact hnd
  obtain ⟨oc, od, kV, doc, pm, an, cdv, ct, osl, ef, _⟩ := T.u_law.ex
  refine ⟨fdo K mg "law", fun s u => ?_, fun P w base => Sd.law_end (d_all T) (hp _ gd)⟩
  rw [ef]
  exact .of_eq rfl
end K91
namespace K91
open PySem PySem.Spec L2 RZ Sd
variable {A : Str → Addr} {S : Store}
def gq (q : Rat) : List D := [.int q.num, .int q.den]
def toD (q : Rat) : D := .tup [.int q.num, .int q.den]
theorem num_int (i : Int) : F_is_number A [.int i] S = .ok (.bl true) S := by
  unfold F_is_number
  rw [fn_ev]
  simp [b_is_number, st0, isTy]
theorem from_int (i j : Int) : F_is_from A [.int i, .int j] S = .ok (.bl (decide (j ≤ i))) S := by
  unfold F_is_from
  rw [fn_ev]
  simp [b_is_from, st0, num_int]
theorem long_pair (x y : D) : F_is_long A [.tup [x, y], .int 2] S = .ok (.bl true) S := by
  unfold F_is_long
  rw [fn_ev]
  simp [b_is_long, st0, isTy]
theorem tupled_int (n : Nat) (i : Int) : F_tupled A (n + 1) [.int i] S = .ok (.int i) S := by
  unfold F_tupled
  rw [fn_ev]
  simp [b_tupled, st0, isTy, tyN]
theorem tupled_pair (n : Nat) (a b : Int) : F_tupled A (n + 2) [.tup [.int a, .int b]] S = .ok (.tup [.int a, .int b]) (S ++ [[.int a, .int b]]) := by
  unfold F_tupled
  rw [fn_ev]
  have h := lc_pure (a := itSeq [.int a, .int b]) (t := .nm 1) (c := tvYes) (f := eCall (F_tupled A (n + 1)) (aCons (eVar 1) aNil)) (ρ := st0 2 [.tup [.int a, .int b]]) (it := iOf (eVar 0)) (vs := [1]) (xs := [.int a, .int b]) [.int a, .int b] (S := S) (S1 := S)
    (by simp [st0, itOf]) rfl (by simp) (fun i g => rfl) (fun i d y g h1 h2 => by
      refine ⟨_, nb_nm, rfl, ?_⟩
      rw [h1] at h2
      cases h2
      have : ∃ j, d = .int j := by
        match i, h1 with
        | 0, h1 => exact ⟨a, (Option.some.inj h1).symm⟩
        | 1, h1 => exact ⟨b, (Option.some.inj h1).symm⟩
      obtain ⟨j, rfl⟩ := this
      simp [st0, wipeL, tupled_int])
  simp only [st0] at h
  simp [b_tupled, st0, isTy, tyN]
  simp at h
  simp [h]
theorem divisor_pair (a b : Int) : F_divisor A [.tup [.int a, .int b]] S = .ok (.int (Int.gcd a b)) S := by
  unfold F_divisor
  rw [fn_ev]
  simp [b_divisor, st0]
  rw [for_seq (xs := [.int a, .int b]) (S1 := S) (by simp [itOf])]
  simp [forL_cons nb_nm, Int.gcd]
theorem isfrac {q : Rat} : F_is_fraction A [toD q] S = .ok (.bl true) S := by
  unfold F_is_fraction
  rw [fn_ev]
  have h1 : ¬ (q.den : Int) < 1 := by have := q.den_pos; omega
  have h2 : Int.gcd q.num q.den = 1 := q.reduced
  have h3 : (1 : Int) ≤ q.den := by omega
  simp [b_is_fraction, st0, toD, long_pair, num_int, from_int, divisor_pair, h3, h2]
theorem sure {q : Rat} : F_sure_fraction A [toD q] S = .ok (toD q) (S ++ [gq q]) := by
  unfold F_sure_fraction
  rw [fn_ev]
  have h := isfrac (A := A) (q := q) (S := S ++ [gq q])
  have h4 := tupled_pair (A := A) (S := S) 2 q.num q.den
  simp [toD, gq] at h
  simp [b_sure_fraction, st0, toD, gq, h4, h]
theorem two {p q : Rat} : F_two A [toD p, toD q] S = .ok (.tup [toD p, toD q]) (S ++ [gq p, gq q]) := by
  unfold F_two
  rw [fn_ev]
  simp [b_two, st0, sure]
end K91
namespace K91
open PySem PySem.Spec L2 RZ Sd
variable {A : Str → Addr} {S : Store}
theorem Sm.mono {k l : Nat} {i : Int} (h : Sm k i) (hl : k ≤ l) : Sm l i := Nat.lt_of_lt_of_le h (Nat.pow_le_pow_right (by decide) hl)
theorem Sm.mul {k l : Nat} {i j : Int} (hi : Sm k i) (hj : Sm l j) : Sm (k + l) (i * j) := by
  unfold Sm at *
  rw [Int.natAbs_mul, Nat.pow_add]
  exact Nat.mul_lt_mul'' hi hj
theorem Sm.add {k : Nat} {i j : Int} (hi : Sm k i) (hj : Sm k j) : Sm (k + 1) (i + j) := by
  unfold Sm at *
  rw [Nat.pow_succ]
  omega
theorem Sm.sub {k : Nat} {i j : Int} (hi : Sm k i) (hj : Sm k j) : Sm (k + 1) (i - j) := by
  unfold Sm at *
  rw [Nat.pow_succ]
  omega
theorem Sm.neg {k : Nat} {i : Int} (hi : Sm k i) : Sm k (-i) := by
  unfold Sm at *
  rw [Int.natAbs_neg]; exact hi
structure Bd (k : Nat) (q : Rat) : Prop where
  n : Sm k q.num
  d : Sm k q.den
theorem Bd.mono {k l : Nat} {q : Rat} (h : Bd k q) (hl : k ≤ l) : Bd l q := ⟨Sm.mono h.n hl, Sm.mono h.d hl⟩
theorem div_num (a b : Int) (hb : b ≠ 0) : (Rat.divInt a b).num = (if 0 < b then a else -a) / Int.gcd a b ∧ ((Rat.divInt a b).den : Int) = (if 0 < b then b else -b) / Int.gcd a b := by
  match b, hb with
  | .ofNat 0, hb => exact absurd rfl hb
  | .ofNat (n + 1), hb =>
    have e : Rat.divInt a (Int.ofNat (n + 1)) = Rat.normalize a (n + 1) (by omega) := by
      unfold Rat.divInt mkRat
      simp
    have e2 : ((n : Int) + 1).natAbs = n + 1 := by omega
    rw [e, Rat.num_normalize, Rat.den_normalize, if_pos (by simp), if_pos (by simp)]
    exact ⟨rfl, by simp [Int.gcd, e2]⟩
  | .negSucc n, hb =>
    have e : Rat.divInt a (Int.negSucc n) = Rat.normalize (-a) (n + 1) (by omega) := by
      unfold Rat.divInt
      rfl
    rw [e, Rat.num_normalize, Rat.den_normalize, if_neg (by simp), if_neg (by simp)]
    have g : (-a).natAbs.gcd (n + 1) = Int.gcd a (Int.negSucc n) := by
      unfold Int.gcd
      rw [Int.natAbs_neg]
      rfl
    rw [g]
    exact ⟨rfl, by simp [Int.neg_negSucc]⟩
theorem div_abs (a g : Int) (hg : 0 < g) : (a / g).natAbs ≤ a.natAbs := by
  rcases Int.lt_or_le a 0 with h | h
  · have h1 : a ≤ a / g := by
      rw [Int.le_ediv_iff_mul_le hg]
      have : a * g ≤ a * 1 := Int.mul_le_mul_of_nonpos_left (by omega) (by omega)
      omega
    have h2 : a / g < 0 := Int.ediv_neg_of_neg_of_pos h hg
    omega
  · have h1 := Int.ediv_le_self g h
    have h2 := Int.ediv_nonneg h (by omega : 0 ≤ g)
    omega
theorem gcd_pos {a b : Int} (hb : b ≠ 0) : 0 < (Int.gcd a b : Int) := by
  have : Int.gcd a b ≠ 0 := fun h => hb (Int.gcd_eq_zero_iff.mp h).2
  omega
theorem Bd.div {k : Nat} {a b : Int} (ha : Sm k a) (hb : Sm k b) (h0 : b ≠ 0) : Bd k (Rat.divInt a b) := by
  obtain ⟨h1, h2⟩ := div_num a b h0
  have g := gcd_pos (a := a) h0
  constructor
  · rw [h1]
    unfold Sm at *
    have := div_abs (if 0 < b then a else -a) _ g
    split at this <;> split <;> omega
  · rw [h2]
    unfold Sm at *
    have := div_abs (if 0 < b then b else -b) _ g
    split at this <;> split <;> omega
theorem mk_div (a : Int) (d e : Nat) : mkRat a (d * e) = Rat.divInt a ((d : Int) * e) := by
  rw [← Int.natCast_mul]; rfl
theorem add_div (p q : Rat) : p + q = Rat.divInt (p.num * q.den + q.num * p.den) (p.den * q.den) := by
  rw [Rat.add_def', mk_div]
theorem sub_div (p q : Rat) : p - q = Rat.divInt (p.num * q.den - q.num * p.den) (p.den * q.den) := by
  rw [Rat.sub_def', mk_div]
theorem mul_div (p q : Rat) : p * q = Rat.divInt (p.num * q.num) (p.den * q.den) := by
  rw [Rat.mul_def', mk_div]
theorem dd_ne (p q : Rat) : ((p.den : Int) * q.den) ≠ 0 := by
  have h1 := p.den_pos
  have h2 := q.den_pos
  have := Int.mul_pos (show (0 : Int) < p.den by omega) (show (0 : Int) < q.den by omega)
  omega
theorem dd_pos (p q : Rat) : 0 < ((p.den : Int) * q.den) := by
  have h1 := p.den_pos
  have h2 := q.den_pos
  exact Int.mul_pos (show (0 : Int) < p.den by omega) (show (0 : Int) < q.den by omega)
theorem Bd.add {k : Nat} {p q : Rat} (hp : Bd k p) (hq : Bd k q) : Bd (k + k + 1) (p + q) := by
  rw [add_div]
  exact Bd.div (Sm.add (Sm.mul hp.n hq.d) (Sm.mul hq.n hp.d)) (Sm.mono (Sm.mul hp.d hq.d) (by omega)) (dd_ne p q)
theorem Bd.sub {k : Nat} {p q : Rat} (hp : Bd k p) (hq : Bd k q) : Bd (k + k + 1) (p - q) := by
  rw [sub_div]
  exact Bd.div (Sm.sub (Sm.mul hp.n hq.d) (Sm.mul hq.n hp.d)) (Sm.mono (Sm.mul hp.d hq.d) (by omega)) (dd_ne p q)
theorem Bd.mul {k : Nat} {p q : Rat} (hp : Bd k p) (hq : Bd k q) : Bd (k + k) (p * q) := by
  rw [mul_div]
  exact Bd.div (Sm.mul hp.n hq.n) (Sm.mul hp.d hq.d) (dd_ne p q)
theorem Bd.neg {k : Nat} {p : Rat} (hp : Bd k p) : Bd k (-p) := ⟨Sm.neg hp.n, hp.d⟩
/-! made and what uses it -/
theorem Sm.gcd {k : Nat} {a b : Int} (hb : Sm k b) (h0 : b ≠ 0) : Sm k (Int.gcd a b) := by
  unfold Sm at *
  have : Int.gcd a b ≤ b.natAbs := Nat.le_of_dvd (by omega) (Nat.gcd_dvd_right _ _)
  rw [Int.natAbs_natCast]
  omega
theorem made {a b : Int} {k : Nat} (h0 : b ≠ 0) (hb : Sm k b) (hk : k < 9000) : F_made A [.int a, .int b] S = .ok (toD (Rat.divInt a b)) S := by
  unfold F_made
  rw [fn_ev]
  obtain ⟨h1, h2⟩ := div_num a b h0
  have g := gcd_pos (a := a) h0
  have e := fun i S => oDiv_int (S := S) (i := i) g (Sm.gcd hb h0) hk
  by_cases z : 0 < b
  · rw [if_pos z] at h1 h2
    simp [b_made, st0, divisor_pair, z, e, toD, h1, h2]
  · rw [if_neg z] at h1 h2
    simp [b_made, st0, divisor_pair, z, e, toD, h1, h2]
theorem added {p q : Rat} {k : Nat} (hp : Bd k p) (hq : Bd k q) (hk : k < 4000) : F_added A [toD p, toD q] S = .ok (toD (p + q)) (S ++ [gq p, gq q]) := by
  unfold F_added
  rw [fn_ev]
  have m1 := fun S => oMul_int (S := S) hp.n hq.d (by omega)
  have m2 := fun S => oMul_int (S := S) hq.n hp.d (by omega)
  have m3 := fun S => oMul_int (S := S) hp.d hq.d (by omega)
  have md := fun S => made (A := A) (S := S) (a := p.num * q.den + q.num * p.den) (dd_ne p q) (Sm.mul hp.d hq.d) (by omega)
  rw [add_div]
  simp [b_added, st0, two]
  simp [toD] at *
  simp [nb_tp, nb_nm, nbs_cons', nbs_nil, m1, m2, m3, md]
theorem less_ {p q : Rat} {k : Nat} (hp : Bd k p) (hq : Bd k q) (hk : k < 4000) : F_less A [toD p, toD q] S = .ok (toD (p - q)) (S ++ [gq p, gq q]) := by
  unfold F_less
  rw [fn_ev]
  have m1 := fun S => oMul_int (S := S) hp.n hq.d (by omega)
  have m2 := fun S => oMul_int (S := S) hq.n hp.d (by omega)
  have m3 := fun S => oMul_int (S := S) hp.d hq.d (by omega)
  have md := fun S => made (A := A) (S := S) (a := p.num * q.den - q.num * p.den) (dd_ne p q) (Sm.mul hp.d hq.d) (by omega)
  rw [sub_div]
  simp [b_less, st0, two]
  simp [toD] at *
  simp [nb_tp, nb_nm, nbs_cons', nbs_nil, m1, m2, m3, md]
theorem times_ {p q : Rat} {k : Nat} (hp : Bd k p) (hq : Bd k q) (hk : k < 4000) : F_times A [toD p, toD q] S = .ok (toD (p * q)) (S ++ [gq p, gq q]) := by
  unfold F_times
  rw [fn_ev]
  have m1 := fun S => oMul_int (S := S) hp.n hq.n (by omega)
  have m3 := fun S => oMul_int (S := S) hp.d hq.d (by omega)
  have md := fun S => made (A := A) (S := S) (a := p.num * q.num) (dd_ne p q) (Sm.mul hp.d hq.d) (by omega)
  rw [mul_div]
  simp [b_times, st0, two]
  simp [toD] at *
  simp [nb_tp, nb_nm, nbs_cons', nbs_nil, m1, m3, md]
theorem neg_ {p : Rat} : F_negative A [toD p] S = .ok (toD (-p)) (S ++ [gq p]) := by
  unfold F_negative
  rw [fn_ev]
  simp [b_negative, st0, sure]
  simp [toD, nb_tp, nb_nm, nbs_cons', nbs_nil]
theorem div_div' (p q : Rat) : p / q = Rat.divInt (p.num * q.den) (p.den * q.num) := by
  rw [Rat.div_def, Rat.inv_def]
  have e : p = Rat.divInt p.num p.den := by
    have := Rat.normalize_self p
    rw [Rat.normalize_eq_mkRat] at this
    exact this.symm
  conv => lhs; rw [e]
  rw [Rat.divInt_mul_divInt]
theorem over_ {p q : Rat} {k : Nat} (hp : Bd k p) (hq : Bd k q) (hk : k < 4000) (h0 : q.num ≠ 0) : F_over A [toD p, toD q] S = .ok (toD (p / q)) (S ++ [gq p, gq q]) := by
  unfold F_over
  rw [fn_ev]
  have m1 := fun S => oMul_int (S := S) hp.n hq.d (by omega)
  have m3 := fun S => oMul_int (S := S) hp.d hq.n (by omega)
  have hz : (p.den : Int) * q.num ≠ 0 := Int.mul_ne_zero (by have := p.den_pos; omega) h0
  have md := fun S => made (A := A) (S := S) (a := p.num * q.den) hz (Sm.mul hp.d hq.n) (by omega)
  rw [div_div']
  simp [b_over, st0, two]
  simp [toD] at *
  simp [nb_tp, nb_nm, nbs_cons', nbs_nil, m1, m3, md, h0]
theorem over_0 {p q : Rat} (h0 : q.num = 0) : ∃ S', F_over A [toD p, toD q] S = .exc (A "Unfit") S' ∧ S' = S ++ [gq p, gq q] := by
  unfold F_over
  rw [fn_ev]
  simp [b_over, st0, two]
  simp [toD] at *
  simp [nb_tp, nb_nm, nbs_cons', nbs_nil, h0]
def cmpQ (p q : Rat) : Int := (if q < p then 1 else 0) - (if p < q then 1 else 0)
theorem compared_ {p q : Rat} {k : Nat} (hp : Bd k p) (hq : Bd k q) (hk : k < 4000) : F_compared A [toD p, toD q] S = .ok (.int (cmpQ p q)) (S ++ [gq p, gq q]) := by
  unfold F_compared
  rw [fn_ev]
  have m1 := fun S => oMul_int (S := S) hp.n hq.d (by omega)
  have m2 := fun S => oMul_int (S := S) hq.n hp.d (by omega)
  simp [b_compared, st0, two]
  simp [toD] at *
  simp [nb_tp, nb_nm, nbs_cons', nbs_nil, m1, m2, cmpQ, Rat.lt_iff]
theorem less_than_ {p q : Rat} {k : Nat} (hp : Bd k p) (hq : Bd k q) (hk : k < 4000) : F_less_than A [toD p, toD q] S = .ok (.bl (decide (p < q))) (S ++ [gq p, gq q]) := by
  unfold F_less_than
  rw [fn_ev]
  simp [b_less_than, st0, compared_ hp hq hk]
  unfold cmpQ
  by_cases h1 : p < q
  · have h2 : ¬ q < p := Rat.not_lt.mpr (Rat.le_of_lt h1)
    simp [h1, h2]
  · by_cases h2 : q < p
    · simp [h1, h2]
    · simp [h1, h2]
theorem den_p (p : Rat) : (0 : Int) < p.den := by have := p.den_pos; omega
theorem floor_ {p : Rat} {k : Nat} (hp : Bd k p) (hk : k < 4000) : F_floor_of A [toD p] S = .ok (.int (p.num / p.den)) (S ++ [gq p]) := by
  unfold F_floor_of
  rw [fn_ev]
  have m := fun i S => oDiv_int (S := S) (i := i) (den_p p) hp.d (by omega)
  simp [b_floor_of, st0, sure]
  simp [toD, nb_tp, nb_nm, nbs_cons', nbs_nil, m]
theorem ceil_ {p : Rat} {k : Nat} (hp : Bd k p) (hk : k < 4000) : F_ceiling_of A [toD p] S = .ok (.int (-(-p.num / p.den))) (S ++ [gq p]) := by
  unfold F_ceiling_of
  rw [fn_ev]
  have m := fun i S => oDiv_int (S := S) (i := i) (den_p p) hp.d (by omega)
  simp [b_ceiling_of, st0, sure]
  simp [toD, nb_tp, nb_nm, nbs_cons', nbs_nil, m]
theorem half_div (p q : Rat) : (p + q) * (1 / 2) = Rat.divInt (p.num * q.den + q.num * p.den) (2 * p.den * q.den) := by
  rw [add_div, show (1 / 2 : Rat) = Rat.divInt 1 2 from (Rat.divInt_eq_div 1 2).symm, Rat.divInt_mul_divInt]
  congr 1
  · omega
  · grind
theorem middle_ {p q : Rat} {k : Nat} (hp : Bd k p) (hq : Bd k q) (hk : k < 3000) : F_middle A [toD p, toD q] S = .ok (toD ((p + q) * (1 / 2))) (S ++ [gq p, gq q]) := by
  unfold F_middle
  rw [fn_ev]
  have s2 : Sm 2 2 := by unfold Sm; decide
  have m1 := fun S => oMul_int (S := S) hp.n hq.d (by omega)
  have m2 := fun S => oMul_int (S := S) hq.n hp.d (by omega)
  have m3 := fun S => oMul_int (S := S) s2 hp.d (by omega)
  have m4 := fun S => oMul_int (S := S) (Sm.mul s2 hp.d) hq.d (by omega)
  have hz : (2 * (p.den : Int) * q.den) ≠ 0 := Int.mul_ne_zero (Int.mul_ne_zero (by decide) (by have := den_p p; omega)) (by have := den_p q; omega)
  have md := fun S => made (A := A) (S := S) (a := p.num * q.den + q.num * p.den) hz (Sm.mul (Sm.mul s2 hp.d) hq.d) (by omega)
  rw [half_div]
  simp [b_middle, st0, two]
  simp [toD] at *
  simp [nb_tp, nb_nm, nbs_cons', nbs_nil, m1, m2, m3, m4, md]
theorem frac_ {a b : Int} {k : Nat} (h0 : b ≠ 0) (hb : Sm k b) (hk : k < 9000) : F_fraction A [.int a, .int b] S = .ok (toD (Rat.divInt a b)) S := by
  unfold F_fraction
  rw [fn_ev]
  simp [b_fraction, st0, h0, made h0 hb hk]
theorem frac_0 {a : Int} : F_fraction A [.int a, .int 0] S = .exc (A "Unfit") S := by
  unfold F_fraction
  rw [fn_ev]
  simp [b_fraction, st0]
end K91
namespace K91
open PySem PySem.Spec L2 RZ Sd
variable {A : Str → Addr} {S : Store}
theorem oSet_eq {r : Nat} {k : Int} {d : D} : oSet (.lst r) (.int k) d S = (S[r]?).bind fun xs => (ixN xs.length k).map fun j => S.set r (xs.set j d) := rfl
theorem gcd_loop (a b : Int) (h : a.natAbs < fuel) :
    sWhile (tvB (eBin oGt (eVar 2) (eC (.int 0)))) (sPar 2 3 (aCons (eBin oMod (eVar 3) (eVar 2)) (aCons (eVar 2) aNil))) [some (.int a), some (.int b), some (.int a.natAbs), some (.int b.natAbs), none] S =
      .nx [some (.int a), some (.int b), some (.int 0), some (.int (Int.gcd a b)), none] S := by
  refine while_run (fun n ρ S' => S' = S ∧ ∃ x y : Nat, n = x ∧ ρ = [some (.int a), some (.int b), some (.int x), some (.int y), none] ∧ Nat.gcd x y = Int.gcd a b)
    (fun z => z = .nx [some (.int a), some (.int b), some (.int 0), some (.int (Int.gcd a b)), none] S) a.natAbs h ⟨rfl, a.natAbs, b.natAbs, rfl, rfl, rfl⟩ ?_
  rintro n ρ S' ⟨rfl, x, y, rfl, rfl, hg⟩
  by_cases hx : n = 0
  · subst hx
    refine .inl ⟨S', by simp, ?_⟩
    rw [Nat.gcd_zero_left] at hg
    rw [hg]; rfl
  · have hp : (0 : Int) < n := by omega
    refine .inr ⟨S', by simp [hp, Nat.pos_of_ne_zero hx], .inl ⟨[some (.int a), some (.int b), some (.int ((y % n : Nat) : Int)), some (.int n), none], S', y % n, .inl ?_, Nat.mod_lt _ (Nat.pos_of_ne_zero hx), rfl, y % n, n, rfl, rfl, ?_⟩⟩
    · simp [oMod_int hp]
    · rw [← hg, Nat.gcd_rec n y]
theorem abs_eq (a : Int) : (if a < 0 then -a else a) = (a.natAbs : Int) := by
  split <;> omega
theorem low_ {a b : Int} {k : Nat} (h0 : b ≠ 0) (ha : Sm k a) (hb : Sm k b) (hk : k < 139) : F__law_low A [.int a, .int b] S = .ok (toD (Rat.divInt a b)) S := by
  unfold F__law_low
  rw [fn_ev]
  have hf : a.natAbs < fuel := by
    unfold Sm at ha
    have : 2 ^ k ≤ 2 ^ 138 := Nat.pow_le_pow_right (by decide) (by omega)
    have : 2 ^ 138 < fuel := by unfold fuel; decide
    omega
  have s1 : Sm 1 1 := by unfold Sm; decide
  have s2 : Sm 1 (-1) := by unfold Sm; decide
  obtain ⟨h1, h2⟩ := div_num a b h0
  have g := gcd_pos (a := a) h0
  have e := fun i S => oDiv_int (S := S) (i := i) g (Sm.gcd hb h0) (by omega)
  have w := gcd_loop (S := S) a b hf
  have m1 := fun S => oMul_int (S := S) s1 ha (by omega)
  have m2 := fun S => oMul_int (S := S) s1 hb (by omega)
  have m3 := fun S => oMul_int (S := S) s2 ha (by omega)
  have m4 := fun S => oMul_int (S := S) s2 hb (by omega)
  by_cases z : 0 < b
  · rw [if_pos z] at h1 h2
    simp [b__law_low, st0, abs_eq, w, z, m1, m2, e, toD, h1, h2, -x_tvB, -x_sPar, -x_eBin]
    simp [b__law_low, st0, abs_eq, w, z, m1, m2, e, toD, h1, h2]
  · rw [if_neg z] at h1 h2
    simp [b__law_low, st0, abs_eq, w, z, m3, m4, e, toD, h1, h2, -x_tvB, -x_sPar, -x_eBin]
    simp [b__law_low, st0, abs_eq, w, z, m3, m4, e, toD, h1, h2]
end K91
namespace K91
open PySem PySem.Spec L2 RZ Sd
variable {A : Str → Addr} {S : Store}
theorem lplus_ {p q : Rat} {k : Nat} (hp : Bd k p) (hq : Bd k q) (hk : k < 69) : F__law_plus A [toD p, toD q] S = .ok (toD (p + q)) S := by
  unfold F__law_plus
  rw [fn_ev]
  have m1 := fun S => oMul_int (S := S) hp.n hq.d (by omega)
  have m2 := fun S => oMul_int (S := S) hq.n hp.d (by omega)
  have m3 := fun S => oMul_int (S := S) hp.d hq.d (by omega)
  have md := fun S => low_ (A := A) (S := S) (a := p.num * q.den + q.num * p.den) (dd_ne p q) (Sm.add (Sm.mul hp.n hq.d) (Sm.mul hq.n hp.d)) (Sm.mono (Sm.mul hp.d hq.d) (by omega)) (by omega)
  rw [add_div]
  simp [toD] at md
  simp [b__law_plus, st0, toD, m1, m2, m3, md]
theorem ltimes_ {p q : Rat} {k l : Nat} (hp : Bd k p) (hq : Bd l q) (hk : k + l < 139) : F__law_times A [toD p, toD q] S = .ok (toD (p * q)) S := by
  unfold F__law_times
  rw [fn_ev]
  have m1 := fun S => oMul_int (S := S) hp.n hq.n (by omega)
  have m3 := fun S => oMul_int (S := S) hp.d hq.d (by omega)
  have md := fun S => low_ (A := A) (S := S) (a := p.num * q.num) (dd_ne p q) (Sm.mul hp.n hq.n) (Sm.mul hp.d hq.d) (by omega)
  rw [mul_div]
  simp [toD] at md
  simp [b__law_times, st0, toD, m1, m3, md]
/-! the draws -/
def Tin (c r : Nat) (S : Store) : Prop := ∃ x y n : Int, S[r]? = some [.int x, .int y, .int n] ∧ 0 ≤ y ∧ Sm 64 y ∧ 0 ≤ n ∧ n ≤ c
theorem Tin.lt {c r : Nat} {S : Store} (h : Tin c r S) : r < S.length := by
  obtain ⟨x, y, n, h, _⟩ := h
  exact (List.getElem?_eq_some_iff.mp h).1
theorem Tin.app {c r : Nat} {S : Store} (h : Tin c r S) (g : Store) : Tin c r (S ++ g) := by
  obtain ⟨x, y, n, h, h2⟩ := h
  exact ⟨x, y, n, by rw [List.getElem?_append_left (List.getElem?_eq_some_iff.mp h).1]; exact h, h2⟩
theorem Sm.of {k : Nat} {i : Int} (h0 : 0 ≤ i) (h : i < ((2 ^ k : Nat) : Int)) : Sm k i := by
  unfold Sm; omega
theorem take_ {c r k : Nat} {j : Int} (hT : Tin c r S) (hc : c < 1000000) (h0 : 0 < j) (hj : Sm k j) (hk : k < 9000) :
    ∃ v S', F__law_take A [.lst r, .int j] S = .ok (.int v) S' ∧ 0 ≤ v ∧ v < j ∧ Tin (c + 1) r S' ∧ S'.length = S.length ∧ ∀ q, q ≠ r → S'[q]? = S[q]? := by
  obtain ⟨x, y, n, hS, hy, hy2, hn, hnc⟩ := hT
  obtain ⟨hr, hg⟩ := List.getElem?_eq_some_iff.mp hS
  unfold F__law_take
  rw [fn_ev]
  have md := fun i S => oMod_int (S := S) (i := i) h0
  by_cases hx : 0 < x
  · have dv := fun i S => oDiv_int (S := S) (i := i) h0 hj hk
    refine ⟨x % j, S.set r [.int (x / j), .int y, .int n], ?_, Int.emod_nonneg _ (by omega), Int.emod_lt_of_pos _ h0, ⟨x / j, y, n, by simp [hr], hy, hy2, hn, by omega⟩, by simp, fun q hq => List.getElem?_set_ne (Ne.symm hq)⟩
    simp [b__law_take, st0, hS, hx, md, dv, oSet_eq, ixN]
  · have n1 : Sm 21 (n + 1) := Sm.of (by omega) (by omega)
    have a1 : Sm 16 48271 := by unfold Sm; decide
    have t1 := Sm.mul a1 n1
    have t2 := Sm.add hy2 (Sm.mono t1 (by decide : 16 + 21 ≤ 64))
    have t3 : Sm 22 (39373 + (n + 1)) := Sm.of (by omega) (by omega)
    have M := fun (i : Int) (j : Int) (S : Store) (h : 0 < j) => oMod_int (S := S) (i := i) h
    generalize e1 : (y + 48271 * (n + 1)) * (39373 + (n + 1)) = o1
    have b1 : 0 ≤ o1 % 2147483647 := Int.emod_nonneg _ (by decide)
    have b2 : o1 % 2147483647 < 2147483647 := Int.emod_lt_of_pos _ (by decide)
    generalize e2 : o1 % 2147483647 = o2 at b1 b2
    have b3 : 0 ≤ o2 % 40009 := Int.emod_nonneg _ (by decide)
    have b4 : o2 % 40009 < 40009 := Int.emod_lt_of_pos _ (by decide)
    generalize e3 : o2 % 40009 = o3 at b3 b4
    have t4 : Sm 17 (o3 + 7) := Sm.of (by omega) (by omega)
    have b5 : 0 ≤ y / 1000003 := Int.ediv_nonneg hy (by decide)
    have b6 : y / 1000003 ≤ y := Int.ediv_le_self _ hy
    have t5 : Sm 66 (o2 + (n + 1) + y / 1000003) := by
      refine Sm.of (by omega) ?_
      have : y < 2 ^ 64 := by unfold Sm at hy2; omega
      omega
    generalize e4 : (o2 + (n + 1) + y / 1000003) * (o3 + 7) = o4
    have b7 : 0 ≤ o4 % 2147483629 := Int.emod_nonneg _ (by decide)
    have b8 : o4 % 2147483629 < 2147483629 := Int.emod_lt_of_pos _ (by decide)
    generalize e5 : o4 % 2147483629 = o5 at b7 b8
    have t6 : Sm 32 o5 := Sm.of (by omega) (by omega)
    have q1 := fun S => oMul_int (S := S) a1 n1 (by omega)
    have q2 := fun S => oMul_int (S := S) t2 t3 (by omega)
    have q3 := fun S => oMul_int (S := S) t5 t4 (by omega)
    have q4 := fun S => oMul_int (S := S) t6 a1 (by omega)
    have d1 := fun i S => oDiv_int (S := S) (i := i) (j := 1000003) (k := 21) (by decide) (by unfold Sm; decide) (by decide)
    have d2 := fun i S => oDiv_int (S := S) (i := i) (j := 64) (k := 21) (by decide) (by unfold Sm; decide) (by decide)
    have p1 := fun i S => oMod_int (S := S) (i := i) (j := 2147483647) (by decide)
    have p2 := fun i S => oMod_int (S := S) (i := i) (j := 40009) (by decide)
    have p3 := fun i S => oMod_int (S := S) (i := i) (j := 2147483629) (by decide)
    have p4 := fun i S => oMod_int (S := S) (i := i) (j := 2147483587) (by decide)
    refine ⟨(o5 * 48271 + o2) % 2147483587 / 64 % j, S.set r [.int x, .int y, .int (n + 1)], ?_, Int.emod_nonneg _ (by omega), Int.emod_lt_of_pos _ h0, ⟨x, y, n + 1, by simp [hr], hy, hy2, by omega, by omega⟩, by simp, fun q hq => List.getElem?_set_ne (Ne.symm hq)⟩
    simp [b__law_take, st0, hg, hx, hr, oSet_eq, ixN, q1, q2, e1, p1, e2, p2, e3, d1, q3, e4, p3, e5, q4, p4, d2, md]
theorem of_ {c r q : Nat} {ds : List D} (hT : Tin c r S) (hc : c < 1000000) (hq : S[q]? = some ds) (hr : q ≠ r) (h0 : 0 < ds.length) (hk : ds.length < 1000) :
    ∃ d ∈ ds, ∃ S', F__law_of A [.lst r, .lst q] S = .ok d S' ∧ Tin (c + 1) r S' ∧ S'.length = S.length := by
  have hs : Sm 10 ds.length := Sm.of (by omega) (by omega)
  obtain ⟨v, S', h1, h2, h3, h4, h5, h6⟩ := take_ (A := A) hT hc (j := ds.length) (by omega) hs (by decide)
  obtain ⟨w, rfl⟩ := Int.eq_ofNat_of_zero_le h2
  have hw : w < ds.length := by omega
  refine ⟨ds[w], List.getElem_mem hw, S', ?_, h4, h5⟩
  unfold F__law_of
  rw [fn_ev]
  have h7 : S'[q]? = some ds := by rw [h6 q hr, hq]
  simp [b__law_of, st0, hq, h1, h7, Sd.atI_nat, List.getElem?_eq_getElem hw]
theorem number_ {c r : Nat} (hT : Tin c r S) (hc : c < 900000) :
    ∃ q S', F__law_number A [.lst r] S = .ok (toD q) S' ∧ Bd 67 q ∧ Tin (c + 3) r S' := by
  have hr := hT.lt
  obtain ⟨d, hd, S1, h1, h2, h3⟩ := of_ (A := A) (hT.app [[.int 5, .int 40, .int 1000, .int (10 ^ 20)]]) (by omega) (q := S.length) (ds := [.int 5, .int 40, .int 1000, .int (10 ^ 20)]) (by simp) (by omega) (by simp) (by simp)
  obtain ⟨g, rfl, hg0, hg1⟩ : ∃ g : Int, d = .int g ∧ 0 < g ∧ g ≤ 10 ^ 20 := by
    simp at hd
    rcases hd with rfl | rfl | rfl | rfl
    · exact ⟨5, rfl, by decide, by decide⟩
    · exact ⟨40, rfl, by decide, by decide⟩
    · exact ⟨1000, rfl, by decide, by decide⟩
    · exact ⟨_, rfl, by decide, by decide⟩
  have s2 : Sm 2 2 := by unfold Sm; decide
  have sg : Sm 67 g := Sm.of (by omega) (by omega)
  obtain ⟨v1, S2, a1, a2, a3, a4, a5, a6⟩ := take_ (A := A) h2 (by omega) (j := 2 * g) (by omega) (Sm.mul s2 sg) (by omega)
  obtain ⟨v2, S3, b1, b2, b3, b4, b5, b6⟩ := take_ (A := A) a4 (by omega) hg0 sg (by omega)
  have sn : Sm 67 (v1 - g) := by unfold Sm; omega
  have sd : Sm 67 (1 + v2) := by unfold Sm; omega
  refine ⟨Rat.divInt (v1 - g) (1 + v2), S3, ?_, Bd.div sn sd (by omega), b4⟩
  unfold F__law_number
  rw [fn_ev]
  have m1 := fun S => oMul_int (S := S) s2 sg (by omega)
  have fr := fun S => frac_ (A := A) (S := S) (a := v1 - g) (by omega : (1 + v2) ≠ 0) sd (by omega)
  have pw : ∀ S, oPow (.int 10) (.int 20) S = some (.int (10 ^ 20), S) := fun S => by simp [oPow]
  simp at h1
  simp [b__law_number, st0, pw, h1, m1, a1, b1, fr]
end K91
namespace K91
open PySem PySem.Spec L2 RZ Sd
variable {A : Str → Addr} {S : Store}
/-- a value of the script's first cell -/
theorem box_ {q : Nat} {v : Int} (hS : S[q]? = some [.int v]) (hv : Sm 1100000 v) : ∃ S', F__law_box A [.lst q, .int 0] S = .ok (.lst S.length) S' ∧ Tin 0 S.length S' := by
  unfold F__law_box
  rw [fn_ev]
  have pw : ∀ S, oPow (.int 10) (.int 18) S = some (.int (10 ^ 18), S) := fun S => by simp [oPow]
  have hz : ∀ b : Bool, Sm 1 (if b = true then 1 else 0) := fun b => by unfold Sm; cases b <;> decide
  have ha : Sm 1100000 (if v < 0 then -v else v) := by unfold Sm at *; split <;> omega
  have m1 := fun S b => oMul_int (S := S) ha (hz b) (by omega)
  have m2 : ∀ S, oMul (.int 39373) (.int 0) S = some (.int 0, S) := fun S => oMul_int (S := S) (i := 39373) (j := 0) (k := 20) (l := 1) (by unfold Sm; decide) (by unfold Sm; decide) (by decide)
  have p1 := fun i S => oMod_int (S := S) (i := i) (j := 2305843009213693951) (by decide)
  have b1 : 0 ≤ v % 2305843009213693951 := Int.emod_nonneg _ (by decide)
  have b2 : v % 2305843009213693951 < 2305843009213693951 := Int.emod_lt_of_pos _ (by decide)
  refine ⟨S ++ [[.int ((v.natAbs : Int) * (if 10 ^ 18 ≤ (v.natAbs : Int) then 1 else 0)), .int (v % 2305843009213693951 + 0 + 3179068), .int 0]], ?_, ((v.natAbs : Int) * (if 10 ^ 18 ≤ (v.natAbs : Int) then 1 else 0)), v % 2305843009213693951 + 0 + 3179068, 0, ?_, by omega, Sm.of (by omega) (by omega), by decide, by decide⟩
  · simp only [abs_eq] at m1
    have m1' := fun S => m1 S (decide (10 ^ 18 ≤ (v.natAbs : Int)))
    simp at m1'
    simp [b__law_box, st0, hS, pw, abs_eq, m1', m2, p1]
  · simp
theorem bits_sm {z : Int} (h : Builtin.Int.intBits z ≤ 1048576) : Sm 1048576 z := by
  unfold Builtin.Int.intBits at h
  unfold Sm
  split at h
  · rename_i e
    have : z = 0 := by simpa using e
    subst this
    exact Nat.two_pow_pos _
  · rename_i e
    have hz : z.natAbs ≠ 0 := by
      intro h0
      apply e
      have : z = 0 := by omega
      simp [this]
    exact Nat.lt_of_lt_of_le Nat.lt_log2_self (Nat.pow_le_pow_right (by decide) h)
theorem cells_ {ns : List Int} (hl : ns.length ≤ 63) (hb : ∀ z ∈ ns, Builtin.Int.intBits z ≤ 1048576) : ∃ q v S', F__law_cells A [.fz (ns.map .int), .int 1] S = .ok (.lst q) S' ∧ S'[q]? = some [.int v] ∧ Sm 1100000 v := by
  -- what the first list holds
  have first : ∃ q v S1, sSet 2 (eOr (eCallO cList (aCons (eSl (eVar 0) oNone (oSome (eVar 1))) aNil)) (eLst (aCons (eC (.int 0)) aNil))) (st0 6 [.fz (ns.map .int), .int 1]) S = .nx [some (.fz (ns.map .int)), some (.int 1), some (.lst q), none, none, none] S1 ∧ S1[q]? = some [.int v] ∧ Sm 1048576 v := by
    cases ns with
    | nil =>
      refine ⟨S.length + 2, 0, S ++ [[], [], [.int 0]], ?_, by simp, by unfold Sm; exact Nat.two_pow_pos _⟩
      simp [st0, eSl, oNone, oSome, oSl, cutD, HT.sIx]
    | cons z t =>
      refine ⟨S.length + 1, z, S ++ [[.int z], [.int z]], ?_, by simp, bits_sm (hb z List.mem_cons_self)⟩
      have e : min 1 (t.length + 1) = 1 := by omega
      simp [st0, eSl, oNone, oSome, oSl, cutD, HT.sIx, e]
  obtain ⟨q, v, S1, h1, h2, h3⟩ := first
  have hq1 := (List.getElem?_eq_some_iff.mp h2).1
  generalize hxs : ns.map D.int = xs at *
  have hzs : ∀ (i : Nat) (d : D), (cutD xs (some 1) (some 63))[i]? = some d → ∃ z, d = .int z ∧ Sm 1048576 z ∧ i < 63 := by
    intro i d hd
    have hm : d ∈ cutD xs (some 1) (some 63) := List.mem_of_getElem? hd
    unfold cutD at hm hd
    have hm2 : d ∈ xs := List.mem_of_mem_drop (List.mem_of_mem_take hm)
    rw [← hxs] at hm2
    obtain ⟨z, hz, rfl⟩ := List.mem_map.mp hm2
    refine ⟨z, rfl, bits_sm (hb z hz), ?_⟩
    have := (List.getElem?_eq_some_iff.mp hd).1
    rw [List.length_take, List.length_drop, ← hxs, List.length_map] at this
    omega
  have hlz : (cutD xs (some 1) (some 63)).length ≤ 63 := by
    unfold cutD
    rw [List.length_take, List.length_drop, ← hxs, List.length_map]
    omega
  generalize hz0 : cutD xs (some 1) (some 63) = zs at *
  obtain ⟨ρ', S', h4, v', h5, h6, h7, h8⟩ := for_run (it := iEnumE (aCons (eSl (eVar 0) (oSome (eVar 1)) (oSome (eC (.int 63)))) aNil)) (t := .tp [(.nm 3), (.nm 4)])
    (b := sSeq (sSet 5 (eBin oMod (eCallO cInt (aCons (eVar 3) aNil)) (eVar 1))) (sSub (eBin oAdd (eBin oIx (eVar 2) (eVar 5)) (eBin oMul (eVar 4) (eBin oAdd (eVar 3) (eC (.int 2))))) (eVar 2) (eVar 5)))
    (a := itEnum (itLst S1.length)) (xs := zs.zipIdx.map fun p => .tup [.int p.2, p.1]) (ρ := [some (.fz xs), some (.int 1), some (.lst q), none, none, none]) (S := S1) (S1 := S1 ++ [zs])
    (fun i ρ T => ∃ v, T[q]? = some [.int v] ∧ T[S1.length]? = some zs ∧ Sm (1048590 + i) v ∧ ∃ x y w, ρ = [some (.fz xs), some (.int 1), some (.lst q), x, y, w])
    (by simp [iEnumE, eSl, oSome, oSl, hz0]) (by simp [fuel]; omega) ⟨v, by rw [List.getElem?_append_left hq1]; exact h2, by simp, Sm.mono h3 (by omega), none, none, none, rfl⟩
    (by
      rintro i ρ T ⟨v, _, e, _⟩
      simp [itEnum, itLst, e, List.getElem?_zipIdx]
      cases zs[i]? <;> simp)
    (by
      rintro i d ρ T hd ⟨v, e1, e2, e3, x, y, w, rfl⟩
      rw [List.getElem?_map, List.getElem?_zipIdx] at hd
      cases e : zs[i]? with
      | none => rw [e] at hd; simp at hd
      | some d0 =>
        rw [e] at hd
        simp at hd
        subst hd
        obtain ⟨z, rfl, hz, hi⟩ := hzs i d0 e
        have hmul := fun S => oMul_int (S := S) (i := z) (j := (i : Int) + 2) (k := 1048576) (l := 7) hz (Sm.of (by omega) (by omega)) (by decide)
        have p1 := fun i S => oMod_int (S := S) (i := i) (j := 1) (by decide)
        have hq := (List.getElem?_eq_some_iff.mp e1).1
        refine ⟨[some (.fz xs), some (.int 1), some (.lst q), some (.int i), some (.int z), w], [some (.fz xs), some (.int 1), some (.lst q), some (.int i), some (.int z), some (.int 0)], T.set q [.int (v + z * ((i : Int) + 2))], ?_, .inl ?_, v + z * ((i : Int) + 2), ?_, ?_, ?_, _, _, _, rfl⟩
        · simp [nb_tp, nb_nm, nbs_cons', nbs_nil]
        · obtain ⟨hq2, e1'⟩ := List.getElem?_eq_some_iff.mp e1
          simp [p1, hmul, oSet_eq, ixN, e1', hq2]
        · simp [hq]
        · rw [List.getElem?_set_ne (by omega)]
          exact e2
        · exact Sm.mono (Sm.add (k := 1048590 + i) e3 (Sm.mono (Sm.mul hz (show Sm 7 ((i : Int) + 2) from Sm.of (by omega) (by omega))) (by omega))) (by show 1048590 + i + 1 ≤ 1048590 + (i + 1); omega))
  obtain ⟨x, y, w, rfl⟩ := h8
  refine ⟨q, v', S', ?_, h5, Sm.mono h7 (by rw [List.length_map, List.length_zipIdx]; omega)⟩
  unfold F__law_cells
  rw [fn_ev]
  unfold b__law_cells
  rw [x_sSeq, h1, sq_nx, x_sSeq, h4, sq_nx]
  simp
end K91
namespace K91
open PySem PySem.Spec L2 RZ Sd
variable {A : Str → Addr} {S : Store}
/-! the simplest between two, plain -/
structure Simp (l0 l1 h0 h1 n d : Int) : Prop where
  lo : l0 * d ≤ n * l1
  hi : n * h1 ≤ h0 * d
  dp : 0 < d
  np : 0 < n
  mn : ∀ a b : Int, 0 < b → l0 * b ≤ a * l1 → a * h1 ≤ h0 * b → n ≤ a ∧ d ≤ b
structure Ivl (k : Nat) (l0 l1 h0 h1 : Int) : Prop where
  a0 : 0 < l0
  a1 : 0 < l1
  b0 : 0 < h0
  b1 : 0 < h1
  le : l0 * h1 ≤ h0 * l1
  s0 : Sm k l0
  s1 : Sm k l1
  t0 : Sm k h0
  t1 : Sm k h1
theorem ceil_le (l0 l1 : Int) (h : 0 < l1) : l0 ≤ -(-l0 / l1) * l1 ∧ (-(-l0 / l1) - 1) * l1 < l0 := by
  have e := Int.mul_ediv_add_emod (-l0) l1
  have e1 := Int.emod_nonneg (-l0) (by omega : l1 ≠ 0)
  have e2 := Int.emod_lt_of_pos (-l0) h
  generalize -l0 / l1 = c at *
  generalize -l0 % l1 = m at *
  constructor <;> grind
theorem simp_base {k : Nat} {l0 l1 h0 h1 : Int} (I : Ivl k l0 l1 h0 h1) (h : l0 % l1 = 0 ∨ (l0 / l1 + 1) * h1 ≤ h0) : Simp l0 l1 h0 h1 (-(-l0 / l1)) 1 := by
  obtain ⟨c1, c2⟩ := ceil_le l0 l1 I.a1
  have e := Int.mul_ediv_add_emod l0 l1
  have e1 := Int.emod_nonneg l0 (by have := I.a1; omega : l1 ≠ 0)
  have e2 := Int.emod_lt_of_pos l0 I.a1
  generalize hc : -(-l0 / l1) = c at *
  have a0 := I.a0
  have a1 := I.a1
  have b1 := I.b1
  have le := I.le
  have cp : 0 < c := by
    rcases Int.lt_or_le 0 c with h | h
    · exact h
    · have := Int.mul_le_mul_of_nonneg_right h (Int.le_of_lt a1)
      omega
  refine ⟨by omega, ?_, by decide, cp, fun a b hb p q => ⟨?_, by omega⟩⟩
  · rw [Int.mul_one]
    rcases h with h | h
    · have h3 : c * l1 = l0 := by
        have x : (c - 1) * l1 < (l0 / l1) * l1 := by grind
        have y := Int.lt_of_mul_lt_mul_right x (Int.le_of_lt a1)
        have z : (l0 / l1) * l1 ≤ c * l1 := by grind
        have w := Int.le_of_mul_le_mul_right z a1
        have : c = l0 / l1 := by omega
        subst this
        grind
      have h4 : (c * h1) * l1 ≤ h0 * l1 := by grind
      exact Int.le_of_mul_le_mul_right h4 a1
    · have x : (c - 1) * l1 < (l0 / l1 + 1) * l1 := by grind
      have y := Int.lt_of_mul_lt_mul_right x (Int.le_of_lt a1)
      have z : c * h1 ≤ (l0 / l1 + 1) * h1 := Int.mul_le_mul_of_nonneg_right (by omega) (Int.le_of_lt b1)
      omega
  · have x : l0 * 1 ≤ l0 * b := Int.mul_le_mul_of_nonneg_left (by omega) (Int.le_of_lt a0)
    have y : (c - 1) * l1 < a * l1 := by omega
    have := Int.lt_of_mul_lt_mul_right y (Int.le_of_lt a1)
    omega
theorem sm_lt {k : Nat} {i j : Int} (h0 : 0 ≤ i) (h : i ≤ j) (hj : Sm k j) : Sm k i := by unfold Sm at *; omega
theorem step_ivl {k : Nat} {l0 l1 h0 h1 : Int} (I : Ivl k l0 l1 h0 h1) (h : l0 % l1 ≠ 0) (h2 : h0 < (l0 / l1 + 1) * h1) : Ivl k h1 (h0 - l0 / l1 * h1) l1 (l0 - l0 / l1 * l1) ∧ (h0 - l0 / l1 * h1) + (l0 - l0 / l1 * l1) < h1 + l1 := by
  have e := Int.mul_ediv_add_emod l0 l1
  have e1 := Int.emod_nonneg l0 (by have := I.a1; omega : l1 ≠ 0)
  have e2 := Int.emod_lt_of_pos l0 I.a1
  have a0 := I.a0
  have a1 := I.a1
  have b1 := I.b1
  have le := I.le
  generalize l0 / l1 = w at *
  generalize l0 % l1 = m at *
  have hm : l0 - w * l1 = m := by grind
  have hp : 0 < h0 - w * h1 := by
    rcases Int.lt_or_le 0 (h0 - w * h1) with z | z
    · exact z
    · have : h0 * l1 ≤ (w * h1) * l1 := Int.mul_le_mul_of_nonneg_right (by omega) (Int.le_of_lt a1)
      have q : l0 * h1 = w * l1 * h1 + m * h1 := by grind
      have r : 0 < m * h1 := Int.mul_pos (by omega) b1
      grind
  have hlt : h0 - w * h1 < h1 := by grind
  refine ⟨⟨b1, hp, a1, by omega, by grind, I.t1, sm_lt (by omega) (by omega) I.t1, I.s1, ?_⟩, by omega⟩
  rw [hm]
  exact sm_lt e1 (by omega) I.s1
theorem step_simp {k : Nat} {l0 l1 h0 h1 n d : Int} (I : Ivl k l0 l1 h0 h1) (h : l0 % l1 ≠ 0) (J : Simp h1 (h0 - l0 / l1 * h1) l1 (l0 - l0 / l1 * l1) n d) : Simp l0 l1 h0 h1 (l0 / l1 * n + d) n := by
  have e := Int.mul_ediv_add_emod l0 l1
  have e1 := Int.emod_nonneg l0 (by have := I.a1; omega : l1 ≠ 0)
  have a0 := I.a0
  have a1 := I.a1
  have hw : 0 ≤ l0 / l1 := Int.ediv_nonneg (by omega) (by omega)
  obtain ⟨p, q, r, s, t⟩ := J
  generalize l0 / l1 = w at *
  generalize l0 % l1 = m at *
  have wn : 0 ≤ w * n := Int.mul_nonneg hw (by omega)
  refine ⟨by grind, by grind, s, by omega, fun a b hb u v => ?_⟩
  have hab : 0 < a - w * b := by
    have x : (w * b) * l1 < a * l1 := by
      have m1 : 0 < m * b := Int.mul_pos (by omega) hb
      have m2 : l0 * b = (l1 * w + m) * b := by rw [e]
      have m3 : (l1 * w + m) * b = w * b * l1 + m * b := by clear t u v m1 m2 hb; grind
      omega
    have := Int.lt_of_mul_lt_mul_right x (by omega)
    omega
  obtain ⟨g1, g2⟩ := t b (a - w * b) hab (by grind) (by grind)
  have : w * n ≤ w * b := Int.mul_le_mul_of_nonneg_left g1 hw
  omega
end K91
namespace K91
open PySem PySem.Spec L2 RZ Sd
variable {A : Str → Addr} {S : Store}
inductive Ch (k : Nat) : List Int → Int → Int → Int → Int → Int → Int → Int → Int → Prop
  | nil {a b c d} : Ivl k a b c d → Ch k [] a b c d a b c d
  | cons {rs a b c d l0 l1 h0 h1} : Ch k rs a b c d l0 l1 h0 h1 → l0 % l1 ≠ 0 → Ivl k h1 (h0 - l0 / l1 * h1) l1 (l0 - l0 / l1 * l1) → Ch k (l0 / l1 :: rs) a b c d h1 (h0 - l0 / l1 * h1) l1 (l0 - l0 / l1 * l1)
theorem Ch.ivl {k : Nat} {rs : List Int} {a b c d l0 l1 h0 h1 : Int} (h : Ch k rs a b c d l0 l1 h0 h1) : Ivl k l0 l1 h0 h1 := by
  cases h with
  | nil h => exact h
  | cons _ _ h => exact h
theorem Ch.inv {k : Nat} {w : Int} {rs : List Int} {a b c d l0 l1 h0 h1 : Int} (h : Ch k (w :: rs) a b c d l0 l1 h0 h1) :
    ∃ p0 p1 q0 q1, Ch k rs a b c d p0 p1 q0 q1 ∧ p0 % p1 ≠ 0 ∧ w = p0 / p1 ∧ l0 = q1 ∧ l1 = q0 - p0 / p1 * q1 ∧ h0 = p1 ∧ h1 = p0 - p0 / p1 * p1 := by
  cases h with
  | cons h1 h2 h3 => exact ⟨_, _, _, _, h1, h2, rfl, rfl, rfl, rfl, rfl⟩
/-- how long the chain may be -/
def Sz (rs : List Int) (q l0 l1 h0 h1 : Int) : Prop := (rs = [] ∧ l0 * l1 * (h0 * h1) = q) ∨ (l1 < l0 ∧ h1 < h0 ∧ l0 * l1 * (h0 * h1) * 2 ^ rs.length ≤ q * 2)
theorem Sz.len {rs : List Int} {q l0 l1 h0 h1 : Int} {k : Nat} (h : Sz rs q l0 l1 h0 h1) (I : Ivl k l0 l1 h0 h1) (hq : Sm (k + k + (k + k)) q) : rs.length ≤ 4 * k := by
  rcases h with ⟨rfl, _⟩ | ⟨_, _, h⟩
  · exact Nat.zero_le _
  · have p : 0 < l0 * l1 * (h0 * h1) := Int.mul_pos (Int.mul_pos I.a0 I.a1) (Int.mul_pos I.b0 I.b1)
    have e : (2 : Int) ^ rs.length = ((2 ^ rs.length : Nat) : Int) := by simp
    have p2 : 0 < (2 : Int) ^ rs.length := by rw [e]; have := Nat.two_pow_pos rs.length; omega
    have h3 : 1 * (2 : Int) ^ rs.length ≤ l0 * l1 * (h0 * h1) * 2 ^ rs.length := Int.mul_le_mul_of_nonneg_right (by omega) (by omega)
    unfold Sm at hq
    have h4 : 2 ^ rs.length < 2 ^ (k + k + (k + k) + 1) := by
      rw [Nat.pow_succ]
      omega
    have := (Nat.pow_lt_pow_iff_right (by decide : 1 < 2)).mp h4
    omega
theorem Sz.step {rs : List Int} {q l0 l1 h0 h1 w : Int} {k : Nat} (h : Sz rs q l0 l1 h0 h1) (I : Ivl k l0 l1 h0 h1) (J : Ivl k h1 (h0 - w * h1) l1 (l0 - w * l1)) (hw : 0 ≤ w) (e1 : l0 - w * l1 < l1) (e2 : h0 - w * h1 < h1) : Sz (w :: rs) q h1 (h0 - w * h1) l1 (l0 - w * l1) := by
  refine .inr ⟨e2, e1, ?_⟩
  have a0 := I.a0
  have a1 := I.a1
  have b0 := I.b0
  have b1 := I.b1
  have m0 := J.a1
  have m1 := J.b1
  have w1 : 0 ≤ w * l1 := Int.mul_nonneg hw (by omega)
  have w2 : 0 ≤ w * h1 := Int.mul_nonneg hw (by omega)
  have q1 : h1 * (h0 - w * h1) ≤ h0 * h1 := by
    rw [Int.mul_comm]
    exact Int.mul_le_mul_of_nonneg_right (by omega) (by omega)
  have q2 : l1 * (l0 - w * l1) ≤ l0 * l1 := by
    rw [Int.mul_comm]
    exact Int.mul_le_mul_of_nonneg_right (by omega) (by omega)
  have q3 : 0 < l1 * (l0 - w * l1) := Int.mul_pos a1 m1
  have q5 : 0 < h0 * h1 := Int.mul_pos b0 b1
  have base : h1 * (h0 - w * h1) * (l1 * (l0 - w * l1)) ≤ l0 * l1 * (h0 * h1) := by
    have x := Int.mul_le_mul q1 q2 (by omega) (by omega)
    rw [Int.mul_comm (l0 * l1)]
    exact x
  rcases h with ⟨rfl, h⟩ | ⟨g1, g2, h⟩
  · show _ * 2 ^ (0 + 1) ≤ _
    rw [← h]
    show _ * 2 ≤ _
    omega
  · have hw1 : 1 ≤ w := by
      rcases Int.lt_or_le 0 w with z | z
      · omega
      · have : w = 0 := by omega
        subst this
        omega
    have w3 : 1 * l1 ≤ w * l1 := Int.mul_le_mul_of_nonneg_right hw1 (by omega)
    have q4 : 2 * (l1 * (l0 - w * l1)) ≤ l0 * l1 := by
      have x : (2 * (l0 - w * l1)) * l1 ≤ l0 * l1 := Int.mul_le_mul_of_nonneg_right (by omega) (by omega)
      have y : 2 * (l1 * (l0 - w * l1)) = (2 * (l0 - w * l1)) * l1 := by rw [Int.mul_comm l1, Int.mul_assoc]
      omega
    have x := Int.mul_le_mul q1 q4 (by omega) (by omega)
    have p : 0 ≤ (2 : Int) ^ rs.length := by
      have e : (2 : Int) ^ rs.length = ((2 ^ rs.length : Nat) : Int) := by simp
      rw [e]; exact Int.natCast_nonneg _
    have y := Int.mul_le_mul_of_nonneg_right x p
    show _ * 2 ^ (rs.length + 1) ≤ _
    rw [Int.pow_succ]
    have z1 : h1 * (h0 - w * h1) * (2 * (l1 * (l0 - w * l1))) * 2 ^ rs.length = h1 * (h0 - w * h1) * (l1 * (l0 - w * l1)) * (2 ^ rs.length * 2) := by
      generalize h1 * (h0 - w * h1) = u
      generalize l1 * (l0 - w * l1) = v
      generalize (2 : Int) ^ rs.length = t
      clear x y q1 q2 q3 q4 base h J I m0 m1 w1 w2 w3 e1 e2
      grind
    have z2 : h0 * h1 * (l0 * l1) * 2 ^ rs.length = l0 * l1 * (h0 * h1) * 2 ^ rs.length := by rw [Int.mul_comm (h0 * h1)]
    omega
theorem fold_ {k : Nat} (hk : k < 4000) {rs : List Int} {a b c d : Int} {r : Nat} {T : Store} {x0 x1 x2 x3 : D} {o : Option D} {l0 l1 h0 h1 n e : Int} (hr : T[r]? = some (rs.map D.int)) (hl : rs.length < fuel) (C : Ch k rs a b c d l0 l1 h0 h1) (J : Simp l0 l1 h0 h1 n e)
    {it : Iv} {ρ : Sd.Loc} {T0 : Store} (hit : it ρ T0 = .ok (itLst r) T) (hρ : ρ = [some x0, some x1, some x2, some x3, o, some (.int n), some (.int e)]) :
    ∃ o' n' e', sFor it (.nm 4) (sPar 5 6 (aCons (eBin oAdd (eBin oMul (eVar 4) (eVar 5)) (eVar 6)) (aCons (eVar 5) aNil))) ρ T0 = .nx [some x0, some x1, some x2, some x3, o', some (.int n'), some (.int e')] T ∧ Simp a b c d n' e' := by
  obtain ⟨ρ', S', h1, rfl, l0', l1', h0', h1', n', e', o', C', J', rfl⟩ := for_run (it := it) (t := .nm 4) (b := sPar 5 6 (aCons (eBin oAdd (eBin oMul (eVar 4) (eVar 5)) (eVar 6)) (aCons (eVar 5) aNil))) (a := itLst r) (xs := rs.map D.int) (ρ := ρ) (S := T0) (S1 := T)
    (fun i ρ U => U = T ∧ ∃ l0 l1 h0 h1 n e o, Ch k (rs.drop i) a b c d l0 l1 h0 h1 ∧ Simp l0 l1 h0 h1 n e ∧ ρ = [some x0, some x1, some x2, some x3, o, some (.int n), some (.int e)])
    hit (by simpa using hl) ⟨rfl, l0, l1, h0, h1, n, e, o, C, J, hρ⟩
    (by
      rintro i ρ U ⟨rfl, _⟩
      simp [itLst, hr])
    (by
      rintro i y ρ U hy ⟨rfl, l0, l1, h0, h1, n, e, o, C, J, rfl⟩
      rw [List.getElem?_map] at hy
      cases ew : rs[i]? with
      | none => rw [ew] at hy; cases hy
      | some w =>
        rw [ew] at hy
        cases hy
        obtain ⟨hlt, ew'⟩ := List.getElem?_eq_some_iff.mp ew
        rw [List.drop_eq_getElem_cons hlt, ew'] at C
        generalize hrs : rs.drop (i + 1) = r2 at C
        obtain ⟨p0, p1, q0, q1, C1, hm, rfl, rfl, rfl, rfl, rfl⟩ := C.inv
        have I := C.ivl
        have I0 := C1.ivl
        have w0 : 0 ≤ p0 / h0 := Int.ediv_nonneg (Int.le_of_lt I0.a0) (Int.le_of_lt I0.a1)
        have w1 := Int.ediv_le_self h0 (Int.le_of_lt I0.a0)
        have sw : Sm k (p0 / h0) := sm_lt w0 w1 I0.s0
        obtain ⟨n1, _⟩ := J.mn _ _ I.a1 (Int.le_refl _) I.le
        have sn : Sm k n := sm_lt (Int.le_of_lt J.np) n1 I.s0
        have ml := fun S => oMul_int (S := S) sw sn (by omega)
        refine ⟨_, _, _, nb_nm, .inl ?_, rfl, p0, h0, q0, l0, p0 / h0 * n + e, n, some (.int (p0 / h0)), C1, step_simp I0 hm J, rfl⟩
        simp [ml])
  rw [List.length_map, List.drop_length] at C'
  cases C' with
  | nil I => exact ⟨o', n', e', h1, J'⟩
theorem above_ {k : Nat} (hk : k < 4000) {l0 l1 h0 h1 : Int} (I0 : Ivl k l0 l1 h0 h1) :
    ∃ n e g, F_simplest_above A [.tup [.int l0, .int l1], .tup [.int h0, .int h1]] S = .ok (.tup [.int n, .int e]) (S ++ g) ∧ Simp l0 l1 h0 h1 n e := by
  have hq : Sm (k + k + (k + k)) (l0 * l1 * (h0 * h1)) := Sm.mul (Sm.mul I0.s0 I0.s1) (Sm.mul I0.t0 I0.t1)
  have hw := while_run (c := tvAnd (tvB (eBin oNe (eBin oMod (eBin oIx (eVar 3) (eC (.int 0))) (eBin oIx (eVar 3) (eC (.int 1)))) (eC (.int 0)))) (tvB (eBin oGt (eBin oMul (eBin oAdd (eBin oDiv (eBin oIx (eVar 3) (eC (.int 0))) (eBin oIx (eVar 3) (eC (.int 1)))) (eC (.int 1))) (eBin oIx (eVar 1) (eC (.int 1)))) (eBin oIx (eVar 1) (eC (.int 0))))))
    (b := sSeq (sSet 4 (eBin oDiv (eBin oIx (eVar 3) (eC (.int 0))) (eBin oIx (eVar 3) (eC (.int 1))))) (sSeq (sExpr (eBm mApp (eVar 2) (aCons (eVar 4) aNil))) (sPar 3 1 (aCons (eTup (aCons (eBin oIx (eVar 1) (eC (.int 1))) (aCons (eBin oSub (eBin oIx (eVar 1) (eC (.int 0))) (eBin oMul (eVar 4) (eBin oIx (eVar 1) (eC (.int 1))))) aNil))) (aCons (eTup (aCons (eBin oIx (eVar 3) (eC (.int 1))) (aCons (eBin oSub (eBin oIx (eVar 3) (eC (.int 0))) (eBin oMul (eVar 4) (eBin oIx (eVar 3) (eC (.int 1))))) aNil))) aNil)))))
    (ρ := [some (.tup [.int l0, .int l1]), some (.tup [.int h0, .int h1]), some (.lst S.length), some (.tup [.int l0, .int l1]), none, none, none]) (S := S ++ [[]])
    (fun m ρ T => ∃ rs p0 p1 q0 q1 o, T = S ++ [rs.reverse.map D.int] ∧ ρ = [some (.tup [.int l0, .int l1]), some (.tup [.int q0, .int q1]), some (.lst S.length), some (.tup [.int p0, .int p1]), o, none, none] ∧ Ch k rs l0 l1 h0 h1 p0 p1 q0 q1 ∧ Sz rs (l0 * l1 * (h0 * h1)) p0 p1 q0 q1 ∧ m = 20000 - rs.length)
    (fun z => ∃ rs p0 p1 q0 q1 o, z = .nx [some (.tup [.int l0, .int l1]), some (.tup [.int q0, .int q1]), some (.lst S.length), some (.tup [.int p0, .int p1]), o, none, none] (S ++ [rs.reverse.map D.int]) ∧ Ch k rs l0 l1 h0 h1 p0 p1 q0 q1 ∧ Sz rs (l0 * l1 * (h0 * h1)) p0 p1 q0 q1 ∧ Simp p0 p1 q0 q1 (-(-p0 / p1)) 1)
    20000 (by unfold fuel; decide) ⟨[], l0, l1, h0, h1, none, by simp, rfl, .nil I0, .inl ⟨rfl, rfl⟩, rfl⟩
    (by
      rintro m ρ T ⟨rs, p0, p1, q0, q1, o, rfl, rfl, C, Z, rfl⟩
      have I := C.ivl
      have hlen := Z.len I hq
      have w0 : 0 ≤ p0 / p1 := Int.ediv_nonneg (Int.le_of_lt I.a0) (Int.le_of_lt I.a1)
      have w1 := Int.ediv_le_self p1 (Int.le_of_lt I.a0)
      have sw : Sm k (p0 / p1) := sm_lt w0 w1 I.s0
      have s1 : Sm k 1 := sm_lt (by decide) I.a0 I.s0
      have dv := fun i S => oDiv_int (S := S) (i := i) I.a1 I.s1 (by omega)
      have mo := fun i S => oMod_int (S := S) (i := i) I.a1
      have m1 := fun S => oMul_int (S := S) (Sm.add sw s1) I.t1 (by omega)
      have m2 := fun S => oMul_int (S := S) sw I.t1 (by omega)
      have m3 := fun S => oMul_int (S := S) sw I.s1 (by omega)
      by_cases g1 : p0 % p1 = 0
      · exact .inl ⟨S ++ [rs.reverse.map D.int], by simp [mo, g1], rs, p0, p1, q0, q1, o, rfl, C, Z, simp_base I (.inl g1)⟩
      · by_cases g2 : q0 < (p0 / p1 + 1) * q1
        · obtain ⟨J, hm⟩ := step_ivl I g1 g2
          have e := Int.mul_ediv_add_emod p0 p1
          have e2 := Int.emod_lt_of_pos p0 I.a1
          have u1 : p0 - p0 / p1 * p1 < p1 := by rw [Int.mul_comm (p0 / p1)]; omega
          have u2 : q0 - p0 / p1 * q1 < q1 := by
            have : (p0 / p1 + 1) * q1 = p0 / p1 * q1 + q1 := by rw [Int.add_mul, Int.one_mul]
            omega
          have hl2 : rs.length < 1000000 := by omega
          refine .inr ⟨S ++ [rs.reverse.map D.int], by simp [mo, g1, dv, m1, g2], .inl ⟨[some (.tup [.int l0, .int l1]), some (.tup [.int p1, .int (p0 - p0 / p1 * p1)]), some (.lst S.length), some (.tup [.int q1, .int (q0 - p0 / p1 * q1)]), some (.int (p0 / p1)), none, none], S ++ [(p0 / p1 :: rs).reverse.map D.int], _, .inl ?_, ?_, p0 / p1 :: rs, _, _, _, _, _, rfl, rfl, .cons C g1 J, Z.step I J w0 u1 u2, rfl⟩⟩
          · simp [dv, eBm, mApp, hl2, m2, m3, lim]
          · show 20000 - (rs.length + 1) < 20000 - rs.length
            omega
        · exact .inl ⟨S ++ [rs.reverse.map D.int], by simp [mo, g1, dv, m1, g2], rs, p0, p1, q0, q1, o, rfl, C, Z, simp_base I (.inr (by omega))⟩)
  obtain ⟨rs, p0, p1, q0, q1, o, hw, C, Z, J⟩ := hw
  have I := C.ivl
  have hlen := Z.len I hq
  have dv := fun i S => oDiv_int (S := S) (i := i) I.a1 I.s1 (by omega)
  obtain ⟨o', n, e, hf, R⟩ := fold_ hk (r := S.length + 1) (T := S ++ [rs.reverse.map D.int, rs.map D.int]) (x0 := .tup [.int l0, .int l1]) (x1 := .tup [.int q0, .int q1]) (x2 := .lst S.length) (x3 := .tup [.int p0, .int p1]) (o := o) (by simp) (by unfold fuel; omega) C J (it := iOf (eRev (eVar 2)))
    (ρ := [some (.tup [.int l0, .int l1]), some (.tup [.int q0, .int q1]), some (.lst S.length), some (.tup [.int p0, .int p1]), o, some (.int (-(-p0 / p1))), some (.int 1)]) (T0 := S ++ [rs.reverse.map D.int]) (by simp [eRev, itOf]) rfl
  refine ⟨n, e, [rs.reverse.map D.int, rs.map D.int], ?_, R⟩
  unfold F_simplest_above
  rw [fn_ev]
  unfold b_simplest_above
  have first : sPar 2 3 (aCons (eLst aNil) (aCons (eVar 0) aNil)) (st0 7 [.tup [.int l0, .int l1], .tup [.int h0, .int h1]]) S = .nx [some (.tup [.int l0, .int l1]), some (.tup [.int h0, .int h1]), some (.lst S.length), some (.tup [.int l0, .int l1]), none, none, none] (S ++ [[]]) := by simp [st0]
  rw [x_sSeq, first, sq_nx, x_sSeq, hw, sq_nx, x_sSeq]
  have third : sPar 5 6 (aCons (eNeg (eBin oDiv (eNeg (eBin oIx (eVar 3) (eC (.int 0)))) (eBin oIx (eVar 3) (eC (.int 1))))) (aCons (eC (.int 1)) aNil)) [some (.tup [.int l0, .int l1]), some (.tup [.int q0, .int q1]), some (.lst S.length), some (.tup [.int p0, .int p1]), o, none, none] (S ++ [rs.reverse.map D.int]) = .nx [some (.tup [.int l0, .int l1]), some (.tup [.int q0, .int q1]), some (.lst S.length), some (.tup [.int p0, .int p1]), o, some (.int (-(-p0 / p1))), some (.int 1)] (S ++ [rs.reverse.map D.int]) := by simp [dv]
  rw [third, sq_nx, x_sSeq, hf, sq_nx]
  simp
end K91
namespace K91
open PySem PySem.Spec L2 RZ Sd
variable {A : Str → Addr} {S : Store}
structure Best (x l h : Rat) : Prop where
  lo : l ≤ x
  hi : x ≤ h
  mn : ∀ y, l ≤ y → y ≤ h → x.den ≤ y.den ∧ x.num.natAbs ≤ y.num.natAbs
theorem good_neg {x l h : Rat} (g : Best x l h) : Best (-x) (-h) (-l) := by
  refine ⟨Rat.neg_le_neg g.hi, Rat.neg_le_neg g.lo, fun y p q => ?_⟩
  have := g.mn (-y) (Rat.le_neg_iff.mpr q) (Rat.neg_le_iff.mpr p)
  simpa using this
theorem good_self (x : Rat) : Best x x x := ⟨Rat.le_refl, Rat.le_refl, fun y p q => by
  have := Rat.le_antisymm p q
  subst this
  exact ⟨Nat.le_refl _, Nat.le_refl _⟩⟩
theorem good_zero {l h : Rat} (p : l ≤ 0) (q : 0 ≤ h) : Best 0 l h := ⟨p, q, fun y _ _ => ⟨y.den_pos, Nat.zero_le _⟩⟩
theorem simp_good {l h : Rat} {n e : Int} (hl : 0 < l.num) (J : Simp l.num l.den h.num h.den n e) : ∃ x, toD x = .tup [.int n, .int e] ∧ Best x l h := by
  have he : e ≠ 0 := by have := J.dp; omega
  obtain ⟨h1, h2⟩ := div_num n e he
  rw [if_pos J.dp] at h1 h2
  have g0 := gcd_pos (a := n) he
  have dn : (Int.gcd n e : Int) ∣ n := Int.gcd_dvd_left ..
  have de : (Int.gcd n e : Int) ∣ e := Int.gcd_dvd_right ..
  have e1 := Int.ediv_mul_cancel dn
  have e2 := Int.ediv_mul_cancel de
  rw [← h1] at e1
  rw [← h2] at e2
  generalize hx : Rat.divInt n e = x at *
  generalize (Int.gcd n e : Int) = g at *
  have lo := J.lo
  have hi := J.hi
  have xd := den_p x
  have ld := den_p l
  have hd := den_p h
  have c1 : l.num * x.den ≤ x.num * l.den := by
    have : (l.num * x.den) * g ≤ (x.num * l.den) * g := by
      rw [← e1, ← e2] at lo
      rw [Int.mul_assoc, Int.mul_assoc, Int.mul_comm (l.den : Int), ← Int.mul_assoc x.num]
      exact lo
    exact Int.le_of_mul_le_mul_right this g0
  have c2 : x.num * h.den ≤ h.num * x.den := by
    have : (x.num * h.den) * g ≤ (h.num * x.den) * g := by
      rw [← e1, ← e2] at hi
      rw [Int.mul_assoc, Int.mul_comm (h.den : Int), ← Int.mul_assoc, Int.mul_assoc h.num]
      exact hi
    exact Int.le_of_mul_le_mul_right this g0
  obtain ⟨m1, m2⟩ := J.mn x.num x.den xd c1 c2
  have np := J.np
  have xp : 0 < x.num := by omega
  have f1 : n = x.num := by
    have : x.num * 1 ≤ x.num * g := Int.mul_le_mul_of_nonneg_left (by omega) (by omega)
    omega
  have f2 : e = x.den := by
    have : (x.den : Int) * 1 ≤ x.den * g := Int.mul_le_mul_of_nonneg_left (by omega) (by omega)
    omega
  refine ⟨x, by rw [f1, f2]; rfl, ⟨(Rat.le_iff _ _).mpr c1, (Rat.le_iff _ _).mpr c2, fun y p q => ?_⟩⟩
  obtain ⟨k1, k2⟩ := J.mn y.num y.den (den_p y) ((Rat.le_iff _ _).mp p) ((Rat.le_iff _ _).mp q)
  omega
theorem ivl_of {l h : Rat} {k : Nat} (bl : Bd k l) (bh : Bd k h) (hl : 0 < l.num) (le : l ≤ h) : Ivl k l.num l.den h.num h.den := by
  have le' := (Rat.le_iff _ _).mp le
  refine ⟨hl, den_p l, ?_, den_p h, le', bl.n, bl.d, bh.n, bh.d⟩
  have := Int.mul_pos hl (den_p h)
  rcases Int.lt_or_le 0 h.num with z | z
  · exact z
  · have := Int.mul_le_mul_of_nonneg_right z (Int.le_of_lt (den_p l))
    omega
theorem cmp_pos (p q : Rat) : (0 < cmpQ p q) = (q < p) := by
  unfold cmpQ
  by_cases h : q < p
  · have : ¬ p < q := Rat.not_lt.mpr (Rat.le_of_lt h)
    simp [h, this]
  · by_cases h2 : p < q <;> simp [h, h2]
theorem simplest_ {l h : Rat} {k : Nat} (bl : Bd k l) (bh : Bd k h) (hk : k < 4000) (le : l ≤ h) : ∃ x g, F_simplest A [toD l, toD h] S = .ok (toD x) (S ++ g) ∧ Best x l h := by
  have cp := fun S => compared_ (A := A) (S := S) bl bh hk
  have nlt : ¬ h < l := Rat.not_lt.mpr le
  have hc : ¬ 0 < cmpQ l h := by rw [cmp_pos]; exact nlt
  have tw := fun S => two (A := A) (S := S) (p := l) (q := h)
  simp only [toD] at cp tw
  by_cases h1 : l.num ≤ 0 ∧ 0 ≤ h.num
  · refine ⟨0, [gq l, gq h, gq l, gq h], ?_, good_zero ((Rat.le_iff _ _).mpr (by simpa using h1.1)) ((Rat.le_iff _ _).mpr (by simpa using h1.2))⟩
    unfold F_simplest
    rw [fn_ev]
    simp [b_simplest, st0, tw, toD, nb_tp, nb_nm, nbs_cons', nbs_nil, cp, hc, h1]
  · by_cases h2 : 0 < l.num
    · obtain ⟨n, e, g, r, J⟩ := above_ (A := A) (S := S ++ [gq l, gq h, gq l, gq h]) hk (ivl_of bl bh h2 le)
      obtain ⟨x, hx, G⟩ := simp_good h2 J
      refine ⟨x, [gq l, gq h, gq l, gq h] ++ g, ?_, G⟩
      unfold F_simplest
      rw [fn_ev, hx]
      have h3 : ¬ l.num ≤ 0 := by omega
      simp at r
      simp [b_simplest, st0, tw, toD, nb_tp, nb_nm, nbs_cons', nbs_nil, cp, hc, h2, h3, r]
    · have h3 : 0 < (-h).num := by simp; omega
      have le' : -h ≤ -l := Rat.neg_le_neg le
      obtain ⟨n, e, g, r, J⟩ := above_ (A := A) (S := S ++ [gq l, gq h, gq l, gq h]) hk (ivl_of bh.neg bl.neg h3 le')
      obtain ⟨x, hx, G⟩ := simp_good h3 J
      have G2 := good_neg G
      rw [Rat.neg_neg, Rat.neg_neg] at G2
      refine ⟨-x, [gq l, gq h, gq l, gq h] ++ g, ?_, G2⟩
      have hx2 : toD (-x) = .tup [.int (-n), .int e] := by
        unfold toD at *
        injection hx with hx
        simp at hx
        simp [hx.1, hx.2]
      unfold F_simplest
      rw [fn_ev, hx2]
      have h4 : ¬ 0 ≤ h.num := by simp at h3; omega
      have h5 : l.num ≤ 0 := by omega
      simp at r
      simp [b_simplest, st0, tw, toD, nb_tp, nb_nm, nbs_cons', nbs_nil, cp, hc, h2, h4, h5, r]
theorem simplest_bad {l h : Rat} {k : Nat} (bl : Bd k l) (bh : Bd k h) (hk : k < 4000) (lt : h < l) : F_simplest A [toD l, toD h] S = .exc (A "Unfit") (S ++ [gq l, gq h, gq l, gq h]) := by
  have cp := fun S => compared_ (A := A) (S := S) bl bh hk
  have hc : 0 < cmpQ l h := by rw [cmp_pos]; exact lt
  have tw := fun S => two (A := A) (S := S) (p := l) (q := h)
  simp only [toD] at cp tw
  unfold F_simplest
  rw [fn_ev]
  simp [b_simplest, st0, tw, toD, nb_tp, nb_nm, nbs_cons', nbs_nil, cp, hc]
end K91
namespace K91
open PySem PySem.Spec L2 RZ Sd
variable {A : Str → Addr} {S : Store}
theorem ceil_iff {a c d : Int} (h : 0 < d) : -(-a / d) ≤ c ↔ a ≤ c * d := by
  have := Int.le_ediv_iff_mul_le (a := -c) (b := -a) h
  rw [Int.neg_mul] at this
  constructor
  · intro z
    have := this.mp (by omega)
    omega
  · intro z
    have := this.mpr (by omega)
    omega
theorem pick_ {x l h : Rat} (G : Best x l h) {b : Int} (b0 : 0 < b) (b1 : b ≤ x.den) {L H : Int} (hL : L = -(-(l.num * b) / l.den)) (hH : H = h.num * b / h.den) :
    (L ≤ H → Rat.divInt (if 0 < L then L else if H < 0 then H else 0) b = x) ∧ (¬ L ≤ H → b < x.den) := by
  have ld := den_p l
  have hd := den_p h
  have cL : ∀ c, L ≤ c ↔ l.num * b ≤ c * l.den := fun c => by rw [hL]; exact ceil_iff ld
  have cH : ∀ c, c ≤ H ↔ c * h.den ≤ h.num * b := fun c => by rw [hH]; exact Int.le_ediv_iff_mul_le hd
  have lx := (Rat.le_iff _ _).mp G.lo
  have xh := (Rat.le_iff _ _).mp G.hi
  constructor
  · intro hle
    generalize hc : (if 0 < L then L else if H < 0 then H else 0) = c
    have c1 : L ≤ c := by rw [← hc]; (repeat' split) <;> omega
    have c2 : c ≤ H := by rw [← hc]; (repeat' split) <;> omega
    have hb : b ≠ 0 := by omega
    obtain ⟨h1, h2⟩ := div_num c b hb
    rw [if_pos b0] at h1 h2
    have g0 := gcd_pos (a := c) hb
    have e1 := Int.ediv_mul_cancel (Int.gcd_dvd_left .. : (Int.gcd c b : Int) ∣ c)
    have e2 := Int.ediv_mul_cancel (Int.gcd_dvd_right .. : (Int.gcd c b : Int) ∣ b)
    rw [← h1] at e1
    rw [← h2] at e2
    generalize hy : Rat.divInt c b = y at *
    have yd := den_p y
    generalize (Int.gcd c b : Int) = g at *
    have p1 : l ≤ y := by
      rw [Rat.le_iff]
      have := (cL c).mp c1
      rw [← e1, ← e2, ← Int.mul_assoc, Int.mul_right_comm y.num] at this
      exact Int.le_of_mul_le_mul_right this g0
    have p2 : y ≤ h := by
      rw [Rat.le_iff]
      have := (cH c).mp c2
      rw [← e1, ← e2, ← Int.mul_assoc, Int.mul_right_comm y.num] at this
      exact Int.le_of_mul_le_mul_right this g0
    obtain ⟨m1, m2⟩ := G.mn y p1 p2
    have e3 : (y.den : Int) * 1 ≤ y.den * g := Int.mul_le_mul_of_nonneg_left (by omega) (by omega)
    have e4 : (y.den : Int) = b := by omega
    have e5 : (x.den : Int) = b := by omega
    have e6 : c = y.num := by
      have : (y.den : Int) * g = y.den * 1 := by omega
      have : g = 1 := Int.eq_of_mul_eq_mul_left (by omega) this
      rw [this, Int.mul_one] at e1
      exact e1.symm
    have x1 : L ≤ x.num := (cL _).mpr (by rw [← e5]; exact lx)
    have x2 : x.num ≤ H := (cH _).mpr (by rw [← e5]; exact xh)
    have e7 : x.num = c := by
      rw [← e6] at m2
      rw [← hc] at m2 ⊢
      split at m2 <;> rename_i z
      · rw [if_pos z]; omega
      · rw [if_neg z]
        split at m2 <;> rename_i z2
        · rw [if_pos z2]; omega
        · rw [if_neg z2]; omega
    exact Rat.ext (by omega) (by omega)
  · intro hle
    rcases Int.lt_or_le b x.den with z | z
    · exact z
    · have e5 : (x.den : Int) = b := by omega
      have x1 : L ≤ x.num := (cL _).mpr (by rw [← e5]; exact lx)
      have x2 : x.num ≤ H := (cH _).mpr (by rw [← e5]; exact xh)
      omega
theorem lsimplest_ {x l h : Rat} {k : Nat} (bl : Bd k l) (bh : Bd k h) (hk : k < 60) (G : Best x l h) : F__law_simplest A [toD l, toD h] S = .ok (toD x) S := by
  have hx : x.den ≤ l.den := (G.mn l Rat.le_refl (Rat.le_trans G.lo G.hi)).1
  have hw := while_run (c := tvT (eC (.bl true))) (b := (sSeq (sPar 3 4 (aCons (eBin oSub (eC (.int 0)) (eBin oDiv (eBin oSub (eC (.int 0)) (eBin oMul (eBin oIx (eVar 0) (eC (.int 0))) (eVar 2))) (eBin oIx (eVar 0) (eC (.int 1))))) (aCons (eBin oDiv (eBin oMul (eBin oIx (eVar 1) (eC (.int 0))) (eVar 2)) (eBin oIx (eVar 1) (eC (.int 1)))) aNil)))
     (sSeq (sIf (tvB (eBin oLe (eVar 3) (eVar 4))) (sSeq (sSet 5 (eIf (tvB (eBin oGt (eVar 3) (eC (.int 0)))) (eVar 3) (eIf (tvB (eBin oLt (eVar 4) (eC (.int 0)))) (eVar 4) (eC (.int 0)))))
      (sRet (eCall (F__law_low A) (aCons (eVar 5) (aCons (eVar 2) aNil))))) sNext)
     (sSet 2 (eBin oAdd (eVar 2) (eC (.int 1))))))) (ρ := [some (toD l), some (toD h), some (.int 1), none, none, none]) (S := S)
    (fun m ρ T => T = S ∧ ∃ (b : Nat) (o1 o2 : Option D), 0 < b ∧ b ≤ x.den ∧ m = x.den - b ∧ ρ = [some (toD l), some (toD h), some (.int b), o1, o2, none])
    (fun r => r = .rt (toD x) S) (x.den - 1) (by
      have := bl.d
      unfold Sm at this
      have : 2 ^ k ≤ 2 ^ 60 := Nat.pow_le_pow_right (by decide) (by omega)
      have : 2 ^ 60 < fuel := by unfold fuel; decide
      omega) ⟨rfl, 1, none, none, by decide, x.den_pos, rfl, rfl⟩
    (by
      rintro m ρ T ⟨rfl, b, o1, o2, b0, b1, rfl, rfl⟩
      have sb : Sm k b := sm_lt (by omega) (by omega : (b : Int) ≤ l.den) bl.d
      have m1 := fun S => oMul_int (S := S) bl.n sb (by omega)
      have m2 := fun S => oMul_int (S := S) bh.n sb (by omega)
      have d1 := fun i S => oDiv_int (S := S) (i := i) (den_p l) bl.d (by omega)
      have d2 := fun i S => oDiv_int (S := S) (i := i) (den_p h) bh.d (by omega)
      obtain ⟨k1, k2⟩ := pick_ G (b := b) (by omega) (by omega) rfl rfl
      refine .inr ⟨T, by simp, ?_⟩
      by_cases hle : -(-(l.num * b) / l.den) ≤ h.num * b / h.den
      · refine .inr (.inr (.inl ⟨toD x, T, ?_, rfl⟩))
        have k3 := k1 hle
        have sc : Sm (k + k + 1) (if 0 < -(-(l.num * b) / l.den) then -(-(l.num * b) / l.den) else if h.num * b / h.den < 0 then h.num * b / h.den else 0) := by
          have z1 := div_abs (-(l.num * b)) l.den (den_p l)
          have z2 := div_abs (h.num * b) h.den (den_p h)
          have y1 := Sm.mul bl.n sb
          have y2 := Sm.mul bh.n sb
          unfold Sm at *
          rw [Nat.pow_succ]
          split
          · omega
          · split
            · omega
            · have := Nat.two_pow_pos (k + k); omega
        have lw := fun S => low_ (A := A) (S := S) (by omega : (b : Int) ≠ 0) sc (Sm.mono sb (by omega)) (by omega)
        rw [k3] at lw
        generalize hu : -(-(l.num * b) / l.den) = u at *
        generalize hv : h.num * b / h.den = v at *
        have split3 : ∀ S, (if 0 < u then Res.ok (D.int u) S else if v < 0 then Res.ok (D.int v) S else Res.ok (D.int 0) S) = Res.ok (D.int (if 0 < u then u else if v < 0 then v else 0)) S := fun S => by (repeat' split) <;> rfl
        simp [toD, m1, m2, d1, d2, hu, hv, hle]
        simp only [toD] at lw
        rw [split3]
        simp [lw]
      · refine .inl ⟨[some (toD l), some (toD h), some (.int (b + 1 : Nat)), some (.int (-(-(l.num * b) / l.den))), some (.int (h.num * b / h.den)), none], T, _, .inl ?_, ?_, rfl, b + 1, _, _, by omega, ?_, rfl, rfl⟩
        · simp [toD, m1, m2, d1, d2, hle]
        · have := k2 hle; omega
        · have := k2 hle; omega)
  unfold F__law_simplest
  rw [fn_ev]
  unfold b__law_simplest
  have first : sSet 2 (eC (.int 1)) (st0 6 [toD l, toD h]) S = .nx [some (toD l), some (toD h), some (.int 1), none, none, none] S := by simp [st0]
  rw [x_sSeq, first, sq_nx, hw]
  rfl
end K91
namespace K91
open PySem PySem.Spec L2 RZ Sd
variable {A : Str → Addr} {S : Store}
inductive EqD (S : Store) : Nat → D → D → Prop
  | int (n : Nat) (i : Int) : EqD S (n + 1) (.int i) (.int i)
  | bl (n : Nat) (b : Bool) : EqD S (n + 1) (.bl b) (.bl b)
  | str (n : Nat) (x : Str) (h : PyData.strOk x = true) : EqD S (n + 1) (.str x) (.str x)
  | tup (n : Nat) (xs ys : List D) (hl : xs.length = ys.length) (hb : xs.length ≤ 1000000) (h : ∀ (i : Nat) (x y : D), xs[i]? = some x → ys[i]? = some y → EqD S n x y) : EqD S (n + 1) (.tup xs) (.tup ys)
  | lst (n r q : Nat) (xs ys : List D) (hr : S[r]? = some xs) (hq : S[q]? = some ys) (hl : xs.length = ys.length) (hb : xs.length ≤ 1000000) (h : ∀ (i : Nat) (x y : D), xs[i]? = some x → ys[i]? = some y → EqD S n x y) : EqD S (n + 1) (.lst r) (.lst q)
theorem EqD.app {n : Nat} {d e : D} (h : EqD S n d e) (g : Store) : EqD (S ++ g) n d e := by
  induction h with
  | int n i => exact .int n i
  | bl n b => exact .bl n b
  | str n x h => exact .str n x h
  | tup n xs ys hl hb h ih => exact .tup n xs ys hl hb ih
  | lst n r q xs ys hr hq hl hb h ih =>
    exact .lst n r q xs ys (by rw [get_app (List.getElem?_eq_some_iff.mp hr).1]; exact hr) (by rw [get_app (List.getElem?_eq_some_iff.mp hq).1]; exact hq) hl hb ih
theorem EqD.pos {n : Nat} {d e : D} (h : EqD S n d e) : ∃ m, n = m + 1 := by cases h <;> exact ⟨_, rfl⟩
theorem mapO_true (n : Nat) : mapO asB (List.replicate n (.bl true)) = some (List.replicate n true) := by
  induction n with
  | zero => simp [mapO]
  | succ n ih => rw [List.replicate_succ, List.replicate_succ]; unfold mapO; rw [ih]; simp [asB]
theorem all_true (n : Nat) (r : Nat) (S : Store) (h : S[r]? = some (List.replicate n (.bl true))) : cAll [.lst r] S = some (.bl true, S) := by
  show (S[r]?).bind (fun xs => (mapO asB xs).map fun bs => (D.bl (bs.all id), S)) = _
  rw [h]
  show (mapO asB _).map _ = _
  rw [mapO_true]
  simp
theorem same_zip {xs ys : List D} (hl : xs.length = ys.length) (hb : xs.length ≤ 1000000) {a b : Itr} {d e : D} (ha : ∀ g i, a (S ++ g) i = xs[i]?) (hbb : ∀ g i, b (S ++ g) i = ys[i]?) (hit : iZipE (aCons (eVar 0) (aCons (eVar 1) aNil)) [some d, some e, none, none] S = .ok (itZip a b) S)
    (R : Fv) (ih : ∀ (i : Nat) (x y : D), xs[i]? = some x → ys[i]? = some y → ∀ g, ∃ g', R [x, y] (S ++ g) = .ok (.bl true) (S ++ g ++ g')) :
    ∃ g, eLc [2, 3] (iZipE (aCons (eVar 0) (aCons (eVar 1) aNil))) (.tp [(.nm 2), (.nm 3)]) tvYes (eCall R (aCons (eVar 2) (aCons (eVar 3) aNil))) [some d, some e, none, none] S = .ok (.lst S.length) (S ++ [List.replicate xs.length (.bl true)] ++ g) := by
  refine lc_new (xs := (xs.zip ys).map fun p => .tup [p.1, p.2]) (List.replicate xs.length (.bl true)) hit (by simp [List.length_zip, ← hl]) (by simpa using hb) (fun i g => ?_) (fun i d y g h1 h2 => ?_)
  · unfold itZip
    rw [ha, hbb]
    rw [List.getElem?_map]
    cases e1 : xs[i]? with
    | none =>
      have e2 : (xs.zip ys)[i]? = none := List.getElem?_eq_none (by rw [List.length_zip]; have := List.getElem?_eq_none_iff.mp e1; omega)
      rw [e2]
      rfl
    | some x =>
      obtain ⟨hx, rfl⟩ := List.getElem?_eq_some_iff.mp e1
      rw [List.getElem?_eq_getElem (by omega : i < ys.length), List.getElem?_eq_getElem (by rw [List.length_zip, ← hl, Nat.min_self]; exact hx)]
      simp
  · rw [List.getElem?_map] at h1
    have hy : y = .bl true := by
      have := List.mem_of_getElem? h2
      exact (List.mem_replicate.mp this).2
    subst hy
    cases e1 : (xs.zip ys)[i]? with
    | none => rw [e1] at h1; cases h1
    | some p =>
      rw [e1] at h1
      cases h1
      obtain ⟨hp, rfl⟩ := List.getElem?_eq_some_iff.mp e1
      rw [List.length_zip] at hp
      obtain ⟨g', hg⟩ := ih i xs[i] ys[i] (List.getElem?_eq_getElem (by omega)) (List.getElem?_eq_getElem (by omega)) g
      refine ⟨[some d, some e, some xs[i], some ys[i]], g', ?_, rfl, ?_⟩
      · simp [nb_tp, nb_nm, nbs_cons', nbs_nil, wipeL]
      · rw [← hg]
        simp
theorem same_ : ∀ (n : Nat) {S : Store} {d e : D}, EqD S n d e → ∃ g, F__law_same A n [d, e] S = .ok (.bl true) (S ++ g)
  | 0, S, d, e, h => by obtain ⟨m, hm⟩ := h.pos; cases hm
  | n + 1, S, d, e, h => by
    unfold F__law_same
    rw [fn_ev]
    cases h with
    | int _ i => exact ⟨[], by simp [b__law_same, st0, isTy, tyN]⟩
    | bl _ i => exact ⟨[], by simp [b__law_same, st0, isTy, tyN]⟩
    | str _ i h =>
      refine ⟨[], ?_⟩
      have e : ∀ S, oEq (.str i) (.str i) S = some (.bl true, S) := fun S => by
        unfold oEq toP
        simp [h, PyData.eqv]
      simp [b__law_same, st0, isTy, tyN, e]
    | tup _ xs ys hl hb h =>
      obtain ⟨g, hg⟩ := same_zip (S := S) hl hb (a := itSeq xs) (b := itSeq ys) (d := .tup xs) (e := .tup ys) (fun g i => rfl) (fun g i => rfl) (by simp [iZipE, isL, isT]) (F__law_same A n) (fun i x y h1 h2 g => same_ n ((h i x y h1 h2).app g))
      refine ⟨[List.replicate xs.length (.bl true)] ++ g, ?_⟩
      have ha := all_true xs.length S.length (S ++ ([List.replicate xs.length (.bl true)] ++ g)) (by simp)
      rw [List.append_assoc] at hg
      simp only [List.singleton_append] at *
      simp [b__law_same, st0, isTy, tyN, hl, hg]
      rw [← hl, ha]
      simp
    | lst _ r q xs ys hr hq hl hb h =>
      have hr1 := (List.getElem?_eq_some_iff.mp hr).1
      have hq1 := (List.getElem?_eq_some_iff.mp hq).1
      obtain ⟨g, hg⟩ := same_zip (S := S) hl hb (a := itLst r) (b := itLst q) (d := .lst r) (e := .lst q) (fun g i => by unfold itLst; rw [get_app hr1, hr]; rfl) (fun g i => by unfold itLst; rw [get_app hq1, hq]; rfl) (by simp [iZipE, isL, isT]) (F__law_same A n) (fun i x y h1 h2 g => same_ n ((h i x y h1 h2).app g))
      refine ⟨[List.replicate xs.length (.bl true)] ++ g, ?_⟩
      have ha := all_true xs.length S.length (S ++ ([List.replicate xs.length (.bl true)] ++ g)) (by simp)
      rw [List.append_assoc] at hg
      simp only [List.singleton_append] at *
      simp [b__law_same, st0, isTy, tyN, hr, hq, hl, hg]
      rw [← hl, ha]
      simp
theorem heard_exc {a : Addr} {F : Fv} {x y : D} {S' : Store} (hF : fvAt (tb A) a = some F) (h : F [x, y] S = .exc (A "Unfit") S') : F__law_heard A [.obj a, .tup [x, y]] S = .ok (.lst S'.length) (S' ++ [[.str "unfit", .bl true]]) := by
  have c : F__law_call A [.obj a, .tup [x, y]] S = .exc (A "Unfit") S' := by
    unfold F__law_call
    rw [fn_ev]
    simp [b__law_call, st0, eCallL, hF, h]
  unfold F__law_heard
  rw [fn_ev]
  simp [b__law_heard, st0, sTry1, nb_tp, nb_nm, nbs_cons', nbs_nil, c]
end K91
namespace K91
open PySem PySem.Spec L2 RZ Sd
variable {A : Str → Addr} {S : Store}
@[simp] theorem ix0 {q : Rat} : oIx (toD q) (.int 0) S = some (.int q.num, S) := by simp [toD]
@[simp] theorem ix1 {q : Rat} : oIx (toD q) (.int 1) S = some (.int q.den, S) := by simp [toD]
@[simp] theorem ne_self {q : Rat} : oNe (toD q) (toD q) S = some (.bl false, S) := by simp [toD]
theorem EqD.rat (n : Nat) (q : Rat) : EqD S (n + 2) (toD q) (toD q) := by
  refine .tup _ _ _ rfl (by simp) fun i x y h1 h2 => ?_
  rw [h1] at h2
  cases h2
  match i, h1 with
  | 0, h1 => cases h1; exact .int _ _
  | 1, h1 => cases h1; exact .int _ _
/-- plain values are the same as themselves -/
def Pl : D → Prop
  | .int _ => True
  | .bl _ => True
  | d => ∃ q, d = toD q
theorem EqD.pl {n : Nat} {d : D} (h : Pl d) : EqD S (n + 2) d d := by
  cases d with
  | int i => exact .int _ _
  | bl b => exact .bl _ _
  | _ => obtain ⟨q, h⟩ := h; rw [h]; exact .rat n q
theorem EqD.pls {n r q : Nat} {xs : List D} (hr : S[r]? = some xs) (hq : S[q]? = some xs) (hb : xs.length ≤ 1000000) (h : ∀ d ∈ xs, Pl d) : EqD S (n + 3) (.lst r) (.lst q) :=
  .lst _ _ _ _ _ hr hq rfl hb fun i x y h1 h2 => by
    rw [h1] at h2
    cases h2
    exact .pl (h x (List.mem_of_getElem? h1))
theorem EqD.unfit {n r q : Nat} (hr : S[r]? = some [.str "unfit", .bl true]) (hq : S[q]? = some [.str "unfit", .bl true]) : EqD S (n + 2) (.lst r) (.lst q) :=
  .lst _ _ _ _ _ hr hq rfl (by simp) fun i x y h1 h2 => by
    rw [h1] at h2
    cases h2
    match i, h1 with
    | 0, h1 => cases h1; exact .str _ _ (by decide +kernel)
    | 1, h1 => cases h1; exact .bl _ _
theorem Pl.rat (q : Rat) : Pl (toD q) := ⟨q, rfl⟩
section
variable {P : SRes → Prop} {p q : Sv} {ρ ρ' : Sd.Loc} {S' S1 S2 : Store} {ex ey : Ev} {d e : D}
theorem seq_ex (h : p ρ S = .nx ρ' S') (h2 : P (q ρ' S')) : P (sSeq p q ρ S) := by
  rw [x_sSeq, h]; exact h2
theorem seq_for {it : Iv} {t : NT} {b : Sv} {a : Itr} {xs : List D} (I : Nat → Sd.Loc → Store → Prop) (hit : it ρ S = .ok a S1) (hl : xs.length < fuel) (h0 : I 0 ρ S1) (ha : ∀ i ρ S, I i ρ S → a S i = xs[i]?)
    (step : ∀ i d ρ S, xs[i]? = some d → I i ρ S → ∃ ρ1, t.b d ρ = some ρ1 ∧ (fun r : SRes => ∃ ρ2 S2, r = .nx ρ2 S2 ∧ I (i + 1) ρ2 S2) (b ρ1 S)) (h2 : ∀ ρ' S', I xs.length ρ' S' → P (q ρ' S')) : P (sSeq (sFor it t b) q ρ S) := by
  obtain ⟨ρ', S', h, hI⟩ := for_run (b := b) I hit hl h0 ha fun i d ρ S h1 h2 => by
    obtain ⟨ρ1, e1, ρ2, S2, e2, e3⟩ := step i d ρ S h1 h2
    exact ⟨ρ1, ρ2, S2, e1, .inl e2, e3⟩
  rw [x_sSeq, h]
  exact h2 ρ' S' hI
theorem st_same (hx : ex ρ S = .ok d S1) (hy : ey ρ S1 = .ok e S2) (hE : EqD S2 5 d e) (k : ∀ g, P (q ρ (S2 ++ g))) : P (sSeq (sIf (tvNot (tvT (eCall (F__law_same A 5) (aCons ex (aCons ey aNil))))) (sRet (eC (.bl false))) sNext) q ρ S) := by
  obtain ⟨g, hg⟩ := same_ (A := A) 5 hE
  refine seq_ex ?_ (k g)
  simp [hx, hy, hg]
theorem if_same (hx : ex ρ S = .ok d S1) (hy : ey ρ S1 = .ok e S2) (hE : EqD S2 5 d e) : ∃ g, sIf (tvNot (tvT (eCall (F__law_same A 5) (aCons ex (aCons ey aNil))))) (sRet (eC (.bl false))) sNext ρ S = .nx ρ (S2 ++ g) := by
  obtain ⟨g, hg⟩ := same_ (A := A) 5 hE
  exact ⟨g, by simp [hx, hy, hg]⟩
end
theorem allfrac {r : Nat} {qs : List Rat} (h : S[r]? = some (qs.map toD)) (hb : qs.length ≤ 1000000) {s0 s1 s2 s3 s4 s5 s7 s8 s9 s10 s11 s12 s13 s14 s15 : Option D} :
    ∃ g, eCallO cAll (aCons (eLc [15] (iOf (eVar 6)) (.nm 15) tvYes (eCall (F_is_fraction A) (aCons (eVar 15) aNil))) aNil) [s0, s1, s2, s3, s4, s5, some (.lst r), s7, s8, s9, s10, s11, s12, s13, s14, s15] S = .ok (.bl true) (S ++ g) := by
  have hr := (List.getElem?_eq_some_iff.mp h).1
  have hl := lc_pure (a := itLst r) (t := .nm 15) (c := tvYes) (f := eCall (F_is_fraction A) (aCons (eVar 15) aNil)) (ρ := [s0, s1, s2, s3, s4, s5, some (.lst r), s7, s8, s9, s10, s11, s12, s13, s14, s15]) (it := iOf (eVar 6)) (vs := [15]) (xs := qs.map toD) (List.replicate qs.length (.bl true)) (S := S) (S1 := S)
    (by simp [itOf]) (by simp) (by simpa using hb) (fun i g => by unfold itLst; rw [get_app hr, h]; rfl) (fun i d y g h1 h2 => by
      refine ⟨_, nb_nm, rfl, ?_⟩
      have hy : y = .bl true := (List.mem_replicate.mp (List.mem_of_getElem? h2)).2
      subst hy
      obtain ⟨q, _, rfl⟩ := List.mem_map.mp (List.mem_of_getElem? h1)
      simp [wipeL, isfrac])
  have ha := all_true qs.length S.length (S ++ [List.replicate qs.length (.bl true)]) (by simp)
  refine ⟨[List.replicate qs.length (.bl true)], ?_⟩
  simp [hl, ha]
theorem st_frac {P : SRes → Prop} {q : Sv} {r r2 : Nat} {qs ps : List Rat} (h : S[r]? = some (qs.map toD)) (h2 : S[r2]? = some (ps.map toD)) (heq : qs = ps) (hb : qs.length ≤ 1000000) {s0 s1 s2 s3 s4 s5 s8 s9 s10 s11 s12 s13 s14 s15 : Option D}
    (k : ∀ g, P (q [s0, s1, s2, s3, s4, s5, some (.lst r), some (.lst r2), s8, s9, s10, s11, s12, s13, s14, s15] (S ++ g))) :
    P (sSeq (sIf (tvOr (tvNot (tvT (eCall (F__law_same A 5) (aCons (eVar 6) (aCons (eVar 7) aNil))))) (tvNot (tvT (eCallO cAll (aCons (eLc [15] (iOf (eVar 6)) (.nm 15) tvYes (eCall (F_is_fraction A) (aCons (eVar 15) aNil))) aNil))))) (sRet (eC (.bl false))) sNext) q
      [s0, s1, s2, s3, s4, s5, some (.lst r), some (.lst r2), s8, s9, s10, s11, s12, s13, s14, s15] S) := by
  subst heq
  obtain ⟨g, hg⟩ := same_ (A := A) 5 (EqD.pls (n := 2) h h2 (by simpa using hb) fun d hd => by obtain ⟨q, _, rfl⟩ := List.mem_map.mp hd; exact .rat q)
  have hr := (List.getElem?_eq_some_iff.mp h).1
  obtain ⟨g2, hg2⟩ := allfrac (A := A) (S := S ++ g) (r := r) (qs := qs) (by rw [get_app hr]; exact h) hb (s0 := s0) (s1 := s1) (s2 := s2) (s3 := s3) (s4 := s4) (s5 := s5) (s7 := some (.lst r2)) (s8 := s8) (s9 := s9) (s10 := s10) (s11 := s11) (s12 := s12) (s13 := s13) (s14 := s14) (s15 := s15)
  refine seq_ex (S' := S ++ g ++ g2) ?_ (by rw [List.append_assoc]; exact k _)
  simp [-x_eCallO, hg, hg2]
theorem best_one {x y l h : Rat} (a : Best x l h) (b : Best y l h) : x = y := by
  obtain ⟨a1, a2⟩ := a.mn y b.lo b.hi
  obtain ⟨b1, b2⟩ := b.mn x a.lo a.hi
  have ld := den_p l
  have hd := den_p h
  have e1 : x.num.natAbs = y.num.natAbs := by omega
  have e2 : x.den = y.den := by omega
  refine Rat.ext ?_ e2
  have p1 := (Rat.le_iff _ _).mp a.lo
  have p2 := (Rat.le_iff _ _).mp a.hi
  have q1 := (Rat.le_iff _ _).mp b.lo
  have q2 := (Rat.le_iff _ _).mp b.hi
  by_cases z : l.num ≤ 0 ∧ 0 ≤ h.num
  · have := (a.mn 0 ((Rat.le_iff _ _).mpr (by simpa using z.1)) ((Rat.le_iff _ _).mpr (by simpa using z.2))).2
    have z0 : (0 : Rat).num.natAbs = 0 := rfl
    omega
  · have xd := den_p x
    have yd := den_p y
    have hdx : ∀ n : Int, n ≤ 0 → n * l.den ≤ 0 := fun n hn => Int.mul_nonpos_of_nonpos_of_nonneg hn (by omega)
    have hdy : ∀ n : Int, 0 ≤ n → 0 ≤ n * h.den := fun n hn => Int.mul_nonneg hn (by omega)
    rcases Int.lt_or_le 0 l.num with w | w
    · have u1 := Int.mul_pos w xd
      have u2 := Int.mul_pos w yd
      have v1 := hdx x.num
      have v2 := hdx y.num
      omega
    · have w2 : h.num < 0 := by omega
      have u1 := Int.mul_neg_of_neg_of_pos w2 xd
      have u2 := Int.mul_neg_of_neg_of_pos w2 yd
      have v1 := hdy x.num
      have v2 := hdy y.num
      omega
theorem simplest_all {l h : Rat} {k : Nat} (bl : Bd k l) (bh : Bd k h) (hk : k < 4000) (le : l ≤ h) : ∃ x, Best x l h ∧ ∃ g : Store → Store, ∀ S, F_simplest A [toD l, toD h] S = .ok (toD x) (S ++ g S) := by
  obtain ⟨x, _, _, G⟩ := simplest_ (A := A) (S := []) bl bh hk le
  refine ⟨x, G, ?_⟩
  have : ∀ S : Store, ∃ g, F_simplest A [toD l, toD h] S = .ok (toD x) (S ++ g) := fun S => by
    obtain ⟨y, g, e, G2⟩ := simplest_ (A := A) (S := S) bl bh hk le
    rw [best_one G G2]
    exact ⟨g, e⟩
  exact Classical.skolem.mp this
theorem Bd.over {k : Nat} {p q : Rat} (hp : Bd k p) (hq : Bd k q) (h0 : q.num ≠ 0) : Bd (k + k) (p / q) := by
  rw [div_div']
  exact Bd.div (Sm.mul hp.n hq.d) (Sm.mul hp.d hq.n) (Int.mul_ne_zero (by have := den_p p; omega) h0)
theorem toD_half : (D.tup [.int 1, .int 2]) = toD (1 / 2) := by
  rw [show (1 / 2 : Rat) = Rat.divInt 1 2 from (Rat.divInt_eq_div 1 2).symm]
  unfold toD
  rw [(div_num 1 2 (by decide)).1, (div_num 1 2 (by decide)).2]
  rfl
theorem toD_zero : (D.tup [.int 0, .int 1]) = toD 0 := rfl
theorem toD_one : (D.tup [.int 1, .int 1]) = toD 1 := rfl
theorem Bd.half : Bd 2 (1 / 2) := by
  rw [show (1 / 2 : Rat) = Rat.divInt 1 2 from (Rat.divInt_eq_div 1 2).symm]
  exact Bd.div (by unfold Sm; decide) (by unfold Sm; decide) (by decide)
theorem cmp_swap (p q : Rat) : cmpQ q p = -cmpQ p q := by unfold cmpQ; omega
theorem cmp_neg (p q : Rat) : (cmpQ p q < 0) = (p < q) := by
  unfold cmpQ
  by_cases h : p < q
  · have : ¬ q < p := Rat.not_lt.mpr (Rat.le_of_lt h)
    simp [h, this]
  · by_cases h2 : q < p <;> simp [h, h2]
theorem cmp_add (p q c : Rat) : cmpQ (p + c) (q + c) = cmpQ p q := by
  unfold cmpQ
  simp only [Rat.add_lt_add_right]
theorem cmp_mul (p q c : Rat) (h : c.num ≠ 0) : cmpQ (p * c) (q * c) = if 0 < c.num then cmpQ p q else -cmpQ p q := by
  have e0 : ∀ x y : Rat, (-x < -y) = (y < x) := fun x y => propext Rat.neg_lt_neg_iff
  split
  · rename_i z
    have hc : 0 < c := (Rat.lt_iff _ _).mpr (by simpa using z)
    unfold cmpQ
    simp only [Rat.mul_lt_mul_right hc]
  · rename_i z
    have hc : 0 < -c := (Rat.lt_iff _ _).mpr (by simp; omega)
    have e1 : ∀ x y : Rat, (x * c < y * c) = (y < x) := fun x y => by
      rw [← e0, ← Rat.mul_neg, ← Rat.mul_neg]
      exact propext (Rat.mul_lt_mul_right hc)
    rw [← cmp_swap]
    unfold cmpQ
    simp only [e1]
end K91
namespace K91
open PySem PySem.Spec L2 RZ Sd
variable {A : Str → Addr} {S : Store}
def t1 (A : Str → Addr) : Sv := (sSet 1 (eCall (F__law_box A) (aCons (eCall (F__law_cells A) (aCons (eVar 0) (aCons (eC (.int 1)) aNil))) (aCons (eC (.int 0)) aNil))))
def t2f1 (A : Str → Addr) : Sv := (sPar3 3 4 5 (aCons (eCall (F__law_number A) (aCons (eVar 1) aNil)) (aCons (eCall (F__law_number A) (aCons (eVar 1) aNil)) (aCons (eCall (F__law_number A) (aCons (eVar 1) aNil)) aNil))))
def t2f2 (A : Str → Addr) : Sv := (sSet 6 (eLst (aCons (eCallK (F_added A) 0 2 [0, 1] aNil (aCons (eVar 3) (aCons (eVar 4) aNil))) (aCons (eCall (F_added A) (aCons (eCall (F_added A) (aCons (eVar 3) (aCons (eVar 4) aNil))) (aCons (eVar 5) aNil))) (aCons (eCall (F_times A) (aCons (eCall (F_times A) (aCons (eVar 3) (aCons (eVar 4) aNil))) (aCons (eVar 5) aNil))) (aCons (eCall (F_times A) (aCons (eVar 3) (aCons (eCall (F_added A) (aCons (eVar 4) (aCons (eVar 5) aNil))) aNil))) (aCons (eCall (F_less A) (aCons (eCall (F_added A) (aCons (eVar 3) (aCons (eVar 4) aNil))) (aCons (eVar 4) aNil))) (aCons (eCallK (F_less A) 0 2 [0, 1] aNil (aCons (eVar 3) (aCons (eVar 4) aNil))) (aCons (eCall (F_added A) (aCons (eVar 3) (aCons (eCallK (F_negative A) 0 1 [0] aNil (aCons (eVar 3) aNil)) aNil))) aNil)))))))))
def t2f3 (A : Str → Addr) : Sv := (sSet 7 (eLst (aCons (eCall (F__law_plus A) (aCons (eVar 3) (aCons (eVar 4) aNil))) (aCons (eCall (F_added A) (aCons (eVar 3) (aCons (eCall (F_added A) (aCons (eVar 4) (aCons (eVar 5) aNil))) aNil))) (aCons (eCall (F_times A) (aCons (eVar 3) (aCons (eCall (F_times A) (aCons (eVar 5) (aCons (eVar 4) aNil))) aNil))) (aCons (eCall (F_added A) (aCons (eCall (F_times A) (aCons (eVar 3) (aCons (eVar 4) aNil))) (aCons (eCall (F_times A) (aCons (eVar 5) (aCons (eVar 3) aNil))) aNil))) (aCons (eVar 3) (aCons (eCall (F_negative A) (aCons (eCall (F_less A) (aCons (eVar 4) (aCons (eVar 3) aNil))) aNil)) (aCons (eTup (aCons (eC (.int 0)) (aCons (eC (.int 1)) aNil))) aNil)))))))))
def t2f4 (A : Str → Addr) : Sv := (sIf (tvOr (tvNot (tvT (eCall (F__law_same A 5) (aCons (eVar 6) (aCons (eVar 7) aNil))))) (tvNot (tvT (eCallO cAll (aCons (eLc [15] (iOf (eVar 6)) (.nm 15) tvYes (eCall (F_is_fraction A) (aCons (eVar 15) aNil))) aNil))))) (sRet (eC (.bl false))) sNext)
def t2f5 (A : Str → Addr) : Sv := (sIf (tvB (eBin oNe (eBin oIx (eVar 4) (eC (.int 0))) (eC (.int 0)))) (sIf (tvNot (tvT (eCall (F__law_same A 5) (aCons (eLst (aCons (eCall (F_over A) (aCons (eCall (F_times A) (aCons (eVar 3) (aCons (eVar 4) aNil))) (aCons (eVar 4) aNil))) (aCons (eCall (F_times A) (aCons (eCallK (F_over A) 0 2 [0, 1] aNil (aCons (eVar 3) (aCons (eVar 4) aNil))) (aCons (eVar 4) aNil))) (aCons (eCall (F_over A) (aCons (eVar 4) (aCons (eVar 4) aNil))) aNil)))) (aCons (eLst (aCons (eVar 3) (aCons (eVar 3) (aCons (eTup (aCons (eC (.int 1)) (aCons (eC (.int 1)) aNil))) aNil)))) aNil))))) (sRet (eC (.bl false))) sNext) (sIf (tvNot (tvT (eCall (F__law_same A 5) (aCons (eCall (F__law_heard A) (aCons (eC (.obj (A "over"))) (aCons (eTup (aCons (eVar 3) (aCons (eVar 4) aNil))) aNil))) (aCons (eLst (aCons (eC (.str "unfit")) (aCons (eC (.bl true)) aNil))) aNil))))) (sRet (eC (.bl false))) sNext))
def t2f6 (A : Str → Addr) : Sv := (sSet 8 (eBin oSub (eCallO cInt (aCons (eBin oGt (eBin oMul (eBin oIx (eVar 3) (eC (.int 0))) (eBin oIx (eVar 4) (eC (.int 1)))) (eBin oMul (eBin oIx (eVar 4) (eC (.int 0))) (eBin oIx (eVar 3) (eC (.int 1))))) aNil)) (eCallO cInt (aCons (eBin oLt (eBin oMul (eBin oIx (eVar 3) (eC (.int 0))) (eBin oIx (eVar 4) (eC (.int 1)))) (eBin oMul (eBin oIx (eVar 4) (eC (.int 0))) (eBin oIx (eVar 3) (eC (.int 1))))) aNil))))
def t2f7 (A : Str → Addr) : Sv := (sSet 6 (eLst (aCons (eCallK (F_compared A) 0 2 [0, 1] aNil (aCons (eVar 3) (aCons (eVar 4) aNil))) (aCons (eCall (F_compared A) (aCons (eVar 4) (aCons (eVar 3) aNil))) (aCons (eCallK (F_less_than A) 0 2 [0, 1] aNil (aCons (eVar 3) (aCons (eVar 4) aNil))) (aCons (eCall (F_compared A) (aCons (eCall (F_added A) (aCons (eVar 3) (aCons (eVar 5) aNil))) (aCons (eCall (F_added A) (aCons (eVar 4) (aCons (eVar 5) aNil))) aNil))) (aCons (eCallK (F_floor_of A) 0 1 [0] aNil (aCons (eVar 3) aNil)) (aCons (eCallK (F_ceiling_of A) 0 1 [0] aNil (aCons (eVar 3) aNil)) (aCons (eCallK (F_middle A) 0 2 [0, 1] aNil (aCons (eVar 3) (aCons (eVar 4) aNil))) aNil)))))))))
def t2f8 (A : Str → Addr) : Sv := (sIf (tvNot (tvT (eCall (F__law_same A 5) (aCons (eVar 6) (aCons (eLst (aCons (eVar 8) (aCons (eBin oSub (eC (.int 0)) (eVar 8)) (aCons (eBin oLt (eVar 8) (eC (.int 0))) (aCons (eVar 8) (aCons (eBin oDiv (eBin oIx (eVar 3) (eC (.int 0))) (eBin oIx (eVar 3) (eC (.int 1)))) (aCons (eBin oSub (eC (.int 0)) (eBin oDiv (eBin oSub (eC (.int 0)) (eBin oIx (eVar 3) (eC (.int 0)))) (eBin oIx (eVar 3) (eC (.int 1))))) (aCons (eCall (F__law_times A) (aCons (eCall (F__law_plus A) (aCons (eVar 3) (aCons (eVar 4) aNil))) (aCons (eTup (aCons (eC (.int 1)) (aCons (eC (.int 2)) aNil))) aNil))) aNil)))))))) aNil))))) (sRet (eC (.bl false))) sNext)
def t2f9 (A : Str → Addr) : Sv := (sIf (tvAnd (tvB (eBin oNe (eBin oIx (eVar 5) (eC (.int 0))) (eC (.int 0)))) (tvB (eBin oNe (eCall (F_compared A) (aCons (eCall (F_times A) (aCons (eVar 3) (aCons (eVar 5) aNil))) (aCons (eCall (F_times A) (aCons (eVar 4) (aCons (eVar 5) aNil))) aNil))) (eIf (tvB (eBin oGt (eBin oIx (eVar 5) (eC (.int 0))) (eC (.int 0)))) (eVar 8) (eBin oSub (eC (.int 0)) (eVar 8)))))) (sRet (eC (.bl false))) sNext)
def t2f10 (A : Str → Addr) : Sv := (sPar 9 10 (aCons (eCall (F_fraction A) (aCons (eBin oSub (eCall (F__law_take A) (aCons (eVar 1) (aCons (eC (.int 81)) aNil))) (eC (.int 40))) (aCons (eBin oAdd (eC (.int 1)) (eCall (F__law_take A) (aCons (eVar 1) (aCons (eC (.int 30)) aNil)))) aNil))) (aCons (eCall (F_fraction A) (aCons (eBin oSub (eCall (F__law_take A) (aCons (eVar 1) (aCons (eC (.int 81)) aNil))) (eC (.int 40))) (aCons (eBin oAdd (eC (.int 1)) (eCall (F__law_take A) (aCons (eVar 1) (aCons (eC (.int 30)) aNil)))) aNil))) aNil)))
def t2f11 (A : Str → Addr) : Sv := (sNt (.tp [(.nm 11), (.nm 12)]) (eIf (tvNot (tvT (eCall (F_less_than A) (aCons (eVar 10) (aCons (eVar 9) aNil))))) (eTup (aCons (eVar 9) (aCons (eVar 10) aNil))) (eTup (aCons (eVar 10) (aCons (eVar 9) aNil)))))
def t2f12 (A : Str → Addr) : Sv := (sSet 13 (eCallK (F_simplest A) 0 2 [0, 1] aNil (aCons (eVar 11) (aCons (eVar 12) aNil))))
def t2f13 (A : Str → Addr) : Sv := (sIf (tvOr (tvB (eBin oNe (eVar 13) (eCall (F__law_simplest A) (aCons (eVar 11) (aCons (eVar 12) aNil))))) (tvOr (tvB (eBin oNe (eCall (F_simplest A) (aCons (eCall (F_negative A) (aCons (eVar 12) aNil)) (aCons (eCall (F_negative A) (aCons (eVar 11) aNil)) aNil))) (eCall (F_negative A) (aCons (eVar 13) aNil)))) (tvB (eBin oNe (eCall (F_simplest A) (aCons (eVar 13) (aCons (eVar 13) aNil))) (eVar 13))))) (sRet (eC (.bl false))) sNext)
def t2f14 (A : Str → Addr) : Sv := (sSet 14 (eIf (tvB (eBin oLe (eVar 8) (eC (.int 0)))) (eCall (F_simplest A) (aCons (eVar 3) (aCons (eVar 4) aNil))) (eCall (F_simplest A) (aCons (eVar 4) (aCons (eVar 3) aNil)))))
def t2f15 (A : Str → Addr) : Sv := (sIf (tvOr (tvT (eCall (F_less_than A) (aCons (eVar 14) (aCons (eIf (tvB (eBin oLe (eVar 8) (eC (.int 0)))) (eVar 3) (eVar 4)) aNil)))) (tvOr (tvT (eCall (F_less_than A) (aCons (eIf (tvB (eBin oLe (eVar 8) (eC (.int 0)))) (eVar 4) (eVar 3)) (aCons (eVar 14) aNil)))) (tvB (eBin oGt (eBin oIx (eVar 14) (eC (.int 1))) (eCallO cMin2 (aCons (eBin oIx (eVar 3) (eC (.int 1))) (aCons (eBin oIx (eVar 4) (eC (.int 1))) aNil))))))) (sRet (eC (.bl false))) sNext)
def t2f16 (A : Str → Addr) : Sv := (sIf (tvAnd (tvB (eBin oGt (eVar 8) (eC (.int 0)))) (tvNot (tvT (eCall (F__law_same A 5) (aCons (eCall (F__law_heard A) (aCons (eC (.obj (A "simplest"))) (aCons (eTup (aCons (eVar 3) (aCons (eVar 4) aNil))) aNil))) (aCons (eLst (aCons (eC (.str "unfit")) (aCons (eC (.bl true)) aNil))) aNil)))))) (sRet (eC (.bl false))) sNext)
def t3 (A : Str → Addr) : Sv := (sRet (eCall (F__law_same A 5) (aCons (eLst (aCons (eCall (F_fraction A) (aCons (eC (.int 6)) (aCons (eNeg (eC (.int 4))) aNil))) (aCons (eCall (F_fraction A) (aCons (eC (.int 0)) (aCons (eNeg (eC (.int 7))) aNil))) (aCons (eCall (F_floor_of A) (aCons (eTup (aCons (eNeg (eC (.int 7))) (aCons (eC (.int 2)) aNil))) aNil)) (aCons (eCall (F_ceiling_of A) (aCons (eTup (aCons (eNeg (eC (.int 7))) (aCons (eC (.int 2)) aNil))) aNil)) (aCons (eCall (F__law_heard A) (aCons (eC (.obj (A "fraction"))) (aCons (eTup (aCons (eC (.int 1)) (aCons (eC (.int 0)) aNil))) aNil))) aNil)))))) (aCons (eLst (aCons (eTup (aCons (eNeg (eC (.int 3))) (aCons (eC (.int 2)) aNil))) (aCons (eTup (aCons (eC (.int 0)) (aCons (eC (.int 1)) aNil))) (aCons (eNeg (eC (.int 4))) (aCons (eNeg (eC (.int 3))) (aCons (eLst (aCons (eC (.str "unfit")) (aCons (eC (.bl true)) aNil))) aNil)))))) aNil))))
section
variable {P : SRes → Prop} {q : Sv} {r c0 : Nat} {a b c : Rat} {s0 s2 s3 s4 s5 s6 s7 s8 s9 s10 s11 s12 s13 s14 s15 : Option D}
theorem b1 (hT : Tin c0 r S) (hc : c0 < 100000)
    (k : ∀ a b c S' s6 s7, Bd 67 a → Bd 67 b → Bd 67 c → Tin (c0 + 9) r S' → P (q [s0, some (.lst r), s2, some (toD a), some (toD b), some (toD c), s6, s7, s8, s9, s10, s11, s12, s13, s14, s15] S')) :
    P (sSeq (t2f1 A) (sSeq (t2f2 A) (sSeq (t2f3 A) (sSeq (t2f4 A) q))) [s0, some (.lst r), s2, s3, s4, s5, s6, s7, s8, s9, s10, s11, s12, s13, s14, s15] S) := by
  obtain ⟨a, S1, na, Ba, T1⟩ := number_ (A := A) hT (by omega)
  obtain ⟨b, S2, nb, Bb, T2⟩ := number_ (A := A) T1 (by omega)
  obtain ⟨c, S3, nc, Bc, T3⟩ := number_ (A := A) T2 (by omega)
  have a3 : Bd 300 a := Ba.mono (by decide)
  have b3 : Bd 300 b := Bb.mono (by decide)
  have c3 : Bd 300 c := Bc.mono (by decide)
  have f1 := fun S => added (A := A) (S := S) a3 b3 (by decide)
  have f2 := fun S => added (A := A) (S := S) (a3.add b3) (c3.mono (by decide)) (by decide)
  have f3 := fun S => times_ (A := A) (S := S) a3 b3 (by decide)
  have f4 := fun S => times_ (A := A) (S := S) (a3.mul b3) (c3.mono (by decide)) (by decide)
  have f5 := fun S => added (A := A) (S := S) b3 c3 (by decide)
  have f6 := fun S => times_ (A := A) (S := S) (a3.mono (by decide : 300 ≤ 601)) (b3.add c3) (by decide)
  have f7 := fun S => less_ (A := A) (S := S) (a3.add b3) (b3.mono (by decide)) (by decide)
  have f8 := fun S => less_ (A := A) (S := S) a3 b3 (by decide)
  have f9 := fun S => neg_ (A := A) (S := S) (p := a)
  have f10 := fun S => added (A := A) (S := S) a3 a3.neg (by decide)
  have d1 := fun S => lplus_ (A := A) (S := S) Ba Bb (by decide)
  have d2 := fun S => added (A := A) (S := S) (a3.mono (by decide : 300 ≤ 601)) (b3.add c3) (by decide)
  have d3 := fun S => times_ (A := A) (S := S) c3 b3 (by decide)
  have d4 := fun S => times_ (A := A) (S := S) (a3.mono (by decide : 300 ≤ 600)) (c3.mul b3) (by decide)
  have d5 := fun S => times_ (A := A) (S := S) c3 a3 (by decide)
  have d6 := fun S => added (A := A) (S := S) (a3.mul b3) (c3.mul a3) (by decide)
  have d7 := fun S => less_ (A := A) (S := S) b3 a3 (by decide)
  have d8 := fun S => neg_ (A := A) (S := S) (p := b - a)
  refine seq_ex (by simp [t2f1, na, nb, nc]; exact ⟨rfl, rfl⟩) ?_
  refine seq_ex (by simp [t2f2, f1, f2, f3, f4, f5, f6, f7, f8, f9, f10]; exact ⟨rfl, rfl⟩) ?_
  refine seq_ex (by simp [t2f3, d1, f5, d2, d3, d4, f3, d5, d6, d7, d8]; exact ⟨rfl, rfl⟩) ?_
  refine st_frac (qs := [a + b, a + b + c, a * b * c, a * (b + c), a + b - b, a - b, a + -a]) (ps := [a + b, a + (b + c), a * (c * b), a * b + c * a, a, -(b - a), 0]) (by simp) (by simp; rfl) ?_ (by simp) fun g => k a b c _ _ _ Ba Bb Bc ?_
  · rw [Rat.add_assoc, Rat.mul_assoc, Rat.mul_comm b c, Rat.mul_add, Rat.mul_comm a c, Rat.add_sub_cancel, Rat.neg_sub, Rat.add_neg_cancel]
  · repeat (first | exact T3 | refine Tin.app ?_ _)
theorem sif_t {c : Tv} {p u : Sv} {ρ ρ' : Sd.Loc} {S1 S' : Store} (hc : c ρ S = .ok true S1) (h : p ρ S1 = .nx ρ' S') : sIf c p u ρ S = .nx ρ' S' := by rw [x_sIf, hc, st_ok, if_pos rfl, h]
theorem sif_f {c : Tv} {p u : Sv} {ρ ρ' : Sd.Loc} {S1 S' : Store} (hc : c ρ S = .ok false S1) (h : u ρ S1 = .nx ρ' S') : sIf c p u ρ S = .nx ρ' S' := by rw [x_sIf, hc, st_ok, if_neg Bool.false_ne_true, h]
theorem tb_over (hA : Good A) : fvAt (tb A) (A "over") = some (F_over A) := by
  have h1 : ¬ A "fraction" = A "over" := by intro h; simp [Good, h] at hA
  simp [tb, fvAt, h1]
theorem tb_simplest (hA : Good A) : fvAt (tb A) (A "simplest") = some (F_simplest A) := by
  have h1 : ¬ A "fraction" = A "simplest" := by intro h; simp [Good, h] at hA
  have h2 : ¬ A "over" = A "simplest" := by intro h; simp [Good, h] at hA
  simp [tb, fvAt, h1, h2]
theorem tb_fraction : fvAt (tb A) (A "fraction") = some (F_fraction A) := by simp [tb, fvAt]
theorem b2 (hA : Good A) (Ba : Bd 67 a) (Bb : Bd 67 b) (k : ∀ g, P (q [s0, some (.lst r), s2, some (toD a), some (toD b), s5, s6, s7, s8, s9, s10, s11, s12, s13, s14, s15] (S ++ g))) :
    P (sSeq (t2f5 A) q [s0, some (.lst r), s2, some (toD a), some (toD b), s5, s6, s7, s8, s9, s10, s11, s12, s13, s14, s15] S) := by
  have a3 : Bd 300 a := Ba.mono (by decide)
  have b3 : Bd 300 b := Bb.mono (by decide)
  by_cases hb : b.num = 0
  · have hx : eCall (F__law_heard A) (aCons (eC (.obj (A "over"))) (aCons (eTup (aCons (eVar 3) (aCons (eVar 4) aNil))) aNil)) [s0, some (.lst r), s2, some (toD a), some (toD b), s5, s6, s7, s8, s9, s10, s11, s12, s13, s14, s15] S = .ok (.lst (S ++ [gq a, gq b]).length) (S ++ [gq a, gq b] ++ [[.str "unfit", .bl true]]) := by
      obtain ⟨S', h, rfl⟩ := over_0 (A := A) (S := S) (p := a) hb
      have := heard_exc (A := A) (tb_over hA) h
      simp at this
      simp [this]
    obtain ⟨g, hg⟩ := if_same (A := A) hx (ey := eLst (aCons (eC (.str "unfit")) (aCons (eC (.bl true)) aNil))) (by simp; exact ⟨rfl, rfl⟩) (EqD.unfit (n := 3) (by simp) (by simp))
    refine seq_ex (sif_f (by simp [hb]) hg) ?_
    simp only [List.append_assoc]
    exact k _
  · have o1 := fun S => over_ (A := A) (S := S) (a3.mul b3) (b3.mono (by decide)) (by decide) hb
    have o2 := fun S => over_ (A := A) (S := S) a3 b3 (by decide) hb
    have o3 := fun S => times_ (A := A) (S := S) (a3.over b3 hb) (b3.mono (by decide)) (by decide)
    have o4 := fun S => over_ (A := A) (S := S) b3 b3 (by decide) hb
    have f3 := fun S => times_ (A := A) (S := S) a3 b3 (by decide)
    have hb0 : b ≠ 0 := fun h => hb (by rw [h]; rfl)
    have e1 : a * b / b = a := Rat.mul_div_cancel hb0
    have e2 : a / b * b = a := Rat.div_mul_cancel hb0
    have e3 : b / b = 1 := by rw [Rat.div_def]; exact Rat.mul_inv_cancel b hb0
    obtain ⟨g, hg⟩ := if_same (A := A) (S := S) (ρ := [s0, some (.lst r), s2, some (toD a), some (toD b), s5, s6, s7, s8, s9, s10, s11, s12, s13, s14, s15])
      (ex := eLst (aCons (eCall (F_over A) (aCons (eCall (F_times A) (aCons (eVar 3) (aCons (eVar 4) aNil))) (aCons (eVar 4) aNil))) (aCons (eCall (F_times A) (aCons (eCallK (F_over A) 0 2 [0, 1] aNil (aCons (eVar 3) (aCons (eVar 4) aNil))) (aCons (eVar 4) aNil))) (aCons (eCall (F_over A) (aCons (eVar 4) (aCons (eVar 4) aNil))) aNil))))
      (ey := eLst (aCons (eVar 3) (aCons (eVar 3) (aCons (eTup (aCons (eC (.int 1)) (aCons (eC (.int 1)) aNil))) aNil))))
      (by simp [f3, o1, o2, o3, o4]; exact ⟨rfl, rfl⟩) (by simp; exact ⟨rfl, rfl⟩) (EqD.pls (n := 2) (xs := [toD a, toD a, toD 1]) (by simp [e1, e2, e3]) (by simp; rfl) (by simp) (fun d hd => by simp at hd; rcases hd with rfl | rfl <;> exact .rat _))
    refine seq_ex (sif_t (by simp [hb]) hg) ?_
    simp only [List.append_assoc]
    exact k _
theorem b3 (Ba : Bd 67 a) (Bb : Bd 67 b) (Bc : Bd 67 c) (k : ∀ s6 g, P (q [s0, some (.lst r), s2, some (toD a), some (toD b), some (toD c), s6, s7, some (.int (cmpQ a b)), s9, s10, s11, s12, s13, s14, s15] (S ++ g))) :
    P (sSeq (t2f6 A) (sSeq (t2f7 A) (sSeq (t2f8 A) (sSeq (t2f9 A) q))) [s0, some (.lst r), s2, some (toD a), some (toD b), some (toD c), s6, s7, s8, s9, s10, s11, s12, s13, s14, s15] S) := by
  have a3 : Bd 300 a := Ba.mono (by decide)
  have b3 : Bd 300 b := Bb.mono (by decide)
  have c3 : Bd 300 c := Bc.mono (by decide)
  have m1 := fun S => oMul_int (S := S) Ba.n Bb.d (by decide)
  have m2 := fun S => oMul_int (S := S) Bb.n Ba.d (by decide)
  have l1 : (a.num * ↑b.den < b.num * ↑a.den) = (a < b) := propext (Rat.lt_iff a b).symm
  have l2 : (b.num * ↑a.den < a.num * ↑b.den) = (b < a) := propext (Rat.lt_iff b a).symm
  have cq : ((if b < a then 1 else 0) - (if a < b then 1 else 0) : Int) = cmpQ a b := rfl
  have c1 := fun S => compared_ (A := A) (S := S) a3 b3 (by decide)
  have c2 : ∀ S, F_compared A [toD b, toD a] S = .ok (.int (-cmpQ a b)) (S ++ [gq b, gq a]) := fun S => by rw [← cmp_swap]; exact compared_ b3 a3 (by decide)
  have c4 := fun S => less_than_ (A := A) (S := S) a3 b3 (by decide)
  have f1 := fun S => added (A := A) (S := S) a3 c3 (by decide)
  have f2 := fun S => added (A := A) (S := S) b3 c3 (by decide)
  have c5 : ∀ S, F_compared A [toD (a + c), toD (b + c)] S = .ok (.int (cmpQ a b)) (S ++ [gq (a + c), gq (b + c)]) := fun S => by rw [← cmp_add a b c]; exact compared_ (a3.add c3) (b3.add c3) (by decide)
  have c6 := fun S => floor_ (A := A) (S := S) a3 (by decide)
  have c7 := fun S => ceil_ (A := A) (S := S) a3 (by decide)
  have c8 := fun S => middle_ (A := A) (S := S) a3 b3 (by decide)
  have d1 := fun S => lplus_ (A := A) (S := S) Ba Bb (by decide)
  have d2 := fun S => ltimes_ (A := A) (S := S) (Ba.add Bb) Bd.half (by decide)
  have d3 := fun i S => oDiv_int (S := S) (i := i) (den_p a) Ba.d (by decide)
  have t1 := fun S => times_ (A := A) (S := S) a3 c3 (by decide)
  have t2 := fun S => times_ (A := A) (S := S) b3 c3 (by decide)
  have ng := cmp_neg a b
  refine seq_ex (by simp [t2f6, m1, m2, l1, l2, cq]; exact ⟨rfl, rfl⟩) ?_
  refine seq_ex (by simp [t2f7, c1, c2, c4, f1, f2, c5, c6, c7, c8]; exact ⟨rfl, rfl⟩) ?_
  refine st_same (by simp; exact ⟨rfl, rfl⟩) (by simp [d1, d2, d3, toD_half, ng]; exact ⟨rfl, rfl⟩) (EqD.pls (n := 2) (xs := [.int (cmpQ a b), .int (-cmpQ a b), .bl (decide (a < b)), .int (cmpQ a b), .int (a.num / a.den), .int (-(-a.num / a.den)), toD ((a + b) * (1 / 2))]) (by simp) (by simp) (by simp) (fun d hd => by simp at hd; rcases hd with rfl | rfl | rfl | rfl | rfl | rfl | rfl <;> first | trivial | exact .rat _)) fun g => ?_
  by_cases hc : c.num = 0
  · refine seq_ex (by simp [t2f9, hc]; exact ⟨rfl, rfl⟩) ?_
    try simp only [List.append_assoc]
    exact k _ _
  · have t3 : ∀ S, F_compared A [toD (a * c), toD (b * c)] S = .ok (.int (if 0 < c.num then cmpQ a b else -cmpQ a b)) (S ++ [gq (a * c), gq (b * c)]) := fun S => by rw [← cmp_mul a b c hc]; exact compared_ (a3.mul c3) (b3.mul c3) (by decide)
    by_cases hc2 : 0 < c.num
    · refine seq_ex (by simp [t2f9, hc, t1, t2, t3, hc2]; exact ⟨rfl, rfl⟩) ?_
      try simp only [List.append_assoc]
      exact k _ _
    · refine seq_ex (by simp [t2f9, hc, t1, t2, t3, hc2]; exact ⟨rfl, rfl⟩) ?_
      try simp only [List.append_assoc]
      exact k _ _
theorem b4 (hT : Tin c0 r S) (hc : c0 < 100000) (k : ∀ l h s9 s10 S', l ≤ h → Bd 10 l → Bd 10 h → Tin (c0 + 4) r S' → P (q [s0, some (.lst r), s2, s3, s4, s5, s6, s7, s8, s9, s10, some (toD l), some (toD h), s13, s14, s15] S')) :
    P (sSeq (t2f10 A) (sSeq (t2f11 A) q) [s0, some (.lst r), s2, s3, s4, s5, s6, s7, s8, s9, s10, s11, s12, s13, s14, s15] S) := by
  have s81 : Sm 10 81 := by unfold Sm; decide
  have s30 : Sm 10 30 := by unfold Sm; decide
  obtain ⟨v1, S1, h1, p1, p2, T1, _⟩ := take_ (A := A) hT (by omega) (j := 81) (by decide) s81 (by decide)
  obtain ⟨v2, S2, h2, p3, p4, T2, _⟩ := take_ (A := A) T1 (by omega) (j := 30) (by decide) s30 (by decide)
  obtain ⟨v3, S3, h3, p5, p6, T3, _⟩ := take_ (A := A) T2 (by omega) (j := 81) (by decide) s81 (by decide)
  obtain ⟨v4, S4, h4, p7, p8, T4, _⟩ := take_ (A := A) T3 (by omega) (j := 30) (by decide) s30 (by decide)
  have n1 : Sm 10 (v1 - 40) := by unfold Sm; omega
  have n2 : Sm 10 (1 + v2) := by unfold Sm; omega
  have n3 : Sm 10 (v3 - 40) := by unfold Sm; omega
  have n4 : Sm 10 (1 + v4) := by unfold Sm; omega
  have f1 := fun S => frac_ (A := A) (S := S) (a := v1 - 40) (by omega : 1 + v2 ≠ 0) n2 (by decide)
  have f2 := fun S => frac_ (A := A) (S := S) (a := v3 - 40) (by omega : 1 + v4 ≠ 0) n4 (by decide)
  have B1 := Bd.div n1 n2 (by omega)
  have B2 := Bd.div n3 n4 (by omega)
  generalize Rat.divInt (v1 - 40) (1 + v2) = near at *
  generalize Rat.divInt (v3 - 40) (1 + v4) = far at *
  have lt := fun S => less_than_ (A := A) (S := S) B2 B1 (by decide)
  refine seq_ex (by simp [t2f10, h1, h2, h3, h4, f1, f2]; exact ⟨rfl, rfl⟩) ?_
  by_cases hlt : far < near
  · refine seq_ex (by simp [t2f11, lt, hlt, nb_tp, nb_nm, nbs_cons', nbs_nil]; exact ⟨⟨rfl, rfl⟩, rfl⟩) (k far near _ _ _ (Rat.le_of_lt hlt) B2 B1 ?_)
    exact Tin.app T4 _
  · refine seq_ex (by simp [t2f11, lt, hlt, nb_tp, nb_nm, nbs_cons', nbs_nil]; exact ⟨⟨rfl, rfl⟩, rfl⟩) (k near far _ _ _ (Rat.not_lt.mp hlt) B1 B2 ?_)
    exact Tin.app T4 _
theorem b5 {l h : Rat} (le : l ≤ h) (Bl : Bd 10 l) (Bh : Bd 10 h) (k : ∀ s13 g, P (q [s0, some (.lst r), s2, s3, s4, s5, s6, s7, s8, s9, s10, some (toD l), some (toD h), s13, s14, s15] (S ++ g))) :
    P (sSeq (t2f12 A) (sSeq (t2f13 A) q) [s0, some (.lst r), s2, s3, s4, s5, s6, s7, s8, s9, s10, some (toD l), some (toD h), s13, s14, s15] S) := by
  obtain ⟨x, G, g, hx⟩ := simplest_all (A := A) Bl Bh (by decide) le
  obtain ⟨y, G2, g2, hy⟩ := simplest_all (A := A) Bh.neg Bl.neg (by decide) (Rat.neg_le_neg le)
  have e1 : y = -x := best_one G2 (good_neg G)
  subst e1
  have ls := fun S => lsimplest_ (A := A) (S := S) Bl Bh (by decide) G
  have Bx : Bd 10 x := by
    obtain ⟨m1, m2⟩ := G.mn l Rat.le_refl le
    have := Bl.n
    have := Bl.d
    refine ⟨?_, ?_⟩ <;> unfold Sm at * <;> omega
  obtain ⟨z, G3, g3, hz⟩ := simplest_all (A := A) Bx Bx (by decide) Rat.le_refl
  have e2 : z = x := best_one G3 (good_self x)
  subst e2
  have n1 := fun S => neg_ (A := A) (S := S) (p := l)
  have n2 := fun S => neg_ (A := A) (S := S) (p := h)
  have n3 := fun S => neg_ (A := A) (S := S) (p := z)
  refine seq_ex (by simp [t2f12, hx]; exact ⟨rfl, rfl⟩) ?_
  refine seq_ex (by simp [t2f13, ls, n1, n2, n3, hy, hz]; exact ⟨rfl, rfl⟩) ?_
  exact k _ _
theorem b6 (hA : Good A) (Ba : Bd 67 a) (Bb : Bd 67 b) (k : ∀ s14 g, P (.nx [s0, some (.lst r), s2, some (toD a), some (toD b), s5, s6, s7, some (.int (cmpQ a b)), s9, s10, s11, s12, s13, s14, s15] (S ++ g))) :
    P (sSeq (t2f14 A) (sSeq (t2f15 A) (t2f16 A)) [s0, some (.lst r), s2, some (toD a), some (toD b), s5, s6, s7, some (.int (cmpQ a b)), s9, s10, s11, s12, s13, s14, s15] S) := by
  by_cases hlt : b < a
  · obtain ⟨x, G, g, hx⟩ := simplest_all (A := A) Bb Ba (by decide) (Rat.le_of_lt hlt)
    have c0 : 0 < cmpQ a b := by rw [cmp_pos]; exact hlt
    have c1 : ¬ cmpQ a b ≤ 0 := by omega
    obtain ⟨m1, m2⟩ := G.mn b Rat.le_refl (Rat.le_of_lt hlt)
    obtain ⟨m3, m4⟩ := G.mn a (Rat.le_of_lt hlt) Rat.le_refl
    have Bx : Bd 67 x := by
      have := Bb.n
      have := Bb.d
      refine ⟨?_, ?_⟩ <;> unfold Sm at * <;> omega
    have l1 := fun S => less_than_ (A := A) (S := S) Bx Bb (by decide)
    have l2 := fun S => less_than_ (A := A) (S := S) Ba Bx (by decide)
    have q1 : ¬ x < b := Rat.not_lt.mpr G.lo
    have q2 : ¬ a < x := Rat.not_lt.mpr G.hi
    have q3 : ¬ (if b.den < a.den then (b.den : Int) else a.den) < x.den := by split <;> omega
    refine seq_ex (by simp [t2f14, c1, hx]; exact ⟨rfl, rfl⟩) ?_
    refine seq_ex (by simp [t2f15, c1, l1, l2, q1, q2, q3]; first | exact ⟨rfl, rfl⟩ | exact rfl) ?_
    have hh := fun S => heard_exc (A := A) (tb_simplest hA) (simplest_bad (A := A) (S := S) Ba Bb (by decide) hlt)
    have e : ∀ ρ T, ρ = [s0, some (.lst r), s2, some (toD a), some (toD b), s5, s6, s7, some (.int (cmpQ a b)), s9, s10, s11, s12, s13, some (toD x), s15] → ∃ g, t2f16 A ρ T = .nx ρ (T ++ g) := fun ρ T e => by
      subst e
      have hT := hh T
      obtain ⟨g, hg⟩ := same_ (A := A) 5 (EqD.unfit (n := 3) (S := T ++ [gq a, gq b, gq a, gq b, [.str "unfit", .bl true], [.str "unfit", .bl true]]) (r := T.length + 4) (q := T.length + 5) (by simp) (by simp))
      simp at hT hg
      exact ⟨_, by simp [t2f16, c0, hT, hg]; rfl⟩
    obtain ⟨g, hg⟩ := e _ _ rfl
    rw [hg]
    simp only [List.append_assoc]
    exact k _ _
  · have le : a ≤ b := Rat.not_lt.mp hlt
    obtain ⟨x, G, g, hx⟩ := simplest_all (A := A) Ba Bb (by decide) le
    have c0 : ¬ 0 < cmpQ a b := by rw [cmp_pos]; exact hlt
    have c1 : cmpQ a b ≤ 0 := by omega
    obtain ⟨m1, m2⟩ := G.mn b le Rat.le_refl
    obtain ⟨m3, m4⟩ := G.mn a Rat.le_refl le
    have Bx : Bd 67 x := by
      have := Bb.n
      have := Bb.d
      refine ⟨?_, ?_⟩ <;> unfold Sm at * <;> omega
    have l1 := fun S => less_than_ (A := A) (S := S) Bx Ba (by decide)
    have l2 := fun S => less_than_ (A := A) (S := S) Bb Bx (by decide)
    have q1 : ¬ x < a := Rat.not_lt.mpr G.lo
    have q2 : ¬ b < x := Rat.not_lt.mpr G.hi
    have q3 : ¬ (if b.den < a.den then (b.den : Int) else a.den) < x.den := by split <;> omega
    refine seq_ex (by simp [t2f14, c1, hx]; exact ⟨rfl, rfl⟩) ?_
    refine seq_ex (by simp [t2f15, c1, l1, l2, q1, q2, q3]; first | exact ⟨rfl, rfl⟩ | exact rfl) ?_
    have e : ∀ ρ T, ρ = [s0, some (.lst r), s2, some (toD a), some (toD b), s5, s6, s7, some (.int (cmpQ a b)), s9, s10, s11, s12, s13, some (toD x), s15] → t2f16 A ρ T = .nx ρ T := fun ρ T e => by
      subst e
      simp [t2f16, c0]
    rw [e _ _ rfl]
    exact k _ _
end
theorem turn {P : SRes → Prop} {r c0 : Nat} {s0 s2 s3 s4 s5 s6 s7 s8 s9 s10 s11 s12 s13 s14 s15 : Option D} (hA : Good A) (T0 : Tin c0 r S) (hc : c0 < 90000)
    (k : ∀ s3 s4 s5 s6 s7 s8 s9 s10 s11 s12 s13 s14 s15 S', Tin (c0 + 9 + 4) r S' → P (.nx [s0, some (.lst r), s2, s3, s4, s5, s6, s7, s8, s9, s10, s11, s12, s13, s14, s15] S')) :
    P (sSeq (t2f1 A) (sSeq (t2f2 A) (sSeq (t2f3 A) (sSeq (t2f4 A) (sSeq (t2f5 A) (sSeq (t2f6 A) (sSeq (t2f7 A) (sSeq (t2f8 A) (sSeq (t2f9 A) (sSeq (t2f10 A) (sSeq (t2f11 A) (sSeq (t2f12 A) (sSeq (t2f13 A) (sSeq (t2f14 A) (sSeq (t2f15 A) (t2f16 A)))))))))))))))
      [s0, some (.lst r), s2, s3, s4, s5, s6, s7, s8, s9, s10, s11, s12, s13, s14, s15] S) := by
  refine b1 T0 (by omega) fun a b c S3 s6 s7 Ba Bb Bc T3 => ?_
  refine b2 hA Ba Bb fun g => ?_
  refine b3 Ba Bb Bc fun s6 g2 => ?_
  refine b4 ((T3.app g).app g2) (by omega) fun l h s9 s10 S4 le Bl Bh T4 => ?_
  refine b5 le Bl Bh fun s13 g3 => ?_
  refine b6 hA Ba Bb fun s14 g4 => ?_
  exact k _ _ _ _ _ _ _ _ _ _ _ _ _ _ ((T4.app g3).app g4)
theorem pure (A : Str → Addr) (hA : Good A) (ns : List Int) (hl : ns.length ≤ 63) (hb : ∀ z ∈ ns, Builtin.Int.intBits z ≤ 1048576) : ∃ S, F_law A [.fz (ns.map .int)] [] = .ok (.bl true) S := by
  obtain ⟨q, v, S1, h1, h2, h3⟩ := cells_ (A := A) (S := []) hl hb
  obtain ⟨S2, h4, T⟩ := box_ (A := A) h2 h3
  unfold F_law
  rw [fn_ev]
  unfold b_law
  refine seq_ex (P := fun r => ∃ S, r.res = .ok (.bl true) S) (by simp [st0, h1, h4]; exact ⟨rfl, rfl⟩) ?_
  refine seq_for (P := fun r => ∃ S, r.res = .ok (.bl true) S) (a := itRng 0 4) (xs := [.int 0, .int 1, .int 2, .int 3]) (S1 := S2)
    (fun i ρ T => (∃ s2 s3 s4 s5 s6 s7 s8 s9 s10 s11 s12 s13 s14 s15, ρ = [some (.fz (ns.map .int)), some (.lst S1.length), s2, s3, s4, s5, s6, s7, s8, s9, s10, s11, s12, s13, s14, s15]) ∧ Tin (13 * i) S1.length T)
    (by simp [Sd.iRng1]) (by simp [fuel]) ⟨⟨_, _, _, _, _, _, _, _, _, _, _, _, _, _, rfl⟩, T⟩ (fun i ρ T _ => ?_) ?_ ?_
  · unfold itRng
    match i with
    | 0 => rfl
    | 1 => rfl
    | 2 => rfl
    | 3 => rfl
    | i + 4 => simp
  · rintro i d ρ T hi ⟨⟨s2, s3, s4, s5, s6, s7, s8, s9, s10, s11, s12, s13, s14, s15, rfl⟩, T0⟩
    have hi4 : i < 4 := (List.getElem?_eq_some_iff.mp hi).1
    refine ⟨_, nb_nm, ?_⟩
    refine turn (A := A) (P := fun r => ∃ ρ2 S2, r = .nx ρ2 S2 ∧ (∃ s2 s3 s4 s5 s6 s7 s8 s9 s10 s11 s12 s13 s14 s15, ρ2 = [some (.fz (ns.map .int)), some (.lst S1.length), s2, s3, s4, s5, s6, s7, s8, s9, s10, s11, s12, s13, s14, s15]) ∧ Tin (13 * (i + 1)) S1.length S2) (s2 := some d) hA T0 (by omega) fun s3 s4 s5 s6 s7 s8 s9 s10 s11 s12 s13 s14 s15 S' T1 => ?_
    exact ⟨_, _, rfl, ⟨_, _, _, _, _, _, _, _, _, _, _, _, _, _, rfl⟩, T1⟩
  · rintro ρ T ⟨⟨s2, s3, s4, s5, s6, s7, s8, s9, s10, s11, s12, s13, s14, s15, rfl⟩, T0⟩
    have f1 : ∀ S, F_fraction A [.int 6, .int (-4)] S = .ok (.tup [.int (-3), .int 2]) S := fun S => by
      rw [frac_ (k := 10) (by decide) (by unfold Sm; decide) (by decide)]
      unfold toD
      rw [(div_num 6 (-4) (by decide)).1, (div_num 6 (-4) (by decide)).2]
      rfl
    have f2 : ∀ S, F_fraction A [.int 0, .int (-7)] S = .ok (.tup [.int 0, .int 1]) S := fun S => by
      rw [frac_ (k := 10) (by decide) (by unfold Sm; decide) (by decide)]
      unfold toD
      rw [(div_num 0 (-7) (by decide)).1, (div_num 0 (-7) (by decide)).2]
      rfl
    have e7 : (.tup [.int (-7), .int 2] : D) = toD (Rat.divInt (-7) 2) := by
      unfold toD
      rw [(div_num (-7) 2 (by decide)).1, (div_num (-7) 2 (by decide)).2]
      rfl
    have B7 : Bd 10 (Rat.divInt (-7) 2) := Bd.div (by unfold Sm; decide) (by unfold Sm; decide) (by decide)
    have f3 : ∀ S, F_floor_of A [.tup [.int (-7), .int 2]] S = .ok (.int (-4)) (S ++ [gq (Rat.divInt (-7) 2)]) := fun S => by
      rw [e7, floor_ B7 (by decide), (div_num (-7) 2 (by decide)).1, (div_num (-7) 2 (by decide)).2]
      rfl
    have f4 : ∀ S, F_ceiling_of A [.tup [.int (-7), .int 2]] S = .ok (.int (-3)) (S ++ [gq (Rat.divInt (-7) 2)]) := fun S => by
      rw [e7, ceil_ B7 (by decide), (div_num (-7) 2 (by decide)).1, (div_num (-7) 2 (by decide)).2]
      rfl
    have f5 : ∀ S, F__law_heard A [.obj (A "fraction"), .tup [.int 1, .int 0]] S = .ok (.lst S.length) (S ++ [[.str "unfit", .bl true]]) := fun S => heard_exc tb_fraction frac_0
    obtain ⟨g, hg⟩ := same_ (A := A) 5 (S := T ++ [gq (Rat.divInt (-7) 2), gq (Rat.divInt (-7) 2), [.str "unfit", .bl true], [.tup [.int (-3), .int 2], .tup [.int 0, .int 1], .int (-4), .int (-3), .lst (T.length + 2)], [.str "unfit", .bl true], [.tup [.int (-3), .int 2], .tup [.int 0, .int 1], .int (-4), .int (-3), .lst (T.length + 4)]])
      (d := .lst (T.length + 3)) (e := .lst (T.length + 5)) (.lst 4 _ _ [.tup [.int (-3), .int 2], .tup [.int 0, .int 1], .int (-4), .int (-3), .lst (T.length + 2)] [.tup [.int (-3), .int 2], .tup [.int 0, .int 1], .int (-4), .int (-3), .lst (T.length + 4)] (by simp) (by simp) rfl (by simp) fun i x y hx hy => by
        have pr : ∀ a b : Int, EqD (T ++ [gq (Rat.divInt (-7) 2), gq (Rat.divInt (-7) 2), [.str "unfit", .bl true], [.tup [.int (-3), .int 2], .tup [.int 0, .int 1], .int (-4), .int (-3), .lst (T.length + 2)], [.str "unfit", .bl true], [.tup [.int (-3), .int 2], .tup [.int 0, .int 1], .int (-4), .int (-3), .lst (T.length + 4)]]) 4 (.tup [.int a, .int b]) (.tup [.int a, .int b]) := fun a b =>
          .tup _ _ _ rfl (by simp) fun i x y h1 h2 => by
            rw [h1] at h2
            cases h2
            match i, h1 with
            | 0, h1 => cases h1; exact .int _ _
            | 1, h1 => cases h1; exact .int _ _
        match i, hx, hy with
        | 0, hx, hy => cases hx; cases hy; exact pr _ _
        | 1, hx, hy => cases hx; cases hy; exact pr _ _
        | 2, hx, hy => cases hx; cases hy; exact .int _ _
        | 3, hx, hy => cases hx; cases hy; exact .int _ _
        | 4, hx, hy => cases hx; cases hy; exact EqD.unfit (by simp) (by simp))
    simp [f1, f2, f3, f4, f5, hg]
end K91
open PySem PySem.W PyProof.Rows in
set_option maxRecDepth 100000 in
set_option maxHeartbeats 0 in
theorem PySem.Challenge.cw_solidseen_k91_across_fractions_as_a_fiel_holds : PySem.Challenge.rw_solidseen_k91_across_fractions_as_a_fiel.Holds := by
  w_on; o_law; k_head; (case hw => w_witness2)
  k_fill
  refine Sd.walk_law (l := PySem.Challenge.rw_solidseen_k91_across_fractions_as_a_fiel) (k := 11) rfl rfl ⟨rfl, by decide, by decide⟩ (fun w h Y => PySem.W.kIn_of Y) ?F
  case F =>
    intro w mg fa h KX G hmg
    refine' K91.all_mk KX G hmg K91.pure ?a_is_number ?l_is_number ?c_is_number ?k_is_number ?a_is_from ?l_is_from ?c_is_from ?k_is_from ?a_is_long ?l_is_long ?c_is_long ?k_is_long ?a_tupled ?l_tupled ?c_tupled ?k_tupled ?a_divisor ?l_divisor ?c_divisor ?k_divisor ?a_is_fraction ?l_is_fraction ?c_is_fraction ?k_is_fraction ?a_sure_fraction ?l_sure_fraction ?c_sure_fraction ?k_sure_fraction ?a_made ?l_made ?c_made ?k_made ?a_fraction ?l_fraction ?c_fraction ?k_fraction ?a_two ?l_two ?c_two ?k_two ?a_added ?l_added ?c_added ?k_added ?a_negative ?l_negative ?c_negative ?k_negative ?a_less ?l_less ?c_less ?k_less ?a_times ?l_times ?c_times ?k_times ?a_over ?l_over ?c_over ?k_over ?a_compared ?l_compared ?c_compared ?k_compared ?a_less_than ?l_less_than ?c_less_than ?k_less_than ?a_floor_of ?l_floor_of ?c_floor_of ?k_floor_of ?a_ceiling_of ?l_ceiling_of ?c_ceiling_of ?k_ceiling_of ?a_middle ?l_middle ?c_middle ?k_middle ?a_simplest_above ?l_simplest_above ?c_simplest_above ?k_simplest_above ?a_simplest ?l_simplest ?c_simplest ?k_simplest ?a__law_box ?l__law_box ?c__law_box ?k__law_box ?a__law_take ?l__law_take ?c__law_take ?k__law_take ?a__law_cells ?l__law_cells ?c__law_cells ?k__law_cells ?a__law_of ?l__law_of ?c__law_of ?k__law_of ?a__law_same ?l__law_same ?c__law_same ?k__law_same ?a__law_low ?l__law_low ?c__law_low ?k__law_low ?a__law_times ?l__law_times ?c__law_times ?k__law_times ?a__law_unmarked ?l__law_unmarked ?c__law_unmarked ?k__law_unmarked ?a__law_call ?l__law_call ?c__law_call ?k__law_call ?a__law_plus ?l__law_plus ?c__law_plus ?k__law_plus ?a__law_heard ?l__law_heard ?c__law_heard ?k__law_heard ?a__law_number ?l__law_number ?c__law_number ?k__law_number ?a__law_simplest ?l__law_simplest ?c__law_simplest ?k__law_simplest ?a_law ?l_law ?c_law ?k_law ?a_Unfit ?e_Unfit ?k_Unfit ?b_Unfit ?t_Unfit ?m_Unfit ?v_Unfit ?p1_Unfit ?p2_Unfit ?p3_Unfit ?p4_Unfit ?p5_Unfit ?p6 ?p7 ?z_ValueError ?z_abs ?z_all ?z_bool ?z_enumerate ?z_int ?z_isinstance ?z_len ?z_list ?z_min ?z_range ?z_str ?z_tuple ?z_zip ?z_gcd ?hnd
    (case a_is_number => k_is)
    (case l_is_number => k_is)
    (case c_is_number => k_is)
    (case k_is_number => k_is)
    (case a_is_from => k_is)
    (case l_is_from => k_is)
    (case c_is_from => k_is)
    (case k_is_from => k_is)
    (case a_is_long => k_is)
    (case l_is_long => k_is)
    (case c_is_long => k_is)
    (case k_is_long => k_is)
    (case a_tupled => k_is)
    (case l_tupled => k_is)
    (case c_tupled => k_is)
    (case k_tupled => k_is)
    (case a_divisor => k_is)
    (case l_divisor => k_is)
    (case c_divisor => k_is)
    (case k_divisor => k_is)
    (case a_is_fraction => k_is)
    (case l_is_fraction => k_is)
    (case c_is_fraction => k_is)
    (case k_is_fraction => k_is)
    (case a_sure_fraction => k_is)
    (case l_sure_fraction => k_is)
    (case c_sure_fraction => k_is)
    (case k_sure_fraction => k_is)
    (case a_made => k_is)
    (case l_made => k_is)
    (case c_made => k_is)
    (case k_made => k_is)
    (case a_fraction => k_is)
    (case l_fraction => k_is)
    (case c_fraction => k_is)
    (case k_fraction => k_is)
    (case a_two => k_is)
    (case l_two => k_is)
    (case c_two => k_is)
    (case k_two => k_is)
    (case a_added => k_is)
    (case l_added => k_is)
    (case c_added => k_is)
    (case k_added => k_is)
    (case a_negative => k_is)
    (case l_negative => k_is)
    (case c_negative => k_is)
    (case k_negative => k_is)
    (case a_less => k_is)
    (case l_less => k_is)
    (case c_less => k_is)
    (case k_less => k_is)
    (case a_times => k_is)
    (case l_times => k_is)
    (case c_times => k_is)
    (case k_times => k_is)
    (case a_over => k_is)
    (case l_over => k_is)
    (case c_over => k_is)
    (case k_over => k_is)
    (case a_compared => k_is)
    (case l_compared => k_is)
    (case c_compared => k_is)
    (case k_compared => k_is)
    (case a_less_than => k_is)
    (case l_less_than => k_is)
    (case c_less_than => k_is)
    (case k_less_than => k_is)
    (case a_floor_of => k_is)
    (case l_floor_of => k_is)
    (case c_floor_of => k_is)
    (case k_floor_of => k_is)
    (case a_ceiling_of => k_is)
    (case l_ceiling_of => k_is)
    (case c_ceiling_of => k_is)
    (case k_ceiling_of => k_is)
    (case a_middle => k_is)
    (case l_middle => k_is)
    (case c_middle => k_is)
    (case k_middle => k_is)
    (case a_simplest_above => k_is)
    (case l_simplest_above => k_is)
    (case c_simplest_above => k_is)
    (case k_simplest_above => k_is)
    (case a_simplest => k_is)
    (case l_simplest => k_is)
    (case c_simplest => k_is)
    (case k_simplest => k_is)
    (case a__law_box => k_is)
    (case l__law_box => k_is)
    (case c__law_box => k_is)
    (case k__law_box => k_is)
    (case a__law_take => k_is)
    (case l__law_take => k_is)
    (case c__law_take => k_is)
    (case k__law_take => k_is)
    (case a__law_cells => k_is)
    (case l__law_cells => k_is)
    (case c__law_cells => k_is)
    (case k__law_cells => k_is)
    (case a__law_of => k_is)
    (case l__law_of => k_is)
    (case c__law_of => k_is)
    (case k__law_of => k_is)
    (case a__law_same => k_is)
    (case l__law_same => k_is)
    (case c__law_same => k_is)
    (case k__law_same => k_is)
    (case a__law_low => k_is)
    (case l__law_low => k_is)
    (case c__law_low => k_is)
    (case k__law_low => k_is)
    (case a__law_times => k_is)
    (case l__law_times => k_is)
    (case c__law_times => k_is)
    (case k__law_times => k_is)
    (case a__law_unmarked => k_is)
    (case l__law_unmarked => k_is)
    (case c__law_unmarked => k_is)
    (case k__law_unmarked => k_is)
    (case a__law_call => k_is)
    (case l__law_call => k_is)
    (case c__law_call => k_is)
    (case k__law_call => k_is)
    (case a__law_plus => k_is)
    (case l__law_plus => k_is)
    (case c__law_plus => k_is)
    (case k__law_plus => k_is)
    (case a__law_heard => k_is)
    (case l__law_heard => k_is)
    (case c__law_heard => k_is)
    (case k__law_heard => k_is)
    (case a__law_number => k_is)
    (case l__law_number => k_is)
    (case c__law_number => k_is)
    (case k__law_number => k_is)
    (case a__law_simplest => k_is)
    (case l__law_simplest => k_is)
    (case c__law_simplest => k_is)
    (case k__law_simplest => k_is)
    (case a_law => k_is)
    (case l_law => k_is)
    (case c_law => k_is)
    (case k_law => k_is)
    (case a_Unfit => k_is)
    (case e_Unfit => k_exc)
    (case k_Unfit => k_is)
    (case b_Unfit => k_is)
    (case t_Unfit => k_is)
    (case m_Unfit => first | rfl | k_is)
    (case v_Unfit => k_is)
    (case p1_Unfit => k_is)
    (case p2_Unfit => k_is)
    (case p3_Unfit => k_is)
    (case p4_Unfit => k_is)
    (case p5_Unfit => k_is)
    (case p6 => k_is)
    (case p7 => k_is)
    (case z_ValueError => k_is)
    (case z_abs => k_is)
    (case z_all => k_is)
    (case z_bool => k_is)
    (case z_enumerate => k_is)
    (case z_int => k_is)
    (case z_isinstance => k_is)
    (case z_len => k_is)
    (case z_list => k_is)
    (case z_min => k_is)
    (case z_range => k_is)
    (case z_str => k_is)
    (case z_tuple => k_is)
    (case z_zip => k_is)
    (case z_gcd => k_is)
    (case hnd => decide)
#print axioms PySem.Challenge.cw_solidseen_k91_across_fractions_as_a_fiel_holds
