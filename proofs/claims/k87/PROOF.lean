import PyProof.Rows.All
import Wide.All
import OpenK.AllK
import Wide.FinOn
import HandS.ForMost
import HandS.ForExc
import HandS.CallSlots
import HandS.CallLocal
import HandS.Gcd
import HandS.Wide
import HandS.Flow
import HandS.TupAny
import HandS.Style
import HandS.NoneIn
import HandS.IsInst
import HandS.TryMany
import HandS.Small
import HandS.Zip
import HandS.ExcIs
import HandS.EndBits
import HandS.Star
import PySem.Challenge.RW_solidseen_k87_across_points_planes_and_v
set_option Elab.async false
set_option linter.all false
set_option maxRecDepth 100000
set_option maxHeartbeats 16000000
/-! Sd0: nested data D, a store of lists, what stands for what (RD, Rep), results (Res, SRes) and what they ask (PostR, PostS). -/
namespace Sd
open PySem PySem.Spec PyProof.Rows L2
inductive Ty where
  | int | bool | str | list | tuple | verr
  deriving DecidableEq, Inhabited
def Ty.nm : Ty → String
  | .int => "int" | .bool => "bool" | .str => "str" | .list => "list" | .tuple => "tuple" | .verr => "ValueError"
inductive D where
  | non | bl (b : Bool) | int (i : Int) | str (x : Str) | tup (xs : List D) | lst (r : Nat) | fz (xs : List D) | obj (a : Addr) | ty (t : Ty)
  deriving Inhabited
abbrev Store := List (List D)
abbrev Loc := List (Option D)
inductive Res (α : Type) where
  | ok (a : α) (S : Store)
  | exc (c : Addr) (S : Store)
  | no
def Res.bind {α β : Type} (x : Res α) (f : α → Store → Res β) : Res β :=
  match x with
  | .ok a S => f a S
  | .exc c S => .exc c S
  | .no => .no
inductive SRes where
  | nx (ρ : Loc) (S : Store)
  | rt (d : D) (S : Store)
  | bk (ρ : Loc) (S : Store)
  | ct (ρ : Loc) (S : Store)
  | exc (c : Addr) (ρ : Loc) (S : Store)
  | no
def Res.st {α : Type} (x : Res α) (ρ : Loc) (f : α → Store → SRes) : SRes :=
  match x with
  | .ok a S => f a S
  | .exc c S => .exc c ρ S
  | .no => .no
@[simp] theorem bind_ok {α β : Type} (a : α) (S : Store) (f : α → Store → Res β) : (Res.ok a S).bind f = f a S := rfl
@[simp] theorem bind_exc {α β : Type} (c : Addr) (S : Store) (f : α → Store → Res β) : (Res.exc c S).bind f = .exc c S := rfl
@[simp] theorem bind_no {α β : Type} (f : α → Store → Res β) : (Res.no : Res α).bind f = .no := rfl
@[simp] theorem st_ok {α : Type} (a : α) (S : Store) (ρ : Loc) (f : α → Store → SRes) : (Res.ok a S).st ρ f = f a S := rfl
@[simp] theorem st_exc {α : Type} (c : Addr) (S : Store) (ρ : Loc) (f : α → Store → SRes) : (Res.exc c S : Res α).st ρ f = .exc c ρ S := rfl
@[simp] theorem st_no {α : Type} (ρ : Loc) (f : α → Store → SRes) : (Res.no : Res α).st ρ f = .no := rfl
abbrev Ev := Loc → Store → Res D
abbrev Tv := Loc → Store → Res Bool
abbrev Av := Loc → Store → Res (List D)
abbrev Sv := Loc → Store → SRes
abbrev Gv := D → Loc → Store → Res Loc
abbrev Fv := List D → Store → Res D
/-! ### heaps that only grow in what never changes -/
structure Ext (H H' : Hp) : Prop where
  t : ∀ p xs, H p = some (.tup xs) → H' p = some (.tup xs)
  z : ∀ p o u, H p = some (.frz o u) → H' p = some (.frz o u)
theorem Ext.refl (H : Hp) : Ext H H := ⟨fun _ _ h => h, fun _ _ _ h => h⟩
theorem Ext.trans {H H1 H2 : Hp} (a : Ext H H1) (b : Ext H1 H2) : Ext H H2 := ⟨fun p x h => b.t p x (a.t p x h), fun p o u h => b.z p o u (a.z p o u h)⟩
theorem Ext.new {H : Hp} {p : Addr} {o : HO} (h : H p = none) : Ext H (upd H p o) :=
  ⟨fun q x e => by rw [upd_ne (ne_of_none e h)]; exact e, fun q x u e => by rw [upd_ne (ne_of_none e h)]; exact e⟩
theorem Ext.lst {H : Hp} {p : Addr} {xs : List V} {o : HO} (h : H p = some (.lst xs)) : Ext H (upd H p o) :=
  ⟨fun q x e => by rw [upd_ne (ne_of e h (by intro z; cases z))]; exact e, fun q x u e => by rw [upd_ne (ne_of e h (by intro z; cases z))]; exact e⟩
/-- a list that stands still: the script, or one of the module's own -/
def Fz (K : PySem.W.Frag) (H : Hp) (a : Addr) (xs : List V) : Prop :=
  (∃ o, H a = some (.frz o (.lst xs))) ∨
    ∃ (o : Obj) (its : Array Value) (n : Nat), K.lookup a = some o ∧ o.cls = .type "list" ∧ o.dict = none ∧ o.data = .seq its n ∧ its.size ≤ sizeLine ∧ Vals xs its.toList
theorem Fz.sql {K : PySem.W.Frag} {H : Hp} {a : Addr} {xs : List V} (h : Fz K H a xs) : SqL K H a xs := by
  rcases h with h | h
  · exact .inl (.inr h)
  · exact .inr h
theorem Fz.mono {K : PySem.W.Frag} {H H' : Hp} {a : Addr} {xs : List V} (e : Ext H H') (h : Fz K H a xs) : Fz K H' a xs := by
  rcases h with ⟨o, h⟩ | h
  · exact .inl ⟨o, e.z _ _ _ h⟩
  · exact .inr h
theorem sqt_mono {K : PySem.W.Frag} {H H' : Hp} {a : Addr} {xs : List V} (e : Ext H H') (h : SqT K H a xs) : SqT K H' a xs := by
  rcases h with (h | ⟨o, h⟩) | h
  · exact .inl (.inl (e.t _ _ h))
  · exact .inl (.inr ⟨o, e.z _ _ _ h⟩)
  · exact .inr h
mutual
inductive RD (K : PySem.W.Frag) (m : List Addr) (H : Hp) : D → V → Prop
  | non : RD K m H .non .non
  | bl (b : Bool) : RD K m H (.bl b) (.bl b)
  | int (i : Int) : RD K m H (.int i) (.int i)
  | str (x : Str) : RD K m H (.str x) (.str x)
  | tup {xs : List D} {p : Addr} {vs : List V} : SqT K H p vs → RDs K m H xs vs → RD K m H (.tup xs) (.ref p)
  | lst {r : Nat} {p : Addr} : m[r]? = some p → RD K m H (.lst r) (.ref p)
  | fz {xs : List D} {p : Addr} {vs : List V} : Fz K H p vs → RDs K m H xs vs → RD K m H (.fz xs) (.ref p)
  | obj (a : Addr) : RD K m H (.obj a) (.ref a)
  | ty (t : Ty) : RD K m H (.ty t) (.ty t.nm)
inductive RDs (K : PySem.W.Frag) (m : List Addr) (H : Hp) : List D → List V → Prop
  | nil : RDs K m H [] []
  | cons {d : D} {v : V} {ds : List D} {vs : List V} : RD K m H d v → RDs K m H ds vs → RDs K m H (d :: ds) (v :: vs)
end
theorem pre_get {m m' : List Addr} (p : m <+: m') {r : Nat} {a : Addr} (h : m[r]? = some a) : m'[r]? = some a := by
  obtain ⟨t, rfl⟩ := p
  rw [List.getElem?_append_left (List.getElem?_eq_some_iff.mp h).1]
  exact h
mutual
theorem RD.mono {K : PySem.W.Frag} {m m' : List Addr} {H H' : Hp} (e : Ext H H') (p : m <+: m') : ∀ {d : D} {v : V}, RD K m H d v → RD K m' H' d v
  | _, _, .non => .non
  | _, _, .bl b => .bl b
  | _, _, .int i => .int i
  | _, _, .str x => .str x
  | _, _, .tup h hs => .tup (sqt_mono e h) (RDs.mono e p hs)
  | _, _, .lst h => .lst (pre_get p h)
  | _, _, .fz h hs => .fz (h.mono e) (RDs.mono e p hs)
  | _, _, .obj a => .obj a
  | _, _, .ty n => .ty n
theorem RDs.mono {K : PySem.W.Frag} {m m' : List Addr} {H H' : Hp} (e : Ext H H') (p : m <+: m') : ∀ {ds : List D} {vs : List V}, RDs K m H ds vs → RDs K m' H' ds vs
  | _, _, .nil => .nil
  | _, _, .cons h hs => .cons (RD.mono e p h) (RDs.mono e p hs)
end
section
variable {K : PySem.W.Frag} {m m' : List Addr} {H H' : Hp}
theorem RDs.length : ∀ {ds : List D} {vs : List V}, RDs K m H ds vs → ds.length = vs.length
  | _, _, .nil => rfl
  | _, _, .cons _ t => by rw [List.length_cons, List.length_cons, t.length]
theorem RDs.get : ∀ {ds : List D} {vs : List V} {i : Nat} {d : D}, RDs K m H ds vs → ds[i]? = some d → ∃ v, vs[i]? = some v ∧ RD K m H d v
  | _, _, _, _, .nil, e => by simp at e
  | _, _, 0, _, .cons h _, e => by simp at e; subst e; exact ⟨_, rfl, h⟩
  | _, _, i + 1, d, .cons _ t, e => by
    obtain ⟨v, h1, h2⟩ := t.get (i := i) (d := d) (by simpa using e)
    exact ⟨v, by simpa using h1, h2⟩
theorem RDs.append : ∀ {ds es : List D} {vs ws : List V}, RDs K m H ds vs → RDs K m H es ws → RDs K m H (ds ++ es) (vs ++ ws)
  | _, _, _, _, .nil, s => s
  | _, _, _, _, .cons r t, s => .cons r (t.append s)
theorem RDs.set {d : D} {v : V} (r : RD K m H d v) : ∀ {ds : List D} {vs : List V} (i : Nat), RDs K m H ds vs → RDs K m H (ds.set i d) (vs.set i v)
  | _, _, _, .nil => .nil
  | _, _, 0, .cons _ t => .cons r t
  | _, _, i + 1, .cons q t => .cons q (RDs.set r i t)
theorem RDs.take : ∀ {ds : List D} {vs : List V} (n : Nat), RDs K m H ds vs → RDs K m H (ds.take n) (vs.take n)
  | _, _, 0, _ => .nil
  | _, _, _ + 1, .nil => .nil
  | _, _, n + 1, .cons r t => .cons r (RDs.take n t)
theorem RDs.drop : ∀ {ds : List D} {vs : List V} (n : Nat), RDs K m H ds vs → RDs K m H (ds.drop n) (vs.drop n)
  | _, _, 0, r => r
  | _, _, _ + 1, .nil => .nil
  | _, _, n + 1, .cons _ t => RDs.drop n t
theorem RDs.reverse {ds : List D} {vs : List V} (h : RDs K m H ds vs) : RDs K m H ds.reverse vs.reverse := by
  induction ds generalizing vs with
  | nil => cases h; exact .nil
  | cons d r ih =>
    cases h with
    | cons a b => rw [List.reverse_cons, List.reverse_cons]; exact (ih b).append (.cons a .nil)
theorem RDs.ints (ns : List Int) : RDs K m H (ns.map D.int) (ns.map V.int) := by
  induction ns with
  | nil => exact .nil
  | cons n r ih => exact .cons (.int n) ih
/-- the store stands in the heap -/
structure Rep (K : PySem.W.Frag) (m : List Addr) (S : Store) (H : Hp) : Prop where
  len : m.length = S.length
  nd : m.Nodup
  at_ : ∀ (r : Nat) (p : Addr) (xs : List D), m[r]? = some p → S[r]? = some xs → ∃ vs, H p = some (.lst vs) ∧ RDs K m H xs vs
theorem Rep.nil : Rep K [] [] H := ⟨rfl, List.nodup_nil, fun r p xs h => by simp at h⟩
theorem Rep.cell {S : Store} (R : Rep K m S H) {r : Nat} {xs : List D} (h : S[r]? = some xs) : ∃ p vs, m[r]? = some p ∧ H p = some (.lst vs) ∧ RDs K m H xs vs := by
  have hr : r < m.length := by rw [R.len]; exact (List.getElem?_eq_some_iff.mp h).1
  obtain ⟨vs, a, b⟩ := R.at_ r m[r] xs (List.getElem?_eq_getElem hr) h
  exact ⟨m[r], vs, List.getElem?_eq_getElem hr, a, b⟩
theorem Rep.cellAt {S : Store} (R : Rep K m S H) {r : Nat} {xs : List D} {p : Addr} (h : S[r]? = some xs) (hp : m[r]? = some p) : ∃ vs, H p = some (.lst vs) ∧ RDs K m H xs vs := R.at_ r p xs hp h
theorem Rep.fresh {S : Store} (R : Rep K m S H) {p : Addr} (hp : H p = none) : p ∉ m := by
  intro h
  obtain ⟨i, hi, e⟩ := List.mem_iff_getElem.mp h
  have hS : i < S.length := by rw [← R.len]; exact hi
  obtain ⟨vs, a, _⟩ := R.at_ i p S[i] (by rw [← e]; exact List.getElem?_eq_getElem hi) (List.getElem?_eq_getElem hS)
  rw [hp] at a; cases a
/-- something that is no list of the store's is laid -/
theorem Rep.new {S : Store} {p : Addr} {o : HO} (R : Rep K m S H) (hp : H p = none) : Rep K m S (upd H p o) := by
  refine ⟨R.len, R.nd, fun r q xs h1 h2 => ?_⟩
  obtain ⟨vs, a, b⟩ := R.at_ r q xs h1 h2
  refine ⟨vs, ?_, b.mono (Ext.new hp) (List.prefix_refl _)⟩
  rw [upd_ne (ne_of_none a hp)]
  exact a
/-- a new list -/
theorem Rep.alloc {S : Store} {p : Addr} {xs : List D} {vs : List V} (R : Rep K m S H) (hp : H p = none) (hx : RDs K m H xs vs) : Rep K (m ++ [p]) (S ++ [xs]) (upd H p (.lst vs)) := by
  have pre : m <+: m ++ [p] := List.prefix_append _ _
  have ex : Ext H (upd H p (.lst vs)) := Ext.new hp
  refine ⟨by rw [List.length_append, List.length_append, R.len]; rfl, ?_, fun r q ys h1 h2 => ?_⟩
  · rw [List.nodup_append]
    refine ⟨R.nd, by simp, fun a ha b hb => ?_⟩
    have : b = p := by simpa using hb
    subst this
    rintro rfl
    exact R.fresh hp ha
  · by_cases hr : r < m.length
    · rw [List.getElem?_append_left hr] at h1
      rw [List.getElem?_append_left (by rw [← R.len]; exact hr)] at h2
      obtain ⟨ws, a, b⟩ := R.at_ r q ys h1 h2
      refine ⟨ws, ?_, b.mono ex pre⟩
      rw [upd_ne (ne_of_none a hp)]
      exact a
    · have hr' : m.length ≤ r := Nat.le_of_not_lt hr
      rw [List.getElem?_append_right hr'] at h1
      rw [List.getElem?_append_right (by rw [← R.len]; exact hr')] at h2
      have e : r - m.length = 0 := by
        rcases Nat.eq_zero_or_pos (r - m.length) with z | z
        · exact z
        · rw [List.getElem?_eq_none (by simp; omega)] at h1; cases h1
      rw [e] at h1
      rw [← R.len, e] at h2
      have e1 : p = q := by simpa using h1
      have e2 : xs = ys := by simpa using h2
      subst e1; subst e2
      exact ⟨vs, upd_same, hx.mono ex pre⟩
/-- a list is written -/
theorem Rep.write {S : Store} {r : Nat} {p : Addr} {xs : List D} {vs ws : List V} (R : Rep K m S H) (hp : m[r]? = some p) (hH : H p = some (.lst ws)) (hx : RDs K m H xs vs) : Rep K m (S.set r xs) (upd H p (.lst vs)) := by
  have ex : Ext H (upd H p (.lst vs)) := Ext.lst hH
  refine ⟨by rw [List.length_set]; exact R.len, R.nd, fun r' q ys h1 h2 => ?_⟩
  by_cases e : r' = r
  · subst e
    have hq : p = q := by rw [hp] at h1; exact Option.some.inj h1
    subst hq
    have hr : r' < S.length := by rw [← R.len]; exact (List.getElem?_eq_some_iff.mp hp).1
    rw [List.getElem?_set_self hr] at h2
    cases h2
    exact ⟨vs, upd_same, hx.mono ex (List.prefix_refl _)⟩
  · rw [List.getElem?_set_ne (Ne.symm e)] at h2
    obtain ⟨us, a, b⟩ := R.at_ r' q ys h1 h2
    have hne : q ≠ p := fun z => by
      subst z
      exact e (nd_ix R.nd h1 hp)
    exact ⟨us, by rw [upd_ne hne]; exact a, b.mono ex (List.prefix_refl _)⟩
/-- the names' values -/
def RS (K : PySem.W.Frag) (m : List Addr) (H : Hp) (ρ : Loc) (σ : L2.St) : Prop :=
  ρ.length = σ.length ∧ ∀ (i : Nat) (d : D), ρ[i]? = some (some d) → ∃ v, σ[i]? = some (some v) ∧ RD K m H d v
theorem RS.mono {ρ : Loc} {σ : L2.St} (e : Ext H H') (p : m <+: m') (h : RS K m H ρ σ) : RS K m' H' ρ σ :=
  ⟨h.1, fun i d hi => let ⟨v, a, b⟩ := h.2 i d hi; ⟨v, a, b.mono e p⟩⟩
theorem RS.set {ρ : Loc} {σ : L2.St} {d : D} {v : V} (h : RS K m H ρ σ) (r : RD K m H d v) (i : Nat) : RS K m H (ρ.set i (some d)) (σ.set i (some v)) := by
  refine ⟨by rw [List.length_set, List.length_set]; exact h.1, fun j e hj => ?_⟩
  by_cases q : i = j
  · subst q
    by_cases hl : i < ρ.length
    · rw [List.getElem?_set_self hl] at hj
      cases hj
      exact ⟨v, List.getElem?_set_self (by rw [← h.1]; exact hl), r⟩
    · rw [List.getElem?_eq_none (by rw [List.length_set]; omega)] at hj; cases hj
  · rw [List.getElem?_set_ne q] at hj
    rw [List.getElem?_set_ne q]
    exact h.2 j e hj
theorem RS.forget {ρ : Loc} {σ : L2.St} (h : RS K m H ρ σ) (i : Nat) : RS K m H (ρ.set i none) σ := by
  refine ⟨by rw [List.length_set]; exact h.1, fun j e hj => ?_⟩
  by_cases q : i = j
  · subst q
    by_cases hl : i < ρ.length
    · rw [List.getElem?_set_self hl] at hj; cases hj
    · rw [List.getElem?_eq_none (by rw [List.length_set]; omega)] at hj; cases hj
  · rw [List.getElem?_set_ne q] at hj
    exact h.2 j e hj
theorem RS.unset {ρ : Loc} {σ : L2.St} (h : RS K m H ρ σ) (i : Nat) : RS K m H (ρ.set i none) (σ.set i none) := by
  refine ⟨by rw [List.length_set, List.length_set]; exact h.1, fun j e hj => ?_⟩
  by_cases q : i = j
  · subst q
    by_cases hl : i < ρ.length
    · rw [List.getElem?_set_self hl] at hj; cases hj
    · rw [List.getElem?_eq_none (by rw [List.length_set]; omega)] at hj; cases hj
  · rw [List.getElem?_set_ne q] at hj
    rw [List.getElem?_set_ne q]
    exact h.2 j e hj
/-! ### what a result asks -/
abbrev Rl (α β : Type) := List Addr → Hp → α → β → Prop
def PostR {α β : Type} (K : PySem.W.Frag) (R : Rl α β) (m : List Addr) (H : Hp) (x : Res α) (Q : β → Hp → Prop) (Wc : Addr → Hp → Prop) : Prop :=
  match x with
  | .ok a S' => ∀ b H' m', Ext H H' → m <+: m' → Rep K m' S' H' → R m' H' a b → Q b H'
  | .exc c S' => ∀ H' m', Ext H H' → m <+: m' → Rep K m' S' H' → Wc c H'
  | .no => False
theorem PostR.at {α β : Type} {R : Rl α β} {x : Res α} {Q : β → Hp → Prop} {Wc : Addr → Hp → Prop} (e : Ext H H') (p : m <+: m') (h : PostR K R m H x Q Wc) : PostR K R m' H' x Q Wc := by
  cases x with
  | ok a S => exact fun b H2 m2 e2 p2 => h b H2 m2 (e.trans e2) (p.trans p2)
  | exc c S => exact fun H2 m2 e2 p2 => h H2 m2 (e.trans e2) (p.trans p2)
  | no => exact h
theorem PostR.bind {α β γ δ : Type} {R : Rl α β} {R' : Rl γ δ} {x : Res α} {f : α → Store → Res γ} {Q : δ → Hp → Prop} {Q' : β → Hp → Prop} {Wc : Addr → Hp → Prop} (h : PostR K R' m H (x.bind f) Q Wc)
    (hk : ∀ a S1 b H1 m1, Ext H H1 → m <+: m1 → Rep K m1 S1 H1 → R m1 H1 a b → PostR K R' m1 H1 (f a S1) Q Wc → Q' b H1) : PostR K R m H x Q' Wc := by
  cases x with
  | ok a S => exact fun b H2 m2 e2 p2 r d => hk a S b H2 m2 e2 p2 r d (PostR.at e2 p2 h)
  | exc c S => exact h
  | no => exact h
theorem PostR.mono {α β : Type} {R : Rl α β} {x : Res α} {Q Q' : β → Hp → Prop} {Wc : Addr → Hp → Prop} (h : PostR K R m H x Q Wc) (hq : ∀ b H', Q b H' → Q' b H') : PostR K R m H x Q' Wc := by
  cases x with
  | ok a S => exact fun b H2 m2 e2 p2 r d => hq _ _ (h b H2 m2 e2 p2 r d)
  | exc c S => exact h
  | no => exact h
theorem PostR.ok {α β : Type} {R : Rl α β} {a : α} {S : Store} {b : β} {Q : β → Hp → Prop} {Wc : Addr → Hp → Prop} (h : PostR K R m H (.ok a S) Q Wc) (r : Rep K m S H) (d : R m H a b) : Q b H := h b H m (Ext.refl H) (List.prefix_refl _) r d
def PostS (K : PySem.W.Frag) (W : WX) (m : List Addr) (H : Hp) (x : SRes) (E : Ends) : Prop :=
  match x with
  | .nx ρ S => ∀ σ' H' m', Ext H H' → m <+: m' → Rep K m' S H' → RS K m' H' ρ σ' → E.nx σ' H'
  | .rt d S => ∀ v H' m', Ext H H' → m <+: m' → Rep K m' S H' → RD K m' H' d v → E.rt v H'
  | .bk ρ S => ∀ σ' H' m', Ext H H' → m <+: m' → Rep K m' S H' → RS K m' H' ρ σ' → E.bk σ' H'
  | .ct ρ S => ∀ σ' H' m', Ext H H' → m <+: m' → Rep K m' S H' → RS K m' H' ρ σ' → E.ct σ' H'
  | .exc c ρ S => ∀ σ' H' m', Ext H H' → m <+: m' → Rep K m' S H' → RS K m' H' ρ σ' → W (.ref c) none σ' H'
  | .no => False
theorem PostS.at {W : WX} {x : SRes} {E : Ends} (e : Ext H H') (p : m <+: m') (h : PostS K W m H x E) : PostS K W m' H' x E := by
  cases x with
  | nx ρ S => exact fun b H2 m2 e2 p2 => h b H2 m2 (e.trans e2) (p.trans p2)
  | rt ρ S => exact fun b H2 m2 e2 p2 => h b H2 m2 (e.trans e2) (p.trans p2)
  | bk ρ S => exact fun b H2 m2 e2 p2 => h b H2 m2 (e.trans e2) (p.trans p2)
  | ct ρ S => exact fun b H2 m2 e2 p2 => h b H2 m2 (e.trans e2) (p.trans p2)
  | exc c ρ S => exact fun b H2 m2 e2 p2 => h b H2 m2 (e.trans e2) (p.trans p2)
  | no => exact h
/-- an expression's part of a statement -/
theorem PostS.st {α β : Type} {W : WX} {R : Rl α β} {x : Res α} {ρ : Loc} {σ : L2.St} {f : α → Store → SRes} {E : Ends} {Q' : β → Hp → Prop} (h : PostS K W m H (x.st ρ f) E) (hσ : RS K m H ρ σ)
    (hk : ∀ a S1 b H1 m1, Ext H H1 → m <+: m1 → Rep K m1 S1 H1 → R m1 H1 a b → PostS K W m1 H1 (f a S1) E → Q' b H1) : PostR K R m H x Q' (fun c H' => W (.ref c) none σ H') := by
  cases x with
  | ok a S => exact fun b H2 m2 e2 p2 r d => hk a S b H2 m2 e2 p2 r d (PostS.at e2 p2 h)
  | exc c S => exact fun H2 m2 e2 p2 r => h σ H2 m2 e2 p2 r (hσ.mono e2 p2)
  | no => exact h
end
/-! ### the readings -/
section
variable (K : PySem.W.Frag)
def tG {α β : Type} (R : Rl α β) (W : WX) (f : Loc → Store → Res α) : L2.St → Hp → (β → Hp → Prop) → Prop := fun σ H Q =>
  ∃ m S ρ, Rep K m S H ∧ RS K m H ρ σ ∧ PostR K R m H (f ρ S) Q (fun c H' => W (.ref c) none σ H')
abbrev tE (W : WX) (f : Ev) : TE := tG K (RD K) W f
abbrev tT (W : WX) (f : Tv) : TT := tG K (fun _ _ a b => a = b) W f
abbrev tA (W : WX) (f : Av) : TA := tG K (RDs K) W f
def tS (W : WX) (f : Sv) : TS := fun E σ H => ∃ m S ρ, Rep K m S H ∧ RS K m H ρ σ ∧ PostS K W m H (f ρ S) E
def tGt (W : WX) (g : Gv) : TG := fun v σ H Q => ∃ m S ρ d, Rep K m S H ∧ RS K m H ρ σ ∧ RD K m H d v ∧ PostR K (RS K) m H (g d ρ S) Q (fun c H' => W (.ref c) none σ H')
end
structure EE (X : Cx) (W : WX) (e : Expr) (f : Ev) : Prop where
  pe : PE X e (tE X.K W f)
structure ET (X : Cx) (W : WX) (e : Expr) (f : Tv) : Prop where
  pt : PT X e (tT X.K W f)
structure EW (X : Cx) (W : WX) (e : Expr) (f : Tv) : Prop where
  pw : PW X e (tT X.K W f)
structure EA (X : Cx) (W : WX) (es : List Expr) (f : Av) : Prop where
  pa : PA X es (tA X.K W f)
structure ES (X : Cx) (W : WX) (st : Stmt) (f : Sv) : Prop where
  ps : PS X st (tS X.K W f)
structure ESs (X : Cx) (W : WX) (st : List Stmt) (f : Sv) : Prop where
  pss : PSs X st (tS X.K W f)
structure EG (X : Cx) (W : WX) (tg : Expr) (g : Gv) : Prop where
  pg : PG X tg (tGt X.K W g)
theorem PE.imp {X : Cx} {e : Expr} {t t' : TE} (h : PE X e t) (i : ∀ σ H Q, t' σ H Q → t σ H Q) : PE X e t' := ⟨fun pins s σ H Q I q => h.run pins s σ H Q I (i σ H Q q)⟩
theorem PT.imp {X : Cx} {e : Expr} {t t' : TT} (h : PT X e t) (i : ∀ σ H Q, t' σ H Q → t σ H Q) : PT X e t' := ⟨fun pins s σ H Q I q => h.run pins s σ H Q I (i σ H Q q)⟩
theorem PW.imp {X : Cx} {e : Expr} {t t' : TT} (h : PW X e t) (i : ∀ σ H Q, t' σ H Q → t σ H Q) : PW X e t' := ⟨fun wh pins s σ H Q I q => h.run wh pins s σ H Q I (i σ H Q q)⟩
theorem PA.imp {X : Cx} {e : List Expr} {t t' : TA} (h : PA X e t) (i : ∀ σ H Q, t' σ H Q → t σ H Q) : PA X e t' := ⟨fun pos pins s σ H Q I q => h.run pos pins s σ H Q I (i σ H Q q)⟩
theorem PS.imp {X : Cx} {e : Stmt} {t t' : TS} (h : PS X e t) (i : ∀ D σ H, t' D σ H → t D σ H) : PS X e t' := ⟨fun pins s σ H D I q => h.run pins s σ H D I (i D σ H q)⟩
theorem PSs.imp {X : Cx} {e : List Stmt} {t t' : TS} (h : PSs X e t) (i : ∀ D σ H, t' D σ H → t D σ H) : PSs X e t' := ⟨fun pins s σ H D I q => h.run pins s σ H D I (i D σ H q)⟩
theorem PG.imp {X : Cx} {e : Expr} {t t' : TG} (h : PG X e t) (i : ∀ v σ H Q, t' v σ H Q → t v σ H Q) : PG X e t' := ⟨fun pins s σ H v u Q I r q => h.run pins s σ H v u Q I r (i v σ H Q q)⟩
end Sd
/-! Sd1: expressions: names, constants, operators, comparisons, tests, tuples, lists, items, built-ins. -/
namespace Sd
open PySem PySem.Spec PyProof.Rows L2
structure Okx (X : Cx) (W : WX) (k : Nat) : Prop where
  tk : Takes X W
  calm : X.calm = true
  room : Room k X.A
  nd : X.N.Nodup
theorem Okx.mono {X : Cx} {W : WX} {j k : Nat} (O : Okx X W k) (h : j ≤ k) : Okx X W j := ⟨O.tk, O.calm, O.room.mono h, O.nd⟩
def lim : Nat := 1000000
theorem lim_le : lim ≤ sizeLine := by rw [sizeLine_eq]; decide
theorem lim_lt {n : Nat} (h : n < lim) : n < sizeLine := Nat.lt_of_lt_of_le h lim_le
theorem le_lim {n : Nat} (h : n ≤ lim) : n ≤ sizeLine := Nat.le_trans h lim_le
def lget : Loc → Nat → Option D
  | [], _ => none
  | x :: _, 0 => x
  | _ :: r, n + 1 => lget r n
theorem lget_eq : ∀ {ρ : Loc} {i : Nat} {d : D}, lget ρ i = some d → ρ[i]? = some (some d)
  | [], _, _, h => by simp [lget] at h
  | x :: _, 0, d, h => by simp [lget] at h; simp [h]
  | _ :: r, n + 1, d, h => by simp only [lget] at h; simpa using lget_eq h
/-! ### what a pure step asks -/
abbrev Out := Option (D × Store)
def Fin (K : PySem.W.Frag) (m : List Addr) (H : Hp) (r : Out) (Q : VK) : Prop :=
  ∃ d S', r = some (d, S') ∧ ∀ v H' m', Ext H H' → m <+: m' → Rep K m' S' H' → RD K m' H' d v → Q v H'
def Out.res : Out → Res D
  | some (d, S) => .ok d S
  | none => .no
@[simp] theorem res_some (d : D) (S : Store) : Out.res (some (d, S)) = .ok d S := rfl
@[simp] theorem res_none : Out.res (none : Out) = .no := rfl
section
variable {K : PySem.W.Frag} {m m' : List Addr} {H H' : Hp} {S S' : Store} {Q : VK} {d : D} {v : V} {xs : List D} {vs : List V}
theorem Fin.of {r : Out} {Wc : Addr → Hp → Prop} (h : PostR K (RD K) m H r.res Q Wc) : Fin K m H r Q := by
  cases r with
  | none => exact h.elim
  | some p => exact ⟨p.1, p.2, rfl, h⟩
theorem Fin.here (h : Fin K m H (some (d, S)) Q) (R : Rep K m S H) (r : RD K m H d v) : Q v H := by
  obtain ⟨d', S', e, q⟩ := h
  cases e
  exact q v H m (Ext.refl H) (List.prefix_refl _) R r
theorem Fin.newTup (h : Fin K m H (some (.tup xs, S)) Q) (R : Rep K m S H) (r : RDs K m H xs vs) : ∀ p, H p = none → Q (.ref p) (upd H p (.tup vs)) := by
  obtain ⟨d', S', e, q⟩ := h
  cases e
  intro p hp
  exact q _ _ m (Ext.new hp) (List.prefix_refl _) (R.new hp) (.tup (SqT.of upd_same) (r.mono (Ext.new hp) (List.prefix_refl _)))
theorem Fin.newLst (h : Fin K m H (some (.lst S.length, S ++ [xs])) Q) (R : Rep K m S H) (r : RDs K m H xs vs) : ∀ p, H p = none → Q (.ref p) (upd H p (.lst vs)) := by
  obtain ⟨d', S', e, q⟩ := h
  cases e
  intro p hp
  refine q _ _ (m ++ [p]) (Ext.new hp) (List.prefix_append _ _) (R.alloc hp r) (.lst ?_)
  rw [← R.len, List.getElem?_append_right (Nat.le_refl _)]
  simp
theorem Fin.written {r : Nat} {p : Addr} {ws : List V} (h : Fin K m H (some (d, S.set r xs)) Q) (R : Rep K m S H) (hp : m[r]? = some p) (hH : H p = some (.lst ws)) (rx : RDs K m H xs vs) (rd : RD K m H d v) : Q v (upd H p (.lst vs)) := by
  obtain ⟨d', S', e, q⟩ := h
  cases e
  exact q _ _ m (Ext.lst hH) (List.prefix_refl _) (R.write hp hH rx) (rd.mono (Ext.lst hH) (List.prefix_refl _))
end
/-! ### names, constants -/
def eVar (i : Nat) : Ev := fun ρ S => match lget ρ i with | some d => .ok d S | none => .no
def eC (d : D) : Ev := fun _ S => .ok d S
section
variable {X : Cx} {W : WX} {e : Expr}
theorem ee_var (i : Nat) {x : Str} {pos : Pos} (hN : X.N[i]? = some x := by rfl) (hv : Vis X.env.scope x := by first | exact Or.inl rfl | exact Or.inr (Or.inl rfl) | exact Or.inr (Or.inr rfl)) (hd : (x == ("__debug__" : Str)) = false := by decide)
    (hcd : (x == ("__classdict__" : Str)) = false := by decide) : EE X W (.Name x pos) (eVar i) :=
  ⟨PE.imp (pv i hN hv hd hcd) fun σ H Q ⟨m, S, ρ, R, hσ, h⟩ => by
    unfold eVar at h
    cases e : lget ρ i with
    | none => rw [e] at h; exact h.elim
    | some d =>
      rw [e] at h
      obtain ⟨v, a, b⟩ := hσ.2 i d (lget_eq e)
      exact ⟨v, a, h.ok R b⟩⟩
theorem ee_c {d : D} {v : V} (h : PE X e (tC v)) (r : ∀ m H, RD X.K m H d v) : EE X W e (eC d) := ⟨PE.imp h fun σ H Q ⟨m, S, ρ, R, hσ, q⟩ => PostR.ok (R := RD X.K) q R (r m H)⟩
theorem ee_int {i : Int} {j pos} : EE X W (.Constant (.int i) j pos) (eC (.int i)) := ee_c pe_int fun _ _ => .int i
theorem ee_bl {b : Bool} {j pos} : EE X W (.Constant (.bool b) j pos) (eC (.bl b)) := ee_c pe_bl fun _ _ => .bl b
theorem ee_non {j pos} : EE X W (.Constant .none j pos) (eC .non) := ee_c pe_non fun _ _ => .non
theorem ee_str {x : Str} {j pos} : EE X W (.Constant (.str x) j pos) (eC (.str x)) := ee_c pe_str fun _ _ => .str x
/-- a def or a class of the module, as a value -/
theorem ee_obj {x : Str} {a : Addr} {pos : Pos} (hg : Gl X x) (hm : X.mg x = some (.ref a)) (hd : (x == ("__debug__" : Str)) = false := by decide) : EE X W (.Name x pos) (eC (.obj a)) := ee_c (pe_glob hg hm (v := .ref a) rfl hd) fun _ _ => .obj a
theorem ee_ty {x : Str} (t : Ty) {pos : Pos} (hg : Gl X x) (hm : X.mg x = none) (hv : bootBuiltins x = some (.type t.nm)) (hn : x ≠ "__name__" := by decide) (hd : (x == ("__debug__" : Str)) = false := by decide) : EE X W (.Name x pos) (eC (.ty t)) :=
  ee_c (pe_bltn hg hm hv (v := .ty t.nm) rfl hn hd) fun _ _ => .ty t
end
/-! ### operators -/
abbrev Op2 := D → D → Store → Out
def rD (K : PySem.W.Frag) (o : Op2) : R2 := fun v w H Q => ∃ m S a b, Rep K m S H ∧ RD K m H a v ∧ RD K m H b w ∧ Fin K m H (o a b S) Q
def OpD (X : Cx) (f : Value → Value → Sem Value) (o : Op2) : Prop := OpR X f (rD X.K o)
theorem OpR.imp {X : Cx} {f : Value → Value → Sem Value} {r r' : R2} (h : OpR X f r) (i : ∀ v w H Q, r' v w H Q → r v w H Q) : OpR X f r' := fun pins s σ H x y v u Q I rx ry q => h pins s σ H x y v u Q I rx ry (i _ _ _ _ q)
def eBin (o : Op2) (fa fb : Ev) : Ev := fun ρ S => (fa ρ S).bind fun a S1 => (fb ρ S1).bind fun b S2 => (o a b S2).res
theorem bin_imp {K : PySem.W.Frag} {W : WX} {fa fb : Ev} {o : Op2} : ∀ σ H Q, tE K W (eBin o fa fb) σ H Q → tOp (rD K o) (tE K W fa) (tE K W fb) σ H Q := fun σ H Q ⟨m, S, ρ, R, hσ, h⟩ =>
  ⟨m, S, ρ, R, hσ, h.bind fun a S1 v H1 m1 e1 p1 R1 d1 h1 => ⟨m1, S1, ρ, R1, hσ.mono e1 p1, h1.bind fun b S2 w H2 m2 e2 p2 R2 d2 h2 => ⟨m2, S2, a, b, R2, d1.mono e2 p2, d2, Fin.of h2⟩⟩⟩
section
variable {X : Cx} {W : WX} {a b c : Expr} {fa fb fc : Ev} {pos : Pos}
theorem ee_op {op : Operator} {o : Op2} (ho : OpD X (binaryOp op) o) (ha : EE X W a fa) (hb : EE X W b fb) : EE X W (.BinOp a op b pos) (eBin o fa fb) := ⟨PE.imp (pe_op ho ha.pe hb.pe) bin_imp⟩
theorem ee_cmp {op : CmpOp} {o : Op2} (ho : OpD X (compareOp op) o) (ha : EE X W a fa) (hb : EE X W b fb) (hm : behindInMarks op b = false) : EE X W (.Compare a [op] [b] pos) (eBin o fa fb) := ⟨PE.imp (pe_cmpR ho ha.pe hb.pe hm) bin_imp⟩
/-- a value that is a truth, as a test -/
def tvB (f : Ev) : Tv := fun ρ S => (f ρ S).bind fun d S1 => match d with | .bl b => .ok b S1 | _ => .no
theorem tvB_imp {K : PySem.W.Frag} {t : TE} (hd : ∀ (W : WX) (f : Ev), True) {W : WX} {f : Ev} (ht : ∀ σ H Q, tE K W f σ H Q → t σ H Q) : ∀ σ H Q, tT K W (tvB f) σ H Q → tTest t σ H Q := fun σ H Q ⟨m, S, ρ, R, hσ, h⟩ =>
  ht _ _ _ ⟨m, S, ρ, R, hσ, h.bind fun d S1 v H1 m1 e1 p1 R1 d1 h1 => by
    cases d1 with
    | bl b => exact ⟨b, rfl, h1.ok R1 rfl⟩
    | _ => exact h1.elim⟩
theorem et_cmp {op : CmpOp} {o : Op2} (ho : OpD X (compareOp op) o) (ha : EE X W a fa) (hb : EE X W b fb) (hm : behindInMarks op b = false) : ET X W (.Compare a [op] [b] pos) (tvB (eBin o fa fb)) :=
  ⟨PT.imp (pt_cmpR ho ha.pe hb.pe hm) (tvB_imp (fun _ _ => trivial) bin_imp)⟩
/-- a op b op' c -/
def eChain (o o' : Op2) (fa fb fc : Ev) : Ev := fun ρ S => (fa ρ S).bind fun a S1 => (fb ρ S1).bind fun b S2 => (o a b S2).res.bind fun z S3 => match z with
  | .bl true => (fc ρ S3).bind fun c S4 => (o' b c S4).res
  | .bl false => .ok (.bl false) S3
  | _ => .no
theorem chain_imp {K : PySem.W.Frag} {o o' : Op2} : ∀ σ H Q, tE K W (eChain o o' fa fb fc) σ H Q → tChain (rD K o) (rD K o') (tE K W fa) (tE K W fb) (tE K W fc) σ H Q := fun σ H Q ⟨m, S, ρ, R, hσ, h⟩ =>
  ⟨m, S, ρ, R, hσ, h.bind fun a S1 v H1 m1 e1 p1 R1 d1 h1 => ⟨m1, S1, ρ, R1, hσ.mono e1 p1, h1.bind fun b S2 w H2 m2 e2 p2 R2 d2 h2 => ⟨m2, S2, a, b, R2, d1.mono e2 p2, d2,
    Fin.of (h2.bind fun z S3 u H3 m3 e3 p3 R3 d3 h3 => by
      cases d3 with
      | bl k =>
        refine ⟨k, rfl, ?_⟩
        cases k with
        | true => exact iteT ⟨m3, S3, ρ, R3, ((hσ.mono e1 p1).mono e2 p2).mono e3 p3, h3.bind fun c S4 y H4 m4 e4 p4 R4 d4 h4 => ⟨m4, S4, b, c, R4, (d2.mono e3 p3).mono e4 p4, d4, Fin.of h4⟩⟩
        | false => exact iteF (h3.ok R3 (.bl false))
      | _ => exact h3.elim)⟩⟩⟩
theorem ee_chain {op op' : CmpOp} {o o' : Op2} (ho : OpD X (compareOp op) o) (ho' : OpD X (compareOp op') o') (ha : EE X W a fa) (hb : EE X W b fb) (hc : EE X W c fc) (hm : lastMarks [op, op'] [b, c] = false := by with_unfolding_all rfl) :
    EE X W (.Compare a [op, op'] [b, c] pos) (eChain o o' fa fb fc) := ⟨PE.imp (pe_chain ho ho' ha.pe hb.pe hc.pe hm) chain_imp⟩
theorem et_chain {op op' : CmpOp} {o o' : Op2} (ho : OpD X (compareOp op) o) (ho' : OpD X (compareOp op') o') (ha : EE X W a fa) (hb : EE X W b fb) (hc : EE X W c fc) (hm : lastMarks [op, op'] [b, c] = false := by with_unfolding_all rfl) :
    ET X W (.Compare a [op, op'] [b, c] pos) (tvB (eChain o o' fa fb fc)) := ⟨PT.imp (pt_chain ho ho' ha.pe hb.pe hc.pe hm) (tvB_imp (fun _ _ => trivial) chain_imp)⟩
end
/-- a value by cases: what stands for a written form -/
theorem RD.tup_inv {K : PySem.W.Frag} {m : List Addr} {H : Hp} {xs : List D} {v : V} (h : RD K m H (.tup xs) v) : ∃ p vs, v = .ref p ∧ SqT K H p vs ∧ RDs K m H xs vs := by
  cases h with
  | tup a b => exact ⟨_, _, rfl, a, b⟩
theorem RD.lst_inv {K : PySem.W.Frag} {m : List Addr} {H : Hp} {r : Nat} {v : V} (h : RD K m H (.lst r) v) : ∃ p, v = .ref p ∧ m[r]? = some p := by
  cases h with
  | lst a => exact ⟨_, rfl, a⟩
theorem RD.fz_inv {K : PySem.W.Frag} {m : List Addr} {H : Hp} {xs : List D} {v : V} (h : RD K m H (.fz xs) v) : ∃ p vs, v = .ref p ∧ Fz K H p vs ∧ RDs K m H xs vs := by
  cases h with
  | fz a b => exact ⟨_, _, rfl, a, b⟩
theorem RD.int_inv {K : PySem.W.Frag} {m : List Addr} {H : Hp} {i : Int} {v : V} (h : RD K m H (.int i) v) : v = .int i := by cases h; rfl
theorem RD.bl_inv {K : PySem.W.Frag} {m : List Addr} {H : Hp} {i : Bool} {v : V} (h : RD K m H (.bl i) v) : v = .bl i := by cases h; rfl
theorem RD.str_inv {K : PySem.W.Frag} {m : List Addr} {H : Hp} {i : Str} {v : V} (h : RD K m H (.str i) v) : v = .str i := by cases h; rfl
theorem RD.non_inv {K : PySem.W.Frag} {m : List Addr} {H : Hp} {v : V} (h : RD K m H .non v) : v = .non := by cases h; rfl
def oAdd : Op2
  | .int i, .int j, S => some (.int (i + j), S)
  | .tup xs, .tup ys, S => if xs.length + ys.length ≤ lim then some (.tup (xs ++ ys), S) else none
  | .lst r, .lst q, S => match S[r]?, S[q]? with
    | some xs, some ys => if xs.length + ys.length ≤ lim then some (.lst S.length, S ++ [xs ++ ys]) else none
    | _, _ => none
  | .str x, .str y, S => if x.length + y.length ≤ lim then some (.str (x ++ y), S) else none
  | _, _, _ => none
def oSub : Op2
  | .int i, .int j, S => some (.int (i - j), S)
  | _, _, _ => none
def oMul : Op2
  | .int i, .int j, S => if i.natAbs.log2 + j.natAbs.log2 < 9000000 then some (.int (i * j), S) else none
  | _, _, _ => none
def oDiv : Op2
  | .int i, .int j, S => if 0 < j ∧ j.natAbs.log2 < 9000 then some (.int (i / j), S) else none
  | _, _, _ => none
def oMod : Op2
  | .int i, .int j, S => if 0 < j then some (.int (i % j), S) else none
  | _, _, _ => none
def oPow : Op2
  | .int i, .int j, S => if 0 ≤ j ∧ j ≤ 1000000 ∧ i.natAbs < 2 ^ 64 then some (.int (i ^ j.toNat), S) else none
  | _, _, _ => none
def oCmp (f : Int → Int → Bool) : Op2
  | .int i, .int j, S => some (.bl (f i j), S)
  | _, _, _ => none
abbrev oLt := oCmp fun i j => decide (i < j)
abbrev oLe := oCmp fun i j => decide (i ≤ j)
abbrev oGt := oCmp fun i j => decide (j < i)
abbrev oGe := oCmp fun i j => decide (j ≤ i)
def oIs (neg : Bool) : Op2
  | .obj _, .non, _ => none
  | .ty _, .non, _ => none
  | .non, .non, S => some (.bl (!neg), S)
  | _, .non, S => some (.bl neg, S)
  | _, _, _ => none
end Sd
/-! Sd2: the operators' rules. -/
namespace Sd
open PySem PySem.Spec PyProof.Rows L2
def mapO {α β : Type} (f : α → Option β) : List α → Option (List β)
  | [] => some []
  | a :: r => match f a, mapO f r with
    | some b, some s => some (b :: s)
    | _, _ => none
/-- data, without the store -/
def toP : Nat → Store → D → Option PyData
  | 0, _, _ => none
  | _ + 1, _, .non => some .none
  | _ + 1, _, .bl b => some (.bool b)
  | _ + 1, _, .int i => some (.int i)
  | _ + 1, _, .str x => if PyData.strOk x = true then some (.str x) else none
  | n + 1, S, .tup xs => (mapO (toP n S) xs).map .tuple
  | n + 1, S, .fz xs => (mapO (toP n S) xs).map .list
  | n + 1, S, .lst r => match S[r]? with | some xs => (mapO (toP n S) xs).map .list | none => none
  | _ + 1, _, _ => none
def oEq : Op2 := fun a b S => match toP 64 S a, toP 64 S b with
  | some p, some q => some (.bl (PyData.eqv p q), S)
  | _, _ => none
def oNe : Op2 := fun a b S => match toP 64 S a, toP 64 S b with
  | some p, some q => some (.bl (!PyData.eqv p q), S)
  | _, _ => none
section
variable {K : PySem.W.Frag} {m : List Addr} {H : Hp} {S : Store}
theorem mapO_dp {n : Nat} (ih : ∀ (d : D) (v : V) (p : PyData), toP n S d = some p → RD K m H d v → Dp K H v p) : ∀ {xs : List D} {vs : List V} {ps : List PyData}, mapO (toP n S) xs = some ps → RDs K m H xs vs → DpAll K H vs ps
  | [], _, _, e, .nil => by simp [mapO] at e; subst e; exact .nil
  | d :: r, _, ps, e, .cons h t => by
    unfold mapO at e
    split at e
    · rename_i b s e1 e2
      cases e
      exact .cons (ih _ _ _ e1 h) (mapO_dp ih e2 t)
    · cases e
theorem toP_dp (R : Rep K m S H) : ∀ (n : Nat) (d : D) (v : V) (p : PyData), toP n S d = some p → RD K m H d v → Dp K H v p
  | 0, d, _, _, e, _ => by unfold toP at e; cases e
  | n + 1, d, v, p, e, h => by
    cases h with
    | non => simp only [toP] at e; cases e; exact .non
    | bl b => simp only [toP] at e; cases e; exact .bl b
    | int i => simp only [toP] at e; cases e; exact .int i
    | str x =>
      simp only [toP] at e
      split at e
      · cases e; exact .str x
      · cases e
    | tup hs hx =>
      simp only [toP, Option.map_eq_some_iff] at e
      obtain ⟨ps, e1, rfl⟩ := e
      exact .tup hs (mapO_dp (toP_dp R n) e1 hx)
    | fz hs hx =>
      simp only [toP, Option.map_eq_some_iff] at e
      obtain ⟨ps, e1, rfl⟩ := e
      exact .lst hs.sql (mapO_dp (toP_dp R n) e1 hx)
    | lst hp =>
      simp only [toP] at e
      split at e
      · rename_i xs hx
        obtain ⟨ps, e1, rfl⟩ := Option.map_eq_some_iff.mp e
        obtain ⟨vs, a, b⟩ := R.cellAt hx hp
        exact .lst (SqL.of a) (mapO_dp (toP_dp R n) e1 b)
      · cases e
    | obj a => simp only [toP] at e; cases e
    | ty t => simp only [toP] at e; cases e
theorem mapO_sh {n : Nat} (ih : ∀ (d : D) (p : PyData), toP n S d = some p → p.canLay0 = true ∧ p.depth ≤ n) : ∀ {xs : List D} {ps : List PyData}, mapO (toP n S) xs = some ps → PyData.canLayAll0 ps = true ∧ PyData.depthAll ps ≤ n
  | [], _, e => by simp [mapO] at e; subst e; exact ⟨by simp only [PyData.canLayAll0], by simp only [PyData.depthAll]; exact Nat.zero_le _⟩
  | d :: r, ps, e => by
    unfold mapO at e
    split at e
    · rename_i b s e1 e2
      cases e
      obtain ⟨a1, a2⟩ := ih _ _ e1
      obtain ⟨b1, b2⟩ := mapO_sh ih e2
      refine ⟨by simp only [PyData.canLayAll0, a1, b1, Bool.and_self], ?_⟩
      simp only [PyData.depthAll]
      omega
    · cases e
theorem toP_sh : ∀ (n : Nat) (d : D) (p : PyData), toP n S d = some p → p.canLay0 = true ∧ p.depth ≤ n
  | 0, _, _, e => by unfold toP at e; cases e
  | n + 1, d, p, e => by
    have seq : ∀ {xs : List D} {ps : List PyData}, mapO (toP n S) xs = some ps → PyData.canLayAll0 ps = true ∧ PyData.depthAll ps + 1 ≤ n + 1 := fun {xs ps} e => by
      obtain ⟨a, b⟩ := mapO_sh (toP_sh n) e
      exact ⟨a, by omega⟩
    cases d with
    | non => simp only [toP] at e; cases e; exact ⟨by simp only [PyData.canLay0], by simp only [PyData.depth]; omega⟩
    | bl b => simp only [toP] at e; cases e; exact ⟨by simp only [PyData.canLay0], by simp only [PyData.depth]; omega⟩
    | int i => simp only [toP] at e; cases e; exact ⟨by simp only [PyData.canLay0], by simp only [PyData.depth]; omega⟩
    | str x =>
      simp only [toP] at e
      split at e
      · rename_i hx; cases e; exact ⟨by simp only [PyData.canLay0]; exact hx, by simp only [PyData.depth]; omega⟩
      · cases e
    | tup xs =>
      simp only [toP, Option.map_eq_some_iff] at e
      obtain ⟨ps, e1, rfl⟩ := e
      obtain ⟨a, b⟩ := seq e1
      exact ⟨by simp only [PyData.canLay0]; exact a, by simp only [PyData.depth]; exact b⟩
    | fz xs =>
      simp only [toP, Option.map_eq_some_iff] at e
      obtain ⟨ps, e1, rfl⟩ := e
      obtain ⟨a, b⟩ := seq e1
      exact ⟨by simp only [PyData.canLay0]; exact a, by simp only [PyData.depth]; exact b⟩
    | lst r =>
      simp only [toP] at e
      split at e
      · obtain ⟨ps, e1, rfl⟩ := Option.map_eq_some_iff.mp e
        obtain ⟨a, b⟩ := seq e1
        exact ⟨by simp only [PyData.canLay0]; exact a, by simp only [PyData.depth]; exact b⟩
      · cases e
    | obj a => simp only [toP] at e; cases e
    | ty t => simp only [toP] at e; cases e
theorem toP_shaped {d : D} {p : PyData} (e : toP 64 S d = some p) : SeqAt.shaped p = true := by
  obtain ⟨a, b⟩ := toP_sh _ _ _ e
  unfold SeqAt.shaped
  rw [a, decide_eq_true b]
  rfl
end
section
variable {X : Cx}
theorem od_eq (hu : X.A.units + 64 < cLine) : OpD X (compareOp .Eq) oEq := OpR.imp (op_eqD hu) fun v w H Q ⟨m, S, a, b, R, ra, rb, q⟩ => by
  unfold oEq at q
  cases ea : toP 64 S a with
  | none => rw [ea] at q; obtain ⟨_, _, z, _⟩ := q; simp at z
  | some p =>
    cases eb : toP 64 S b with
    | none => rw [ea, eb] at q; obtain ⟨_, _, z, _⟩ := q; simp at z
    | some p' =>
      rw [ea, eb] at q
      exact ⟨p, p', toP_dp R _ _ _ _ ea ra, toP_dp R _ _ _ _ eb rb, toP_shaped ea, toP_shaped eb, q.here R (.bl _)⟩
theorem od_ne (hu : X.A.units + 64 < cLine) : OpD X (compareOp .NotEq) oNe := OpR.imp (op_neD hu) fun v w H Q ⟨m, S, a, b, R, ra, rb, q⟩ => by
  unfold oNe at q
  cases ea : toP 64 S a with
  | none => rw [ea] at q; obtain ⟨_, _, z, _⟩ := q; simp at z
  | some p =>
    cases eb : toP 64 S b with
    | none => rw [ea, eb] at q; obtain ⟨_, _, z, _⟩ := q; simp at z
    | some p' =>
      rw [ea, eb] at q
      exact ⟨p, p', toP_dp R _ _ _ _ ea ra, toP_dp R _ _ _ _ eb rb, toP_shaped ea, toP_shaped eb, q.here R (.bl _)⟩
theorem Fin.no {K : PySem.W.Frag} {m : List Addr} {H : Hp} {Q : VK} {P : Prop} (h : Fin K m H none Q) : P := by
  obtain ⟨_, _, z, _⟩ := h
  cases z
/-- an operator on two ints -/
theorem od_int {f : Value → Value → Sem Value} {o : Op2} {r : R2} (h : OpR X f r) (hi : ∀ i j S m H Q, Rep X.K m S H → Fin X.K m H (o (.int i) (.int j) S) Q → r (.int i) (.int j) H Q)
    (hn : ∀ a b S, (∀ i j, ¬ (a = .int i ∧ b = .int j)) → o a b S = none) : OpD X f o := OpR.imp h fun v w H Q ⟨m, S, a, b, R, ra, rb, q⟩ => by
  by_cases z : ∃ i j, a = .int i ∧ b = .int j
  · obtain ⟨i, j, rfl, rfl⟩ := z
    rw [ra.int_inv, rb.int_inv]
    exact hi i j S m H Q R q
  · rw [hn a b S fun i j e => z ⟨i, j, e⟩] at q
    exact q.no
theorem od_sub : OpD X (binaryOp .Sub) oSub := od_int op_sub (fun i j S m H Q R q => ⟨i, j, rfl, rfl, q.here R (.int _)⟩) fun a b S h => by
  cases a <;> cases b <;> first | rfl | exact (h _ _ ⟨rfl, rfl⟩).elim
/-- * of two factors of together less than nine million bits -/
def MulV (i j : Int) : Prop := i.natAbs.log2 + j.natAbs.log2 < 9000000
theorem bits_log (x : Int) : Builtin.Int.intBits x ≤ x.natAbs.log2 + 1 := by
  unfold Builtin.Int.intBits
  split
  · exact Nat.zero_le _
  · exact Nat.le_refl _
theorem MulV.ok {i j : Int} (h : MulV i j) : IntMulOk i j := fun z => by
  have hb := of_decide_eq_true (show decide (_ > _) = true from (Bool.and_eq_true _ _ ▸ z : _ ∧ _).2)
  have e : bitsLine = 134217728 := by decide
  have hi := bits_log i
  have hj := bits_log j
  have hh : i.natAbs.log2 + j.natAbs.log2 < 9000000 := h
  omega
theorem op_mulV : OpR X (binaryOp .Mult) (rI MulV fun i j => .int (i * j)) := opI fun _ _ _ _ _ _ _ hc q => mul_int q hc.ok
theorem od_mul0 : OpD X (binaryOp .Mult) oMul := od_int op_mulV (fun i j S m H Q R q => by
  unfold oMul at q
  dsimp only at q
  split at q
  · rename_i h; exact ⟨i, j, rfl, rfl, h, q.here R (.int _)⟩
  · exact q.no) fun a b S h => by
  cases a <;> cases b <;> first | rfl | exact (h _ _ ⟨rfl, rfl⟩).elim
theorem od_div : OpD X (binaryOp .FloorDiv) oDiv := od_int op_fdivW (fun i j S m H Q R q => by
  unfold oDiv at q
  dsimp only at q
  split at q
  · rename_i h; exact ⟨i, j, rfl, rfl, h, q.here R (.int _)⟩
  · exact q.no) fun a b S h => by
  cases a <;> cases b <;> first | rfl | exact (h _ _ ⟨rfl, rfl⟩).elim
theorem od_mod : OpD X (binaryOp .Mod) oMod := od_int op_mod (fun i j S m H Q R q => by
  unfold oMod at q
  dsimp only at q
  split at q
  · rename_i h; exact ⟨i, j, rfl, rfl, h, q.here R (.int _)⟩
  · exact q.no) fun a b S h => by
  cases a <;> cases b <;> first | rfl | exact (h _ _ ⟨rfl, rfl⟩).elim
theorem od_pow : OpD X (binaryOp .Pow) oPow := od_int op_pow (fun i j S m H Q R q => by
  unfold oPow at q
  dsimp only at q
  split at q
  · rename_i h; exact ⟨i, j, rfl, rfl, h, q.here R (.int _)⟩
  · exact q.no) fun a b S h => by
  cases a <;> cases b <;> first | rfl | exact (h _ _ ⟨rfl, rfl⟩).elim
theorem od_cmp {f : Value → Value → Sem Value} {g : Int → Int → Bool} (h : OpR X f (rI0 fun i j => .bl (g i j))) : OpD X f (oCmp g) := od_int h (fun i j S m H Q R q => ⟨i, j, rfl, rfl, q.here R (.bl _)⟩) fun a b S h => by
  cases a <;> cases b <;> first | rfl | exact (h _ _ ⟨rfl, rfl⟩).elim
theorem od_lt : OpD X (compareOp .Lt) oLt := od_cmp op_lt
theorem od_le : OpD X (compareOp .LtE) oLe := od_cmp op_le
theorem od_gt : OpD X (compareOp .Gt) oGt := od_cmp op_gt
theorem od_ge : OpD X (compareOp .GtE) oGe := od_cmp op_ge
theorem od_add : OpD X (binaryOp .Add) oAdd := OpR.imp (op_add.or (op_catA.or (op_cat.or op_add_str))) fun v w H Q ⟨m, S, a, b, R, ra, rb, q⟩ => by
  cases a <;> cases b <;> first | exact Fin.no q | skip
  · rename_i i j
    rw [ra.int_inv, rb.int_inv]
    exact .inl ⟨i, j, rfl, rfl, q.here R (.int _)⟩
  · rename_i x y
    rw [ra.str_inv, rb.str_inv]
    unfold oAdd at q
    dsimp only at q
    split at q
    · rename_i h; exact .inr (.inr (.inr ⟨x, y, rfl, rfl, le_lim h, q.here R (.str _)⟩))
    · exact q.no
  · rename_i xs ys
    obtain ⟨p, vs, rfl, hp, hv⟩ := ra.tup_inv
    obtain ⟨p', ws, rfl, hp', hw⟩ := rb.tup_inv
    unfold oAdd at q
    dsimp only at q
    split at q
    · rename_i h
      refine .inr (.inl ⟨p, p', vs, ws, rfl, rfl, hp, hp', le_lim (by rw [← hv.length, ← hw.length]; exact h), fun e => ?_, fun _ e => ?_, fun _ _ => q.newTup R (hv.append hw)⟩)
      · subst e
        cases hv
        exact q.here R (.tup hp' hw)
      · subst e
        cases hw
        rw [List.append_nil] at q
        exact q.here R (.tup hp hv)
    · exact q.no
  · rename_i r s
    obtain ⟨p, rfl, hp⟩ := ra.lst_inv
    obtain ⟨p', rfl, hp'⟩ := rb.lst_inv
    unfold oAdd at q
    dsimp only at q
    split at q
    · rename_i xs ys hx hy
      obtain ⟨vs, h1, h2⟩ := R.cellAt hx hp
      obtain ⟨ws, h3, h4⟩ := R.cellAt hy hp'
      split at q
      · rename_i h
        exact .inr (.inr (.inl ⟨p, p', vs, ws, rfl, rfl, h1, h3, le_lim (by rw [← h2.length, ← h4.length]; exact h), q.newLst R (h2.append h4)⟩))
      · exact q.no
    · exact q.no
theorem od_is : OpD X (compareOp .Is) (oIs false) := OpR.imp op_isN fun v w H Q ⟨m, S, a, b, R, ra, rb, q⟩ => by
  cases b <;> cases a <;> first | exact Fin.no q | skip
  all_goals
    rw [rb.non_inv]
    refine ⟨rfl, ?_⟩
    have z := q.here R (.bl _)
    cases ra
    exact z
theorem od_isnot : OpD X (compareOp .IsNot) (oIs true) := OpR.imp op_notN fun v w H Q ⟨m, S, a, b, R, ra, rb, q⟩ => by
  cases b <;> cases a <;> first | exact Fin.no q | skip
  all_goals
    rw [rb.non_inv]
    refine ⟨rfl, ?_⟩
    have z := q.here R (.bl _)
    cases ra
    exact z
end
/-! ### unary minus -/
def eNeg (f : Ev) : Ev := fun ρ S => (f ρ S).bind fun a S1 => match a with | .int i => .ok (.int (-i)) S1 | _ => .no
theorem ee_neg {X : Cx} {W : WX} {a : Expr} {f : Ev} {pos : Pos} (ha : EE X W a f) : EE X W (.UnaryOp .USub a pos) (eNeg f) := ⟨PE.imp (pe_un un_neg ha.pe) fun σ H Q ⟨m, S, ρ, R, hσ, h⟩ =>
  ⟨m, S, ρ, R, hσ, h.bind fun a S1 v H1 m1 e1 p1 R1 d1 h1 => by
    cases d1 with
    | int i => exact ⟨i, rfl, h1.ok R1 (.int _)⟩
    | _ => exact h1.elim⟩⟩
/-! ### truth, tests -/
def truD (d : D) (S : Store) : Option Bool := match d with
  | .non => some false
  | .bl b => some b
  | .int i => some (i != 0)
  | .str x => if x.length ≤ lim then some ((x.length : Int) != 0) else none
  | .tup xs => some (!xs.isEmpty)
  | .fz xs => some (!xs.isEmpty)
  | .lst r => (S[r]?).map fun xs => !xs.isEmpty
  | _ => none
theorem RDs.empty {K : PySem.W.Frag} {m : List Addr} {H : Hp} {xs : List D} {vs : List V} (h : RDs K m H xs vs) : xs.isEmpty = vs.isEmpty := by cases h <;> rfl
theorem truD_v {K : PySem.W.Frag} {m : List Addr} {H : Hp} {S : Store} {d : D} {v : V} {k : Bool} (R : Rep K m S H) (h : RD K m H d v) (e : truD d S = some k) : TruV K v H k := by
  cases h with
  | non => cases e; rfl
  | bl b => cases e; rfl
  | int i => cases e; rfl
  | str x =>
    simp only [truD] at e
    split at e
    · rename_i hx; cases e; exact ⟨le_lim hx, rfl⟩
    · cases e
  | tup a b => cases e; exact .inr (.inl ⟨_, a, by rw [b.empty]⟩)
  | fz a b => cases e; exact .inl ⟨_, a.sql, by rw [b.empty]⟩
  | lst hp =>
    simp only [truD] at e
    obtain ⟨xs, hx, rfl⟩ := Option.map_eq_some_iff.mp e
    obtain ⟨vs, a, b⟩ := R.cellAt hx hp
    exact .inl ⟨vs, SqL.of a, by rw [b.empty]⟩
  | obj a => cases e
  | ty t => cases e
def tvT (f : Ev) : Tv := fun ρ S => (f ρ S).bind fun d S1 => match truD d S1 with | some b => .ok b S1 | none => .no
section
variable {X : Cx} {W : WX} {a b : Expr} {fa fb : Ev} {ta tb : Tv} {pos : Pos} {rest : List Expr}
theorem tru_imp {K : PySem.W.Frag} {f : Ev} {m : List Addr} {S : Store} {ρ : Loc} {σ : L2.St} {H : Hp} {Q : Bool → Hp → Prop} (R : Rep K m S H) (hσ : RS K m H ρ σ) (h : PostR K (fun _ _ a b => a = b) m H (tvT f ρ S) Q (fun c H' => W (.ref c) none σ H')) :
    tE K W f σ H fun x H' => ∃ k, TruV K x H' k ∧ Q k H' :=
  ⟨m, S, ρ, R, hσ, h.bind fun d S1 v H1 m1 e1 p1 R1 d1 h1 => by
    cases e : truD d S1 with
    | none => rw [e] at h1; exact h1.elim
    | some k => rw [e] at h1; exact ⟨k, truD_v R1 d1 e, h1.ok R1 rfl⟩⟩
/-- any value as a test -/
theorem et_truth (ha : EE X W a fa) (he : ∀ whole, isTrue a X.env whole = (do let v ← whole; standAt a.pos; holding [v] (truthy v)) := by intro _; rfl) : ET X W a (tvT fa) :=
  ⟨PT.imp (pt_truth ha.pe he) fun σ H Q ⟨m, S, ρ, R, hσ, h⟩ => tru_imp R hσ h⟩
def tvAnd (p q : Tv) : Tv := fun ρ S => (p ρ S).bind fun b S1 => if b = true then q ρ S1 else .ok false S1
def tvOr (p q : Tv) : Tv := fun ρ S => (p ρ S).bind fun b S1 => if b = true then .ok true S1 else q ρ S1
def tvNot (p : Tv) : Tv := fun ρ S => (p ρ S).bind fun b S1 => .ok (!b) S1
theorem ew_and1 (ha : ET X W a ta) : EW X W (.BoolOp .And [a] pos) ta := ⟨pw_and1 ha.pt⟩
theorem ew_or1 (ha : ET X W a ta) : EW X W (.BoolOp .Or [a] pos) ta := ⟨pw_or1 ha.pt⟩
theorem ew_and (ha : ET X W a ta) (hb : EW X W (.BoolOp .And (b :: rest) pos) tb) : EW X W (.BoolOp .And (a :: b :: rest) pos) (tvAnd ta tb) := ⟨PW.imp (pw_and ha.pt hb.pw) fun σ H Q ⟨m, S, ρ, R, hσ, h⟩ =>
  ⟨m, S, ρ, R, hσ, h.bind fun c S1 k H1 m1 e1 p1 R1 d1 h1 => by
    subst d1
    cases c with
    | true => exact iteT ⟨m1, S1, ρ, R1, hσ.mono e1 p1, h1⟩
    | false => exact iteF (h1.ok R1 rfl)⟩⟩
theorem ew_or (ha : ET X W a ta) (hb : EW X W (.BoolOp .Or (b :: rest) pos) tb) : EW X W (.BoolOp .Or (a :: b :: rest) pos) (tvOr ta tb) := ⟨PW.imp (pw_or ha.pt hb.pw) fun σ H Q ⟨m, S, ρ, R, hσ, h⟩ =>
  ⟨m, S, ρ, R, hσ, h.bind fun c S1 k H1 m1 e1 p1 R1 d1 h1 => by
    subst d1
    cases c with
    | true => exact iteT (h1.ok R1 rfl)
    | false => exact iteF ⟨m1, S1, ρ, R1, hσ.mono e1 p1, h1⟩⟩⟩
theorem EW.et (h : EW X W a ta) : ET X W a ta := ⟨h.pw.pt⟩
theorem et_not (ha : ET X W a ta) : ET X W (.UnaryOp .Not a pos) (tvNot ta) := ⟨PT.imp (pt_not ha.pt) fun σ H Q ⟨m, S, ρ, R, hσ, h⟩ =>
  ⟨m, S, ρ, R, hσ, h.bind fun c S1 k H1 m1 e1 p1 R1 d1 h1 => by subst d1; exact h1.ok R1 rfl⟩⟩
/-- .. as values -/
def eAnd (p q : Ev) : Ev := fun ρ S => (p ρ S).bind fun d S1 => match truD d S1 with | some true => q ρ S1 | some false => .ok d S1 | none => .no
def eOr (p q : Ev) : Ev := fun ρ S => (p ρ S).bind fun d S1 => match truD d S1 with | some true => .ok d S1 | some false => q ρ S1 | none => .no
def eNot (p : Ev) : Ev := fun ρ S => (p ρ S).bind fun d S1 => match truD d S1 with | some k => .ok (.bl (!k)) S1 | none => .no
theorem ee_one {op} (ha : EE X W a fa) : EE X W (.BoolOp op [a] pos) fa := ⟨pe_one ha.pe⟩
theorem ee_and (ha : EE X W a fa) (hb : EE X W (.BoolOp .And (b :: rest) pos) fb) : EE X W (.BoolOp .And (a :: b :: rest) pos) (eAnd fa fb) := ⟨PE.imp (pe_andT ha.pe hb.pe) fun σ H Q ⟨m, S, ρ, R, hσ, h⟩ =>
  ⟨m, S, ρ, R, hσ, h.bind fun d S1 v H1 m1 e1 p1 R1 d1 h1 => by
    cases e : truD d S1 with
    | none => rw [e] at h1; exact h1.elim
    | some k =>
      rw [e] at h1
      refine ⟨k, truD_v R1 d1 e, ?_⟩
      cases k with
      | true => exact iteT ⟨m1, S1, ρ, R1, hσ.mono e1 p1, h1⟩
      | false => exact iteF (h1.ok R1 d1)⟩⟩
theorem ee_or (ha : EE X W a fa) (hb : EE X W (.BoolOp .Or (b :: rest) pos) fb) : EE X W (.BoolOp .Or (a :: b :: rest) pos) (eOr fa fb) := ⟨PE.imp (pe_orT ha.pe hb.pe) fun σ H Q ⟨m, S, ρ, R, hσ, h⟩ =>
  ⟨m, S, ρ, R, hσ, h.bind fun d S1 v H1 m1 e1 p1 R1 d1 h1 => by
    cases e : truD d S1 with
    | none => rw [e] at h1; exact h1.elim
    | some k =>
      rw [e] at h1
      refine ⟨k, truD_v R1 d1 e, ?_⟩
      cases k with
      | true => exact iteT (h1.ok R1 d1)
      | false => exact iteF ⟨m1, S1, ρ, R1, hσ.mono e1 p1, h1⟩⟩⟩
theorem ee_not (ha : EE X W a fa) : EE X W (.UnaryOp .Not a pos) (eNot fa) := ⟨PE.imp (pe_notT ha.pe) fun σ H Q ⟨m, S, ρ, R, hσ, h⟩ =>
  ⟨m, S, ρ, R, hσ, h.bind fun d S1 v H1 m1 e1 p1 R1 d1 h1 => by
    cases e : truD d S1 with
    | none => rw [e] at h1; exact h1.elim
    | some k => rw [e] at h1; exact ⟨k, truD_v R1 d1 e, h1.ok R1 (.bl _)⟩⟩⟩
def eIf (c : Tv) (p q : Ev) : Ev := fun ρ S => (c ρ S).bind fun b S1 => if b = true then p ρ S1 else q ρ S1
theorem ee_if {c : Expr} {tc : Tv} (hc : ET X W c tc) (ha : EE X W a fa) (hb : EE X W b fb) : EE X W (.IfExp c a b pos) (eIf tc fa fb) := ⟨PE.imp (pe_ifExp hc.pt ha.pe hb.pe) fun σ H Q ⟨m, S, ρ, R, hσ, h⟩ =>
  ⟨m, S, ρ, R, hσ, h.bind fun c S1 k H1 m1 e1 p1 R1 d1 h1 => by
    subst d1
    cases c with
    | true => exact iteT ⟨m1, S1, ρ, R1, hσ.mono e1 p1, h1⟩
    | false => exact iteF ⟨m1, S1, ρ, R1, hσ.mono e1 p1, h1⟩⟩⟩
end
end Sd
/-! Sd3: arguments, tuples, lists, items, slices, built-ins by name. -/
namespace Sd
open PySem PySem.Spec PyProof.Rows L2
section
variable {X : Cx} {W : WX} {e : Expr} {es : List Expr} {f : Ev} {g : Av} {pos : Pos}
def aNil : Av := fun _ S => .ok [] S
def aCons (f : Ev) (g : Av) : Av := fun ρ S => (f ρ S).bind fun d S1 => (g ρ S1).bind fun ds S2 => .ok (d :: ds) S2
theorem ea_nil : EA X W [] aNil := ⟨PA.imp pa_nil fun σ H Q ⟨m, S, ρ, R, hσ, h⟩ => PostR.ok (R := RDs X.K) h R .nil⟩
theorem ea_cons (ha : EE X W e f) (hr : EA X W es g) (hs : starEach (e :: es) X.env = (false, eval e X.env) :: starEach es X.env := by rfl) : EA X W (e :: es) (aCons f g) := ⟨PA.imp (pa_cons ha.pe hr.pa hs) fun σ H Q ⟨m, S, ρ, R, hσ, h⟩ =>
  ⟨m, S, ρ, R, hσ, h.bind fun d S1 v H1 m1 e1 p1 R1 d1 h1 => ⟨m1, S1, ρ, R1, hσ.mono e1 p1, h1.bind fun ds S2 vs H2 m2 e2 p2 R2 d2 h2 => PostR.ok (R := RDs X.K) h2 R2 (.cons (d1.mono e2 p2) d2)⟩⟩⟩
def eTup (g : Av) : Ev := fun ρ S => (g ρ S).bind fun ds S1 => if ds.length ≤ lim then .ok (.tup ds) S1 else .no
def eLst (g : Av) : Ev := fun ρ S => (g ρ S).bind fun ds S1 => if ds.length ≤ lim then .ok (.lst S1.length) (S1 ++ [ds]) else .no
theorem ee_tup {x1 : Nat} (h : EA X W es g) : EE X W (.Tuple es x1 pos) (eTup g) := ⟨PE.imp (pe_tup h.pa) fun σ H Q ⟨m, S, ρ, R, hσ, h⟩ =>
  ⟨m, S, ρ, R, hσ, h.bind fun ds S1 vs H1 m1 e1 p1 R1 d1 h1 => by
    split at h1
    · rename_i hl
      exact ⟨le_lim (by rw [← d1.length]; exact hl), Fin.newTup (Fin.of (r := some (.tup ds, S1)) h1) R1 d1⟩
    · exact h1.elim⟩⟩
theorem ee_lst (h : EA X W es g) : EE X W (.List es pos) (eLst g) := ⟨PE.imp (pe_lst h.pa) fun σ H Q ⟨m, S, ρ, R, hσ, h⟩ =>
  ⟨m, S, ρ, R, hσ, h.bind fun ds S1 vs H1 m1 e1 p1 R1 d1 h1 => by
    split at h1
    · rename_i hl
      exact ⟨le_lim (by rw [← d1.length]; exact hl), Fin.newLst (Fin.of (r := some (.lst S1.length, S1 ++ [ds])) h1) R1 d1⟩
    · exact h1.elim⟩⟩
end
/-! ### items -/
theorem RDs.atI {K : PySem.W.Frag} {m : List Addr} {H : Hp} {xs : List D} {vs : List V} {i : Int} {d : D} (h : RDs K m H xs vs) (e : L2.atI xs i = some d) : ∃ v, L2.atI vs i = some v ∧ RD K m H d v := by
  unfold L2.atI at e ⊢
  rw [← h.length]
  cases q : L2.ixN xs.length i with
  | none => rw [q] at e; cases e
  | some j =>
    rw [q] at e
    exact h.get e
def oIx : Op2
  | .tup xs, .int i, S => (atI xs i).map fun d => (d, S)
  | .fz xs, .int i, S => (atI xs i).map fun d => (d, S)
  | .lst r, .int i, S => (S[r]?).bind fun xs => (atI xs i).map fun d => (d, S)
  | .str x, .int i, S => if x.length ≤ lim then (atI x.cps.toList i).map fun c => (.str ⟨#[c]⟩, S) else none
  | _, _, _ => none
theorem IxR.imp {X : Cx} {r r' : R2} (h : IxR X r) (i : ∀ v w H Q, r' v w H Q → r v w H Q) : IxR X r' := fun va sl pins s σ H x y v u Q I rx ry q => h va sl pins s σ H x y v u Q I rx ry (i _ _ _ _ q)
section
variable {K : PySem.W.Frag} {m : List Addr} {H : Hp} {S : Store}
theorem Fin.map {Q : VK} {o : Option D} (h : Fin K m H (o.map fun d => (d, S)) Q) : ∃ d, o = some d ∧ Fin K m H (some (d, S)) Q := by
  cases o with
  | none => exact Fin.no h
  | some d => exact ⟨d, rfl, h⟩
end
theorem ix_d {X : Cx} : IxR X (rD X.K oIx) := IxR.imp ix_seq fun v w H Q ⟨m, S, a, b, R, ra, rb, q⟩ => by
  cases b <;> cases a <;> first | exact Fin.no q | skip
  · rename_i i x
    rw [ra.str_inv, rb.int_inv]
    unfold oIx at q
    dsimp only at q
    split at q
    · rename_i h
      cases e : atI x.cps.toList i with
      | none => rw [e] at q; exact Fin.no q
      | some c =>
        rw [e] at q
        exact .inr (.inr ⟨x, i, c, rfl, rfl, le_lim h, e, q.here R (.str _)⟩)
    · exact Fin.no q
  · rename_i i xs
    obtain ⟨p, vs, rfl, hp, hv⟩ := ra.tup_inv
    rw [rb.int_inv]
    obtain ⟨d, e, q⟩ := Fin.map q
    obtain ⟨v, e2, rv⟩ := hv.atI e
    exact .inr (.inl ⟨p, vs, i, v, rfl, rfl, hp, e2, q.here R rv⟩)
  · rename_i i r
    obtain ⟨p, rfl, hp⟩ := ra.lst_inv
    rw [rb.int_inv]
    unfold oIx at q
    dsimp only at q
    cases e0 : S[r]? with
    | none => rw [e0] at q; exact Fin.no q
    | some xs =>
      rw [e0] at q
      obtain ⟨vs, h1, h2⟩ := R.cellAt e0 hp
      obtain ⟨d, e, q⟩ := Fin.map q
      obtain ⟨v, e2, rv⟩ := h2.atI e
      exact .inl ⟨p, vs, i, v, rfl, rfl, SqL.of h1, e2, q.here R rv⟩
  · rename_i i xs
    obtain ⟨p, vs, rfl, hp, hv⟩ := ra.fz_inv
    rw [rb.int_inv]
    obtain ⟨d, e, q⟩ := Fin.map q
    obtain ⟨v, e2, rv⟩ := hv.atI e
    exact .inl ⟨p, vs, i, v, rfl, rfl, hp.sql, e2, q.here R rv⟩
section
variable {X : Cx} {W : WX} {a b e : Expr} {es : List Expr} {fa fb f : Ev} {g : Av} {pos : Pos}
theorem ee_ix (ha : EE X W a fa) (hb : EE X W b fb) (hs : PlainIx b := by intro _ _; rfl) : EE X W (.Subscript a b pos) (eBin oIx fa fb) := ⟨PE.imp (pe_ix ix_d ha.pe hb.pe hs) bin_imp⟩
/-! ### slices -/
abbrev Ov := Loc → Store → Res (Option Int)
structure EO (X : Cx) (W : WX) (e : Option Expr) (f : Ov) : Prop where
  po : PO X e (tG X.K (fun _ _ a b => a = b) W f)
def oNone : Ov := fun _ S => .ok none S
def oSome (f : Ev) : Ov := fun ρ S => (f ρ S).bind fun d S1 => match d with | .int i => .ok (some i) S1 | _ => .no
theorem PO.imp {X : Cx} {e : Option Expr} {t t' : TO} (h : PO X e t) (i : ∀ σ H Q, t' σ H Q → t σ H Q) : PO X e t' := ⟨fun pins s σ H Q I q => h.run pins s σ H Q I (i σ H Q q)⟩
theorem eo_none : EO X W none oNone := ⟨PO.imp po_none fun σ H Q ⟨m, S, ρ, R, hσ, h⟩ => PostR.ok (R := fun _ _ a b => a = b) h R rfl⟩
theorem eo_some (h : EE X W e f) : EO X W (some e) (oSome f) := ⟨PO.imp (po_some h.pe) fun σ H Q ⟨m, S, ρ, R, hσ, h⟩ =>
  ⟨m, S, ρ, R, hσ, h.bind fun d S1 v H1 m1 e1 p1 R1 d1 h1 => by
    cases d1 with
    | int i => exact ⟨i, rfl, h1.ok R1 rfl⟩
    | _ => exact h1.elim⟩⟩
def cutD (xs : List D) (lo hi : Option Int) : List D := (xs.drop (HT.sIx xs.length 0 lo)).take (HT.sIx xs.length xs.length hi - HT.sIx xs.length 0 lo)
theorem RDs.cut {K : PySem.W.Frag} {m : List Addr} {H : Hp} {xs : List D} {vs : List V} (h : RDs K m H xs vs) (lo hi : Option Int) : RDs K m H (cutD xs lo hi) (cutV vs lo hi) := by
  unfold cutD cutV
  rw [h.length]
  exact (h.drop _).take _
def oSl (d : D) (lo hi : Option Int) (S : Store) : Out := match d with
  | .tup xs => some (.tup (cutD xs lo hi), S)
  | .lst r => (S[r]?).map fun xs => (.lst S.length, S ++ [cutD xs lo hi])
  | .fz xs => some (.lst S.length, S ++ [cutD xs lo hi])
  | _ => none
def eSl (f : Ev) (l u : Ov) : Ev := fun ρ S => (f ρ S).bind fun d S1 => (l ρ S1).bind fun lo S2 => (u ρ S2).bind fun hi S3 => (oSl d lo hi S3).res
def rSlD (K : PySem.W.Frag) : V → Option Int → Option Int → Hp → VK → Prop := fun v lo hi H Q => ∃ m S d, Rep K m S H ∧ RD K m H d v ∧ Fin K m H (oSl d lo hi S) Q
theorem SlR.imp {X : Cx} {r r' : V → Option Int → Option Int → Hp → VK → Prop} (h : SlR X r) (i : ∀ v lo hi H Q, r' v lo hi H Q → r v lo hi H Q) : SlR X r' := fun pins s σ H x v vl vu lo hi sl Q I rx hs pl pu q => h pins s σ H x v vl vu lo hi sl Q I rx hs pl pu (i _ _ _ _ _ q)
theorem sl_d : SlR X (rSlD X.K) := SlR.imp (sl_list.or sl_tupA) fun v lo hi H Q ⟨m, S, d, R, rd, q⟩ => by
  cases d <;> first | exact Fin.no q | skip
  · rename_i xs
    obtain ⟨p, vs, rfl, hp, hv⟩ := rd.tup_inv
    refine .inr ⟨p, vs, rfl, hp, fun h => ?_, fun _ => q.newTup R (hv.cut lo hi)⟩
    have e : cutD xs lo hi = xs := by
      unfold cutD
      rw [hv.length, h.1, h.2, ← hv.length]
      simp
    simp only [oSl, e] at q
    exact q.here R (.tup hp hv)
  · rename_i r
    obtain ⟨p, rfl, hp⟩ := rd.lst_inv
    simp only [oSl] at q
    cases e0 : S[r]? with
    | none => rw [e0] at q; exact Fin.no q
    | some xs =>
      rw [e0] at q
      obtain ⟨vs, h1, h2⟩ := R.cellAt e0 hp
      exact .inl ⟨p, vs, rfl, SqL.of h1, Fin.newLst q R (h2.cut lo hi)⟩
  · rename_i xs
    obtain ⟨p, vs, rfl, hp, hv⟩ := rd.fz_inv
    exact .inl ⟨p, vs, rfl, hp.sql, Fin.newLst q R (hv.cut lo hi)⟩
theorem ee_sl {lo hi : Option Expr} {l u : Ov} {p2 : Pos} (he : EE X W e f) (hl : EO X W lo l) (hu : EO X W hi u) : EE X W (.Subscript e (.Slice lo hi none p2) pos) (eSl f l u) := ⟨PE.imp (pe_slice sl_d he.pe hl.po hu.po) fun σ H Q ⟨m, S, ρ, R, hσ, h⟩ =>
  ⟨m, S, ρ, R, hσ, h.bind fun d S1 v H1 m1 e1 p1 R1 d1 h1 => ⟨m1, S1, ρ, R1, hσ.mono e1 p1, h1.bind fun lo S2 lo' H2 m2 e2 p2 R2 d2 h2 => by
    subst d2
    exact ⟨m2, S2, ρ, R2, (hσ.mono e1 p1).mono e2 p2, h2.bind fun hi S3 hi' H3 m3 e3 p3 R3 d3 h3 => by
      subst d3
      exact ⟨m3, S3, d, R3, (d1.mono e2 p2).mono e3 p3, Fin.of h3⟩⟩⟩⟩⟩
/-- e[::-1] of a list -/
def eRev (f : Ev) : Ev := fun ρ S => (f ρ S).bind fun d S1 => match d with
  | .lst r => match S1[r]? with | some xs => .ok (.lst S1.length) (S1 ++ [xs.reverse]) | none => .no
  | .fz xs => .ok (.lst S1.length) (S1 ++ [xs.reverse])
  | _ => .no
theorem ee_rev {k : Nat} {p1 p2 p3 : Pos} (he : EE X W e f) : EE X W (.Subscript e (.Slice none none (some (.UnaryOp .USub (.Constant (.int 1) k p1) p2)) p3) pos) (eRev f) := ⟨PE.imp (pe_revL he.pe) fun σ H Q ⟨m, S, ρ, R, hσ, h⟩ =>
  ⟨m, S, ρ, R, hσ, h.bind fun d S1 v H1 m1 e1 p1 R1 d1 h1 => by
    cases d1 with
    | lst hp =>
      dsimp only at h1
      split at h1
      · rename_i xs hx
        obtain ⟨vs, a1, a2⟩ := R1.cellAt hx hp
        exact ⟨_, vs, rfl, SqL.of a1, Fin.newLst (Fin.of (r := some (.lst S1.length, S1 ++ [xs.reverse])) h1) R1 a2.reverse⟩
      · exact h1.elim
    | fz a1 a2 => exact ⟨_, _, rfl, a1.sql, Fin.newLst (Fin.of (r := some (.lst S1.length, S1 ++ [_])) h1) R1 a2.reverse⟩
    | _ => exact h1.elim⟩⟩
/-! ### built-ins by name -/
abbrev OpN := List D → Store → Out
def rC (K : PySem.W.Frag) (o : OpN) : List V → Hp → VK → Prop := fun vs H Q => ∃ m S ds, Rep K m S H ∧ RDs K m H ds vs ∧ Fin K m H (o ds S) Q
def CallD (X : Cx) (f : Value) (o : OpN) : Prop := CallR X f (rC X.K o)
theorem CallR.imp {X : Cx} {f : Value} {r r' : List V → Hp → VK → Prop} (h : CallR X f r) (i : ∀ vs H Q, r' vs H Q → r vs H Q) : CallR X f r' := fun pins s σ H xs us Q I rx q => h pins s σ H xs us Q I rx (i _ _ _ q)
def eCallO (o : OpN) (g : Av) : Ev := fun ρ S => (g ρ S).bind fun ds S1 => (o ds S1).res
theorem callO_imp {K : PySem.W.Frag} {o : OpN} : ∀ σ H Q, tE K W (eCallO o g) σ H Q → tCB (rC K o) (tA K W g) σ H Q := fun σ H Q ⟨m, S, ρ, R, hσ, h⟩ =>
  ⟨m, S, ρ, R, hσ, h.bind fun ds S1 vs H1 m1 e1 p1 R1 d1 h1 => ⟨m1, S1, ds, R1, d1, Fin.of h1⟩⟩
variable {x : Str} {p : Pos} {id T : String} {o : OpN}
theorem ee_callB (hc : CallD X (.builtin id) o) (hg : Gl X x) (hm : X.mg x = none) (hv : bootBuiltins x = some (.builtin id)) (ha : EA X W (e :: es) g) (hn : x ≠ "__name__" := by decide) (hdb : (x == ("__debug__" : Str)) = false := by decide)
    (he : starEach (e :: es) X.env = (false, eval e X.env) :: starEach es X.env := by rfl) (hpl : (backTo pos (starEach es X.env)).any (·.1) = false := by rfl) : EE X W (.Call (.Name x p) (e :: es) [] pos) (eCallO o g) :=
  ⟨PE.imp (pe_callB hc hg hm hv ha.pa hn hdb he hpl) callO_imp⟩
theorem ee_callTy (hc : CallD X (.type T) o) (hg : Gl X x) (hm : X.mg x = none) (hv : bootBuiltins x = some (.type T)) (ha : EA X W (e :: es) g) (hn : x ≠ "__name__" := by decide) (hdb : (x == ("__debug__" : Str)) = false := by decide)
    (he : starEach (e :: es) X.env = (false, eval e X.env) :: starEach es X.env := by rfl) (hpl : (backTo pos (starEach es X.env)).any (·.1) = false := by rfl) : EE X W (.Call (.Name x p) (e :: es) [] pos) (eCallO o g) :=
  ⟨PE.imp (pe_callTy hc hg hm hv ha.pa hn hdb he hpl) callO_imp⟩
/-- a module's name for a built-in -/
theorem ee_callF (hc : CallD X (.builtin id) o) (hg : Gl X x) (hm : X.mg x = some (.builtin id)) (ha : EA X W (e :: es) g) (hdb : (x == ("__debug__" : Str)) = false := by decide)
    (he : starEach (e :: es) X.env = (false, eval e X.env) :: starEach es X.env := by rfl) (hpl : (backTo pos (starEach es X.env)).any (·.1) = false := by rfl) : EE X W (.Call (.Name x p) (e :: es) [] pos) (eCallO o g) :=
  ⟨PE.imp (pe_callBfun hc hg hm ha.pa hdb he hpl) callO_imp⟩
end
/-- the items of a list or a tuple -/
def items (d : D) (S : Store) : Option (List D) := match d with
  | .tup xs => some xs
  | .fz xs => some xs
  | .lst r => S[r]?
  | _ => none
def cLen : OpN
  | [.str x], S => if x.length ≤ lim then some (.int x.length, S) else none
  | [d], S => (items d S).map fun xs => (.int xs.length, S)
  | _, _ => none
def cAbs : OpN
  | [.int i], S => some (.int (if i < 0 then -i else i), S)
  | _, _ => none
def cInt : OpN
  | [.int i], S => some (.int i, S)
  | [.bl k], S => some (.int (if k then 1 else 0), S)
  | _, _ => none
def cMin2 : OpN
  | [.int i, .int j], S => some (.int (if j < i then j else i), S)
  | _, _ => none
def cMax2 : OpN
  | [.int i, .int j], S => some (.int (if j > i then j else i), S)
  | _, _ => none
def cGcd : OpN
  | [.int i, .int j], S => some (.int ((Nat.gcd i.natAbs j.natAbs : Nat) : Int), S)
  | _, _ => none
def cTuple : OpN
  | [d], S => (items d S).map fun xs => (.tup xs, S)
  | _, _ => none
def cList : OpN
  | [d], S => (items d S).map fun xs => (.lst S.length, S ++ [xs])
  | _, _ => none
def asB : D → Option Bool | .bl b => some b | _ => none
def asI : D → Option Int | .int b => some b | _ => none
def cAll : OpN
  | [.lst r], S => (S[r]?).bind fun xs => (mapO asB xs).map fun bs => (.bl (bs.all id), S)
  | _, _ => none
def cAny : OpN
  | [.lst r], S => (S[r]?).bind fun xs => (mapO asB xs).map fun bs => (.bl (bs.any id), S)
  | _, _ => none
def cSum : OpN
  | [.lst r], S => (S[r]?).bind fun xs => (mapO asI xs).map fun bs => (.int bs.sum, S)
  | _, _ => none
theorem RDs.nil_inv {K : PySem.W.Frag} {m : List Addr} {H : Hp} {vs : List V} (h : RDs K m H [] vs) : vs = [] := by cases h; rfl
theorem RDs.one_inv {K : PySem.W.Frag} {m : List Addr} {H : Hp} {a : D} {vs : List V} (h : RDs K m H [a] vs) : ∃ v, vs = [v] ∧ RD K m H a v := by
  cases h with
  | cons h1 h2 => cases h2; exact ⟨_, rfl, h1⟩
theorem RDs.two_inv {K : PySem.W.Frag} {m : List Addr} {H : Hp} {a b : D} {vs : List V} (h : RDs K m H [a, b] vs) : ∃ v w, vs = [v, w] ∧ RD K m H a v ∧ RD K m H b w := by
  cases h with
  | cons h1 h2 =>
    obtain ⟨w, rfl, h3⟩ := h2.one_inv
    exact ⟨_, _, rfl, h1, h3⟩
theorem RDs.bools {K : PySem.W.Frag} {m : List Addr} {H : Hp} : ∀ {xs : List D} {vs : List V} {bs : List Bool}, RDs K m H xs vs → mapO asB xs = some bs → vs = bs.map V.bl
  | [], _, _, .nil, e => by simp [mapO] at e; subst e; rfl
  | d :: r, _, bs, .cons h t, e => by
    unfold mapO at e
    split at e
    · rename_i b s e1 e2
      cases e
      have := t.bools e2
      cases d <;> simp [asB] at e1
      subst e1
      rw [h.bl_inv, this]
      rfl
    · cases e
theorem RDs.ints_inv {K : PySem.W.Frag} {m : List Addr} {H : Hp} : ∀ {xs : List D} {vs : List V} {bs : List Int}, RDs K m H xs vs → mapO asI xs = some bs → vs = bs.map V.int
  | [], _, _, .nil, e => by simp [mapO] at e; subst e; rfl
  | d :: r, _, bs, .cons h t, e => by
    unfold mapO at e
    split at e
    · rename_i b s e1 e2
      cases e
      have := t.ints_inv e2
      cases d <;> simp [asI] at e1
      subst e1
      rw [h.int_inv, this]
      rfl
    · cases e
theorem items_sq {K : PySem.W.Frag} {m : List Addr} {H : Hp} {S : Store} {d : D} {v : V} {xs : List D} (R : Rep K m S H) (h : RD K m H d v) (e : items d S = some xs) : ∃ p vs, v = .ref p ∧ RDs K m H xs vs ∧ (SqL K H p vs ∨ (SqT K H p vs ∧ d = .tup xs)) := by
  cases h with
  | tup a b => cases e; exact ⟨_, _, rfl, b, .inr ⟨a, rfl⟩⟩
  | fz a b => cases e; exact ⟨_, _, rfl, b, .inl a.sql⟩
  | lst hp =>
    obtain ⟨vs, a, b⟩ := R.cellAt e hp
    exact ⟨_, vs, rfl, b, .inl (SqL.of a)⟩
  | _ => cases e
section
variable {X : Cx}
theorem cd_len : CallD X (.builtin "len") cLen := CallR.imp (call_len_seq.or call_len_str) fun vs H Q ⟨m, S, ds, R, rd, q⟩ => by
  have other : ∀ d, Fin X.K m H ((items d S).map fun xs => (D.int xs.length, S)) Q → ∀ v, RD X.K m H d v → ∃ p ys, [v] = [V.ref p] ∧ (SqL X.K H p ys ∨ SqT X.K H p ys) ∧ Q (.int ys.length) H := fun d q v r => by
    cases e : items d S with
    | none => rw [e] at q; exact Fin.no q
    | some xs =>
      rw [e] at q
      obtain ⟨p, vs, rfl, h1, h2⟩ := items_sq R r e
      refine ⟨p, vs, rfl, ?_, by rw [← h1.length]; exact q.here R (.int _)⟩
      rcases h2 with h2 | ⟨h2, _⟩
      · exact .inl h2
      · exact .inr h2
  match ds, rd, q with
  | [], rd, q => exact Fin.no q
  | a :: b :: t, rd, q =>
    have e : cLen (a :: b :: t) S = none := by cases a <;> rfl
    rw [e] at q
    exact Fin.no q
  | [d], rd, q =>
    obtain ⟨v, rfl, r⟩ := rd.one_inv
    cases d with
    | str x =>
      simp only [cLen] at q
      split at q
      · rename_i h
        rw [r.str_inv]
        exact .inr ⟨x, rfl, le_lim h, q.here R (.int _)⟩
      · exact Fin.no q
    | non => exact .inl (other .non q v r)
    | bl b => exact .inl (other (.bl b) q v r)
    | int b => exact .inl (other (.int b) q v r)
    | tup b => exact .inl (other (.tup b) q v r)
    | lst b => exact .inl (other (.lst b) q v r)
    | fz b => exact .inl (other (.fz b) q v r)
    | obj b => exact .inl (other (.obj b) q v r)
    | ty b => exact .inl (other (.ty b) q v r)
theorem cd_abs : CallD X (.builtin "abs") cAbs := CallR.imp call_abs fun vs H Q ⟨m, S, ds, R, rd, q⟩ => by
  unfold cAbs at q
  split at q
  · obtain ⟨v, rfl, r⟩ := rd.one_inv
    rw [r.int_inv]
    exact ⟨_, rfl, q.here R (.int _)⟩
  · exact Fin.no q
theorem cd_int : CallD X (.type "int") cInt := CallR.imp call_int1 fun vs H Q ⟨m, S, ds, R, rd, q⟩ => by
  unfold cInt at q
  split at q
  · obtain ⟨v, rfl, r⟩ := rd.one_inv
    rw [r.int_inv]
    exact .inl ⟨_, rfl, q.here R (.int _)⟩
  · obtain ⟨v, rfl, r⟩ := rd.one_inv
    rw [r.bl_inv]
    exact .inr ⟨_, rfl, q.here R (.int _)⟩
  · exact Fin.no q
theorem cd_min2 (hc : X.calm = true) : CallD X (.builtin "min") cMin2 := CallR.imp (call_min2 hc) fun vs H Q ⟨m, S, ds, R, rd, q⟩ => by
  unfold cMin2 at q
  split at q
  · obtain ⟨v, w, rfl, r1, r2⟩ := rd.two_inv
    rw [r1.int_inv, r2.int_inv]
    exact ⟨_, _, rfl, q.here R (.int _)⟩
  · exact Fin.no q
theorem cd_max2 (hc : X.calm = true) : CallD X (.builtin "max") cMax2 := CallR.imp (call_max2 hc) fun vs H Q ⟨m, S, ds, R, rd, q⟩ => by
  unfold cMax2 at q
  split at q
  · obtain ⟨v, w, rfl, r1, r2⟩ := rd.two_inv
    rw [r1.int_inv, r2.int_inv]
    exact ⟨_, _, rfl, q.here R (.int _)⟩
  · exact Fin.no q
theorem cd_gcd : CallD X (.builtin "math.gcd") cGcd := CallR.imp cr_gcd fun vs H Q ⟨m, S, ds, R, rd, q⟩ => by
  unfold cGcd at q
  split at q
  · obtain ⟨v, w, rfl, r1, r2⟩ := rd.two_inv
    rw [r1.int_inv, r2.int_inv]
    exact ⟨_, _, rfl, q.here R (.int _)⟩
  · exact Fin.no q
theorem cd_tuple : CallD X (.type "tuple") cTuple := CallR.imp call_tuple_of fun vs H Q ⟨m, S, ds, R, rd, q⟩ => by
  match ds, rd, q with
  | [], rd, q => exact Fin.no q
  | _ :: _ :: _, rd, q => exact Fin.no q
  | [d], rd, q =>
    obtain ⟨v, rfl, r⟩ := rd.one_inv
    simp only [cTuple] at q
    cases e : items d S with
    | none => rw [e] at q; exact Fin.no q
    | some xs =>
      rw [e] at q
      obtain ⟨p, vs, rfl, h1, h2⟩ := items_sq R r e
      rcases h2 with h2 | ⟨h2, rfl⟩
      · exact ⟨p, vs, rfl, .inl ⟨h2, Fin.newTup q R h1⟩⟩
      · exact ⟨p, vs, rfl, .inr ⟨h2, q.here R r⟩⟩
theorem cd_list : CallD X (.type "list") cList := CallR.imp call_list_of fun vs H Q ⟨m, S, ds, R, rd, q⟩ => by
  match ds, rd, q with
  | [], rd, q => exact Fin.no q
  | _ :: _ :: _, rd, q => exact Fin.no q
  | [d], rd, q =>
    obtain ⟨v, rfl, r⟩ := rd.one_inv
    simp only [cList] at q
    cases e : items d S with
    | none => rw [e] at q; exact Fin.no q
    | some xs =>
      rw [e] at q
      obtain ⟨p, vs, rfl, h1, h2⟩ := items_sq R r e
      refine ⟨p, vs, rfl, ?_, Fin.newLst q R h1⟩
      rcases h2 with h2 | ⟨h2, _⟩
      · exact .inl h2
      · exact .inr h2
theorem cell_sql {K : PySem.W.Frag} {m : List Addr} {H : Hp} {S : Store} {r : Nat} {v : V} {xs : List D} (R : Rep K m S H) (h : RD K m H (.lst r) v) (e : S[r]? = some xs) : ∃ p vs, v = .ref p ∧ RDs K m H xs vs ∧ H p = some (.lst vs) := by
  obtain ⟨p, rfl, hp⟩ := h.lst_inv
  obtain ⟨vs, a, b⟩ := R.cellAt e hp
  exact ⟨p, vs, rfl, b, a⟩
theorem cd_all (hc : X.calm = true) : CallD X (.builtin "all") cAll := CallR.imp (cr_all hc) fun vs H Q ⟨m, S, ds, R, rd, q⟩ => by
  unfold cAll at q
  split at q
  · rename_i r
    obtain ⟨v, rfl, rv⟩ := rd.one_inv
    cases e : S[r]? with
    | none => rw [e] at q; exact Fin.no q
    | some xs =>
      rw [e] at q
      obtain ⟨p, vs, rfl, h1, h2⟩ := cell_sql R rv e
      dsimp only [Option.bind_some] at q
      cases e2 : mapO asB xs with
      | none => rw [e2] at q; exact Fin.no q
      | some bs =>
        rw [e2] at q
        have := h1.bools e2
        subst this
        exact ⟨p, bs, rfl, SqL.of h2, q.here R (.bl _)⟩
  · exact Fin.no q
theorem cd_any (hc : X.calm = true) : CallD X (.builtin "any") cAny := CallR.imp (cr_any hc) fun vs H Q ⟨m, S, ds, R, rd, q⟩ => by
  unfold cAny at q
  split at q
  · rename_i r
    obtain ⟨v, rfl, rv⟩ := rd.one_inv
    cases e : S[r]? with
    | none => rw [e] at q; exact Fin.no q
    | some xs =>
      rw [e] at q
      obtain ⟨p, vs, rfl, h1, h2⟩ := cell_sql R rv e
      dsimp only [Option.bind_some] at q
      cases e2 : mapO asB xs with
      | none => rw [e2] at q; exact Fin.no q
      | some bs =>
        rw [e2] at q
        have := h1.bools e2
        subst this
        exact ⟨p, bs, rfl, SqL.of h2, q.here R (.bl _)⟩
  · exact Fin.no q
theorem cd_sum (hc : X.calm = true) : CallD X (.builtin "sum") cSum := CallR.imp (cr_sum hc) fun vs H Q ⟨m, S, ds, R, rd, q⟩ => by
  unfold cSum at q
  split at q
  · rename_i r
    obtain ⟨v, rfl, rv⟩ := rd.one_inv
    cases e : S[r]? with
    | none => rw [e] at q; exact Fin.no q
    | some xs =>
      rw [e] at q
      obtain ⟨p, vs, rfl, h1, h2⟩ := cell_sql R rv e
      dsimp only [Option.bind_some] at q
      cases e2 : mapO asI xs with
      | none => rw [e2] at q; exact Fin.no q
      | some bs =>
        rw [e2] at q
        have := h1.ints_inv e2
        subst this
        exact ⟨p, bs, rfl, SqL.of h2, q.here R (.int _)⟩
  · exact Fin.no q
end
/-! ### isinstance -/
def isTy (d : D) (t : Ty) : Option Bool := match d, t with
  | _, .verr => none
  | .obj _, _ => none
  | .ty _, _ => none
  | .non, _ => some false
  | .bl _, .int => some true
  | .bl _, .bool => some true
  | .int _, .int => some true
  | .str _, .str => some true
  | .tup _, .tuple => some true
  | .lst _, .list => some true
  | .fz _, .list => some true
  | _, _ => some false
def tyN (d : D) : Option String := match d with
  | .non => some "NoneType" | .bl _ => some "bool" | .int _ => some "int" | .str _ => some "str" | .tup _ => some "tuple" | .lst _ => some "list" | .fz _ => some "list" | _ => none
def anyTy (d : D) : List D → Option Bool
  | [] => (tyN d).map fun _ => false
  | .ty t :: r => match isTy d t, anyTy d r with
    | some a, some b => some (a || b)
    | _, _ => none
  | _ => none
def cIsi : OpN
  | [d, .ty t], S => (isTy d t).map fun b => (.bl b, S)
  | [d, .tup ts], S => (anyTy d ts).map fun b => (.bl b, S)
  | _, _ => none
theorem isTy_kit {K : PySem.W.Frag} {d : D} {t : Ty} {b : Bool} (h : isTy d t = some b) : ∃ n, tyN d = some n ∧ PySem.W.kitOne K (.type n) (.type t.nm) = some b := by
  cases d <;> cases t <;> simp only [isTy] at h <;> cases h <;> exact ⟨_, rfl, kit_ty (by decide +kernel)⟩
theorem tyN_x {K : PySem.W.Frag} {m : List Addr} {H : Hp} {S : Store} {d : D} {v : V} {n : String} (R : Rep K m S H) (hx : ∀ r, d = .lst r → ∃ xs, S[r]? = some xs) (h : RD K m H d v) (e : tyN d = some n) : TyX K H v (.type n) := by
  cases h with
  | non => cases e; exact .base .non
  | bl b => cases e; exact .base (.bl b)
  | int i => cases e; exact .base (.int i)
  | str x => cases e; exact .base (.str x)
  | tup a b =>
    cases e
    rcases a with (a | ⟨o, a⟩) | ⟨o, its, nn, a, c, _⟩
    · exact .base (.tup a)
    · exact .fTuple a
    · exact .kTuple a c
  | fz a b =>
    cases e
    rcases a with ⟨o, a⟩ | ⟨o, its, nn, a, c, _⟩
    · exact .base (.frz a)
    · exact .kList a c
  | @lst r p hp =>
    cases e
    obtain ⟨xs, hxs⟩ := hx r rfl
    obtain ⟨vs, a, b⟩ := R.cellAt hxs hp
    exact .base (.lst a)
  | obj a => cases e
  | ty t => cases e
theorem RD.cell {K : PySem.W.Frag} {m : List Addr} {H : Hp} {S : Store} {d : D} {v : V} (R : Rep K m S H) (h : RD K m H d v) : ∀ r, d = .lst r → ∃ xs, S[r]? = some xs := fun r e => by
  subst e
  obtain ⟨p, rfl, hp⟩ := h.lst_inv
  have hr : r < S.length := by rw [← R.len]; exact (List.getElem?_eq_some_iff.mp hp).1
  exact ⟨S[r], List.getElem?_eq_getElem hr⟩
theorem isTy_none {d : D} {t : Ty} (h : tyN d = none) : isTy d t = none := by cases d <;> cases t <;> first | rfl | cases h
theorem anyTy_kit {K : PySem.W.Frag} {m : List Addr} {H : Hp} {d : D} {n : String} (hn : tyN d = some n) : ∀ {ts : List D} {vs : List V} {b : Bool}, RDs K m H ts vs → anyTy d ts = some b → ∃ us : List Value, Paired ClsV vs us ∧ PySem.W.kitAny K (.type n) us = some b
  | [], _, b, .nil, e => by simp only [anyTy, hn] at e; cases e; exact ⟨[], .nil, kitAny_nil⟩
  | t :: r, _, b, .cons h hr, e => by
    cases h with
    | ty t =>
      simp only [anyTy] at e
      split at e
      · rename_i a c e1 e2
        cases e
        obtain ⟨n', h1, h2⟩ := isTy_kit (K := K) e1
        rw [hn] at h1; cases h1
        obtain ⟨us, h3, h4⟩ := anyTy_kit hn hr e2
        refine ⟨.type t.nm :: us, .cons (.ty _) h3, kitAny_cons h2 (fun z => ?_) fun z => ?_⟩
        · subst z; exact h4
        · subst z; rfl
      · cases e
    | _ => cases e
theorem call_isiX {X : Cx} : CallR X (.builtin "isinstance") (fun xs H Q => ∃ (x : V) (tp : Addr) (cs : List V) (t : Value) (us : List Value) (b : Bool), xs = [x, .ref tp] ∧ SqT X.K H tp cs ∧ Paired ClsV cs us ∧ TyX X.K H x t ∧ PySem.W.kitAny X.K t us = some b ∧ Q (.bl b) H) := by
  intro pins s σ H xs us Q I r h
  obtain ⟨x, tp, cs, t, ws, b, rfl, hT, k, ty, e, q⟩ := h
  obtain ⟨u1, u2, rfl, r1, r2⟩ := vals2 r
  cases (show u2 = Value.ref tp from r2)
  obtain ⟨P, Z, p, hx⟩ := kit_of I r1 ty
  obtain ⟨its, rv, ⟨o, h1, h2, n, h3⟩, _⟩ := I.tuple hT
  have e3 := ClsV.all k rv
  subst e3
  obtain ⟨oc, od, dt, sl⟩ := o
  simp only at h2 h3
  subst h2 h3
  exact PySem.W.kia_tup Z I.kIn p h1 e hx fun tk => ⟨.bl b, H, I.tok tk, rfl, q⟩
theorem tyN_of {d : D} {t : Ty} {b : Bool} (h : isTy d t = some b) : ∃ n, tyN d = some n := by
  cases e : tyN d with
  | none => rw [isTy_none e] at h; cases h
  | some n => exact ⟨n, rfl⟩
theorem cd_isi {X : Cx} : CallD X (.builtin "isinstance") cIsi := CallR.imp (call_isi.or call_isiX) fun vs H Q ⟨m, S, ds, R, rd, q⟩ => by
  unfold cIsi at q
  split at q
  · rename_i d t
    obtain ⟨v, w, rfl, r1, r2⟩ := rd.two_inv
    cases e : isTy d t with
    | none => rw [e] at q; exact Fin.no q
    | some b =>
      rw [e] at q
      obtain ⟨n, h1, h2⟩ := isTy_kit (K := X.K) e
      cases r2
      exact .inl ⟨v, _, _, _, b, rfl, .ty _, tyN_x R (r1.cell R) r1 h1, h2, q.here R (.bl _)⟩
  · rename_i d ts
    obtain ⟨v, w, rfl, r1, r2⟩ := rd.two_inv
    cases e : anyTy d ts with
    | none => rw [e] at q; exact Fin.no q
    | some b =>
      rw [e] at q
      obtain ⟨p, vs, rfl, hp, hv⟩ := r2.tup_inv
      cases e3 : tyN d with
      | none =>
        cases ts with
        | nil => simp [anyTy, e3] at e
        | cons t r => cases t <;> simp [anyTy, isTy_none e3] at e
      | some n =>
        obtain ⟨us, h3, h4⟩ := anyTy_kit e3 hv e
        exact .inr ⟨v, p, vs, _, us, b, rfl, hp, h3, tyN_x R (r1.cell R) r1 e3, h4, q.here R (.bl _)⟩
  · exact Fin.no q
end Sd
/-! Sd4: defs, calls, statements, targets, loops, comprehensions, raise. -/
namespace Sd
open PySem PySem.Spec PyProof.Rows L2
/-! ### defs and their calls -/
def spE (K : PySem.W.Frag) (n : Nat) (F : Fv) : Sp := fun vs H Q E => vs.length = n ∧ ∃ m S ds, Rep K m S H ∧ RDs K m H ds vs ∧ PostR K (RD K) m H (F ds S) Q (fun c H' => E (.ref c) none H')
/-- the def x at f is worth F -/
structure Dfn (P : Program) (w : World) (K : PySem.W.Frag) (mg : Str → Option Value) (base : Heap) (x : Str) (f : Addr) (fd : FuncData) (ps : List Str) (k : Nat) (F : Fv) : Prop where
  ok : FnOk P w K mg base (L2.CX P w) k f fd ps (spE K ps.length F)
  len : ∀ ds S, ds.length ≠ ps.length → F ds S = .no
  mg : mg x = some (.ref f)
  kp : PySem.W.keepIn K (.ref f) = true
  bd : Binds K fd ps []
def eCall (F : Fv) (g : Av) : Ev := fun ρ S => (g ρ S).bind fun ds S1 => F ds S1
section
variable {X : Cx} {W : WX} {e : Expr} {es : List Expr} {f : Addr} {fd : FuncData} {ps : List Str} {j k : Nat} {F : Fv} {g gk : Av} {x : Str} {p pos : Pos} {kws : List Keyword}
theorem sp_of {E : XK} {Q : VK} {m : List Addr} {H : Hp} {S : Store} {ds : List D} {vs : List V} {Wc : Addr → Hp → Prop} (Df : Dfn X.prog X.w X.K X.mg X.base x f fd ps j F) (R : Rep X.K m S H) (rd : RDs X.K m H ds vs) (h : PostR X.K (RD X.K) m H (F ds S) Q Wc) (hw : ∀ c H', Wc c H' → E (.ref c) none H') :
    spE X.K ps.length F vs H Q E := by
  refine ⟨?_, m, S, ds, R, rd, ?_⟩
  · by_cases z : ds.length = ps.length
    · rw [← z]; exact rd.length.symm
    · rw [Df.len ds S z] at h; exact h.elim
  · cases q : F ds S with
    | ok a S' => rw [q] at h; exact h
    | exc c S' => rw [q] at h; exact fun H' m' e1 p1 r1 => hw _ _ (h H' m' e1 p1 r1)
    | no => rw [q] at h; exact h
theorem ee_call (O : Okx X W k) (Df : Dfn X.prog X.w X.K X.mg X.base x f fd ps j F) (hg : Gl X x) (ha : EA X W (e :: es) g) (hj : j ≤ k := by decide) (hdb : (x == ("__debug__" : Str)) = false := by decide)
    (he : starEach (e :: es) X.env = (false, eval e X.env) :: starEach es X.env := by rfl) (hpl : (backTo pos (starEach es X.env)).any (·.1) = false := by rfl) : EE X W (.Call (.Name x p) (e :: es) [] pos) (eCall F g) :=
  ⟨PE.imp (pe_callS Df.ok (O.room.mono hj) hg Df.mg Df.kp Df.bd (fun σ => passAt O.tk σ) ha.pa hdb he hpl) fun σ H Q ⟨m, S, ρ, R, hσ, h⟩ =>
    ⟨m, S, ρ, R, hσ, h.bind fun ds S1 vs H1 m1 e1 p1 R1 d1 h1 => sp_of Df R1 d1 h1 fun c H' q => q⟩⟩
/-- f() -/
theorem pe_callS0 {CX : CXT} {sp : Sp} {E : L2.St → XK} (F : FnOk X.prog X.w X.K X.mg X.base CX k f fd ps sp) (hr : Room k X.A) (hg : Gl X x) (hm : X.mg x = some (.ref f)) (hk : PySem.W.keepIn X.K (.ref f) = true) (hb : Binds X.K fd ps []) (hx : ∀ σ, PassesAt CX X σ (E σ))
    (hdb : (x == ("__debug__" : Str)) = false := by decide) : PE X (.Call (.Name x p) [] [] pos) (tCallS sp E tNil) := by
  refine ⟨fun pins s σ H Q I h => ?_⟩
  refine wpAny_Call_Name_kw (ld_glob I hg hm ?_ hdb)
  exact PySem.W.callWith_K0 I.kIn hk (run_fnS (us := []) F hr hb (hx σ) I .nil h)
theorem ee_call0 (O : Okx X W k) (Df : Dfn X.prog X.w X.K X.mg X.base x f fd ps j F) (hg : Gl X x) (hj : j ≤ k := by decide) (hdb : (x == ("__debug__" : Str)) = false := by decide) : EE X W (.Call (.Name x p) [] [] pos) (eCall F aNil) :=
  ⟨PE.imp (pe_callS0 Df.ok (O.room.mono hj) hg Df.mg Df.kp Df.bd (fun σ => passAt O.tk σ) hdb) fun σ H Q ⟨m, S, ρ, R, hσ, h⟩ => sp_of Df R .nil h fun c H' q => q⟩
/-- keywords: pi tells where each parameter's value stands among the positional ones and the keywords' -/
def perm {α : Type} (pi : List Nat) (xs : List α) : List α := pi.filterMap fun i => xs[i]?
theorem RDs.perm {K : PySem.W.Frag} {m : List Addr} {H : Hp} {xs : List D} {vs : List V} (h : RDs K m H xs vs) : ∀ pi : List Nat, RDs K m H (Sd.perm pi xs) (Sd.perm pi vs)
  | [] => .nil
  | i :: r => by
    have ih := RDs.perm h r
    unfold Sd.perm at ih ⊢
    rw [List.filterMap_cons, List.filterMap_cons]
    cases q : xs[i]? with
    | none =>
      have : vs[i]? = none := by
        rw [List.getElem?_eq_none_iff] at q ⊢
        rw [← h.length]; exact q
      rw [this]; exact ih
    | some d =>
      obtain ⟨v, h1, h2⟩ := h.get q
      rw [h1]; exact .cons h2 ih
theorem Vals.perm {vs : List V} {us : List Value} (h : Vals vs us) : ∀ pi : List Nat, Vals (Sd.perm pi vs) (Sd.perm pi us)
  | [] => .nil
  | i :: r => by
    have ih := Vals.perm h r
    unfold Sd.perm at ih ⊢
    rw [List.filterMap_cons, List.filterMap_cons]
    cases q : vs[i]? with
    | none => rw [h.none_of q]; exact ih
    | some d =>
      obtain ⟨v, h1, h2⟩ := h.get q
      rw [h1]; exact .cons h2 ih
structure EK (X : Cx) (W : WX) (kws : List Keyword) (f : Av) : Prop where
  pk : PK X kws (tA X.K W f)
theorem PK.imp {X : Cx} {e : List Keyword} {t t' : TA} (h : PK X e t) (i : ∀ σ H Q, t' σ H Q → t σ H Q) : PK X e t' := ⟨fun pos pins s σ H Q I q => h.run pos pins s σ H Q I (i σ H Q q)⟩
theorem ek_nil : EK X W [] aNil := ⟨PK.imp pk_nil fun σ H Q ⟨m, S, ρ, R, hσ, h⟩ => PostR.ok (R := RDs X.K) h R .nil⟩
theorem ek_cons {nm : Option Str} {kpos : Pos} {fe : Ev} (ha : EE X W e fe) (hr : EK X W kws g) : EK X W (⟨nm, e, kpos⟩ :: kws) (aCons fe g) := ⟨PK.imp (pk_cons ha.pe hr.pk) fun σ H Q ⟨m, S, ρ, R, hσ, h⟩ =>
  ⟨m, S, ρ, R, hσ, h.bind fun d S1 v H1 m1 e1 p1 R1 d1 h1 => ⟨m1, S1, ρ, R1, hσ.mono e1 p1, h1.bind fun ds S2 vs H2 m2 e2 p2 R2 d2 h2 => PostR.ok (R := RDs X.K) h2 R2 (.cons (d1.mono e2 p2) d2)⟩⟩⟩
def KBd (fd : FuncData) (ps : List Str) (n : Nat) (ks : List Str) (pi : List Nat) : Prop :=
  ∀ (s : Shared) (us ws : List Value), us.length = n → ws.length = ks.length → BindsTo s fd ⟨us, ks.zip ws⟩ (ps.zip (perm pi (us ++ ws)))
theorem run_fnKS {CX : CXT} {sp : Sp} {E : XK} {n : Nat} {ks : List Str} {pi : List Nat} {pins : List (Addr × Obj)} {σ : L2.St} {H : Hp} {s : Shared} {Q : VK} {us ws : List Value} {vs zs : List V} (F : FnOk X.prog X.w X.K X.mg X.base CX k f fd ps sp) (hr : Room k X.A) (hb : KBd fd ps n ks pi) (hx : PassesAt CX X σ E)
    (I : Inv X pins σ H s) (r : Vals vs us) (rz : Vals zs ws) (l1 : vs.length = n) (l2 : zs.length = ks.length) (h : sp (perm pi (vs ++ zs)) H Q E) : wpAny (model X.prog X.w) X.A (call (.ref f) us (ks.zip ws)) (EP X pins σ Q) X.xe s := by
  refine wpAny_call (codeAny_mono (F.run X.A X.stack s H ⟨us, ks.zip ws⟩ (perm pi (us ++ ws)) (perm pi (vs ++ zs)) Q E hr I.env0 (hb s us ws (r.length.symm.trans l1) (rz.length.symm.trans l2)) (Vals.perm (r.append rz) pi) h) fun r s' hq => ?_)
  cases r with
  | error e => exact hx pins H s e s' I hq
  | ok fl =>
    cases fl with
    | ret u => exact I.after hq
    | next => exact False.elim hq
    | brk => exact False.elim hq
    | cont => exact False.elim hq
def eCallK (F : Fv) (n nk : Nat) (pi : List Nat) (g gk : Av) : Ev := fun ρ S => (g ρ S).bind fun ds S1 => (gk ρ S1).bind fun zs S2 => if ds.length = n ∧ zs.length = nk then F (perm pi (ds ++ zs)) S2 else .no
theorem ee_callK {n : Nat} {ks : List Str} {pi : List Nat} (O : Okx X W k) (Df : Dfn X.prog X.w X.K X.mg X.base x f fd ps j F) (hg : Gl X x) (ha : EA X W (e :: es) g) (hkw : EK X W kws gk) (hb : KBd fd ps n ks pi) (hj : j ≤ k := by decide)
    (hall : (backToKw pos (keywordEach kws X.env)).all (·.1.isSome) = true := by rfl) (hks : (backToKw pos (keywordEach kws X.env)).filterMap (·.1) = ks := by rfl) (hdb : (x == ("__debug__" : Str)) = false := by decide)
    (he : starEach (e :: es) X.env = (false, eval e X.env) :: starEach es X.env := by rfl) (hpl : ((backTo pos (starEach (e :: es) X.env)).any (·.1) || (backToKw pos (keywordEach kws X.env)).any (·.1.isNone)) = false := by rfl) :
    EE X W (.Call (.Name x p) (e :: es) kws pos) (eCallK F n ks.length pi g gk) := by
  refine ⟨⟨fun pins s σ H Q I ⟨m, S, ρ, R, hσ, h⟩ => ?_⟩⟩
  refine wpAny_Call_Name_kw (ld_glob I hg Df.mg ?_ hdb)
  refine PySem.W.callWith_KW (h₀ := X.base) I.ok.mod.kin Df.kp hall (thn (ha.pa.run pos pins s σ H _ I ⟨m, S, ρ, R, hσ, h.bind fun ds S1 vs H1 m1 e1 p1 R1 d1 h1 => show ∃ m S ρ ds, Rep X.K m S H1 ∧ RS X.K m H1 ρ σ ∧ RDs X.K m H1 ds vs ∧ PostR X.K (RD X.K) m H1 ((gk ρ S).bind fun zs S2 => if ds.length = n ∧ zs.length = ks.length then F (perm pi (ds ++ zs)) S2 else .no) Q (fun c H' => W (.ref c) none σ H') from ⟨m1, S1, ρ, ds, R1, hσ.mono e1 p1, d1, h1⟩⟩) fun us s1 ⟨vs, H1, I1, r, q⟩ => ?_) hpl he
  obtain ⟨m1, S1, ρ1, ds, R1, hσ1, d1, q⟩ := q
  refine thn (hkw.pk.run pos pins s1 σ H1 _ I1 ⟨m1, S1, ρ1, R1, hσ1, q.bind fun zs S2 ws H2 m2 e2 p2 R2 d2 h2 => show ∃ m S, Rep X.K m S H2 ∧ RDs X.K m H2 ds vs ∧ ∃ zs, RDs X.K m H2 zs ws ∧ PostR X.K (RD X.K) m H2 (if ds.length = n ∧ zs.length = ks.length then F (perm pi (ds ++ zs)) S else .no) Q (fun c H' => W (.ref c) none σ H') from
    ⟨m2, S2, R2, d1.mono e2 p2, zs, d2, h2⟩⟩) fun ws s2 ⟨zv, H2, I2, rz, q2⟩ => ⟨I2.kIn, ?_⟩
  obtain ⟨m2, S2, R2, dd, zs, dz, q2⟩ := q2
  rw [hks]
  split at q2
  · rename_i hl
    exact run_fnKS (E := WE W σ) Df.ok (O.room.mono hj) hb (passAt O.tk σ) I2 r rz (dd.length.symm.trans hl.1) (dz.length.symm.trans hl.2) (sp_of Df R2 ((dd.append dz).perm pi) q2 fun c H' z => z)
  · exact q2.elim
theorem ee_callK0 {ks : List Str} {pi : List Nat} (O : Okx X W k) (Df : Dfn X.prog X.w X.K X.mg X.base x f fd ps j F) (hg : Gl X x) (hkw : EK X W kws gk) (hb : KBd fd ps 0 ks pi) (hj : j ≤ k := by decide)
    (hall : (backToKw pos (keywordEach kws X.env)).all (·.1.isSome) = true := by rfl) (hks : (backToKw pos (keywordEach kws X.env)).filterMap (·.1) = ks := by rfl) (hdb : (x == ("__debug__" : Str)) = false := by decide)
    (hpl : ((backTo pos (starEach [] X.env)).any (·.1) || (backToKw pos (keywordEach kws X.env)).any (·.1.isNone)) = false := by rfl) :
    EE X W (.Call (.Name x p) [] kws pos) (eCallK F 0 ks.length pi aNil gk) := by
  refine ⟨⟨fun pins s σ H Q I ⟨m, S, ρ, R, hσ, h⟩ => ?_⟩⟩
  refine wpAny_Call_Name_kw (ld_glob I hg Df.mg ?_ hdb)
  refine PySem.W.callWith_KW0 (h₀ := X.base) I.ok.mod.kin Df.kp hall (thn (hkw.pk.run pos pins s σ H _ I ⟨m, S, ρ, R, hσ, PostR.bind (R := RDs X.K) (x := gk ρ S) h fun zs S2 ws H2 m2 e2 p2 R2 d2 h2 => show ∃ m S, Rep X.K m S H2 ∧ ∃ zs, RDs X.K m H2 zs ws ∧ PostR X.K (RD X.K) m H2 (if ([] : List D).length = 0 ∧ zs.length = ks.length then F (perm pi ([] ++ zs)) S else .no) Q (fun c H' => W (.ref c) none σ H') from
    ⟨m2, S2, R2, zs, d2, h2⟩⟩) fun ws s2 ⟨zv, H2, I2, rz, q2⟩ => ⟨I2.kIn, ?_⟩) hpl
  obtain ⟨m2, S2, R2, zs, dz, q2⟩ := q2
  rw [hks]
  split at q2
  · rename_i hl
    exact run_fnKS (us := []) (vs := []) (E := WE W σ) Df.ok (O.room.mono hj) hb (passAt O.tk σ) I2 .nil rz rfl (dz.length.symm.trans hl.2) (sp_of (ds := perm pi ([] ++ zs)) Df R2 (dz.perm pi) q2 fun c H' z => z)
  · exact q2.elim
/-- a local name that holds one of some defs -/
structure HeldX (P : Program) (w : World) (K : PySem.W.Frag) (mg : Str → Option Value) (base : Heap) (k : Nat) (f : Addr) (F : Fv) : Prop where
  ex : ∃ (x : Str) (fd : FuncData) (ps : List Str) (j : Nat), j ≤ k ∧ Dfn P w K mg base x f fd ps j F
def HeldAll (P : Program) (w : World) (K : PySem.W.Frag) (mg : Str → Option Value) (base : Heap) (k : Nat) (tb : List (Addr × Fv)) : Prop := ∀ p ∈ tb, HeldX P w K mg base k p.1 p.2
def fvAt : List (Addr × Fv) → Addr → Option Fv
  | [], _ => none
  | (b, F) :: r, a => if b = a then some F else fvAt r a
theorem fvAt_mem : ∀ {tb : List (Addr × Fv)} {a : Addr} {F : Fv}, fvAt tb a = some F → (a, F) ∈ tb
  | (b, G) :: r, a, F, h => by
    unfold fvAt at h
    split at h
    · rename_i e; cases h; rw [e]; exact List.mem_cons_self
    · exact List.mem_cons_of_mem _ (fvAt_mem h)
def eCallL (tb : List (Addr × Fv)) (i : Nat) (g : Av) : Ev := fun ρ S => match lget ρ i with
  | some (.obj a) => match fvAt tb a with
    | some F => (g ρ S).bind fun ds S1 => F ds S1
    | none => .no
  | _ => .no
theorem ee_callL {tb : List (Addr × Fv)} (i : Nat) (O : Okx X W k) (hT : HeldAll X.prog X.w X.K X.mg X.base k tb) (ha : EA X W (e :: es) g) (hN : X.N[i]? = some x := by rfl) (hv : Vis X.env.scope x := by first | exact Or.inl rfl | exact Or.inr (Or.inl rfl) | exact Or.inr (Or.inr rfl))
    (hdb : (x == ("__debug__" : Str)) = false := by decide) (hcd : (x == ("__classdict__" : Str)) = false := by decide)
    (he : starEach (e :: es) X.env = (false, eval e X.env) :: starEach es X.env := by rfl) (hpl : (backTo pos (starEach es X.env)).any (·.1) = false := by rfl) : EE X W (.Call (.Name x p) (e :: es) [] pos) (eCallL tb i g) := by
  refine ⟨⟨fun pins s σ H Q I ⟨m, S, ρ, R, hσ, h⟩ => ?_⟩⟩
  unfold eCallL at h
  split at h
  · rename_i a ea
    split at h
    · rename_i F eF
      obtain ⟨y, fd, ps, j, hj, Df⟩ := (hT _ (fvAt_mem eF)).ex
      obtain ⟨v, hs, rv⟩ := hσ.2 i _ (lget_eq ea)
      cases rv
      refine wpAny_Call_Name_kw (thn ((pe_var (pos := p) hN hv hdb hcd).run pins s σ H (fun v H1 => v = .ref a ∧ H1 = H) I ⟨.ref a, hs, rfl, rfl⟩) fun u s1 ⟨v, H1, I1, r1, q1⟩ => ?_)
      obtain ⟨rfl, rfl⟩ := q1
      cases r1
      refine PySem.W.callWith_K (h₀ := X.base) I.ok.mod.kin Df.kp (thn (ha.pa.run pos pins s1 σ _ _ I1 ⟨m, S, ρ, R, hσ, h.bind fun ds S1 vs H2 m1 e1 p1 R1 d1 h1 => sp_of (E := WE W σ) Df R1 d1 h1 fun c H' z => z⟩) fun us s2 ⟨vs, H2, I2, r, q⟩ => ⟨I2.kIn, ?_⟩) he hpl
      exact run_fnS (E := WE W) Df.ok (O.room.mono hj) Df.bd (passAt O.tk σ) I2 r q
    · exact h.elim
  · exact h.elim
end
/-! ### targets made of names -/
inductive NT where
  | nm (i : Nat)
  | tp (ts : List NT)
mutual
def NT.b : NT → D → Loc → Option Loc
  | .nm i, d, ρ => some (ρ.set i (some d))
  | .tp ts, .tup xs, ρ => NT.bs ts xs ρ
  | .tp _, _, _ => none
def NT.bs : List NT → List D → Loc → Option Loc
  | [], [], ρ => some ρ
  | t :: ts, x :: xs, ρ => (NT.b t x ρ).bind fun ρ' => NT.bs ts xs ρ'
  | _, _, _ => none
end
mutual
def NT.ns : NT → List Nat
  | .nm i => [i]
  | .tp ts => NT.nss ts
def NT.nss : List NT → List Nat
  | [] => []
  | t :: ts => NT.ns t ++ NT.nss ts
end
mutual
def ntT (K : PySem.W.Frag) : NT → TG
  | .nm i => gName i
  | .tp ts => gTup K ts.length (ntTs K ts)
def ntTs (K : PySem.W.Frag) : List NT → TGs
  | [] => gNil
  | t :: ts => gCons (ntT K t) (ntTs K ts)
end
structure EN (X : Cx) (tg : Expr) (t : NT) : Prop where
  pg : PG X tg (ntT X.K t)
structure ENs (X : Cx) (tg : List Expr) (t : List NT) : Prop where
  pg : PGs X tg (ntTs X.K t)
section
variable {X : Cx} {e : Expr} {es : List Expr} {t : NT} {ts : List NT} {pos : Pos}
theorem en_name (i : Nat) {x : Str} (hN : X.N.Nodup) (hi : X.N[i]? = some x := by rfl) (hx : L2.Loc X.env.scope x := by first | exact .inl rfl | exact .inr rfl) (hf : X.fn x = true ∨ X.env.scope.names.lookup x = some .local := by first | exact .inl rfl | exact .inr rfl | assumption) : EN X (.Name x pos) (.nm i) :=
  ⟨by unfold ntT; exact pg_name hN hi hx hf⟩
theorem ens_nil : ENs X [] [] := ⟨by unfold ntTs; exact pgs_nil⟩
theorem ens_cons (h1 : EN X e t) (h2 : ENs X es ts) (hs : (assignEach (e :: es) X.env).map (·.2) = assign e X.env :: (assignEach es X.env).map (·.2) := by rfl) : ENs X (e :: es) (t :: ts) := ⟨by unfold ntTs; exact pgs_cons h1.pg h2.pg hs⟩
theorem en_tup {k : Nat} (hc : X.calm = true) (h : ENs X es ts) (hn : (assignEach es X.env).length = ts.length := by rfl) (hst : (assignEach es X.env).findIdx? (·.1) = none := by rfl) : EN X (.Tuple es k pos) (.tp ts) := ⟨by unfold ntT; exact pg_tup hc h.pg hn hst⟩
end
theorem wipe_get (σ : L2.St) : ∀ (vs : List Nat) (j : Nat), (wipe σ vs)[j]? = if j ∈ vs then (if j < σ.length then some none else none) else σ[j]?
  | [], j => by simp [wipe]
  | v :: vs, j => by
    unfold wipe
    by_cases e : v = j
    · subst e
      by_cases h : v < σ.length
      · rw [List.getElem?_set_self (by rw [wipe_length]; exact h)]; simp [h]
      · rw [List.getElem?_eq_none (by rw [List.length_set, wipe_length]; omega)]; simp [h]
    · rw [List.getElem?_set_ne e, wipe_get σ vs j]
      have : (j ∈ v :: vs) ↔ j ∈ vs := by simp [Ne.symm e]
      simp only [this]
theorem wipe_set {σ : L2.St} {vs : List Nat} {i : Nat} {x : Option V} (h : i ∈ vs) : wipe (σ.set i x) vs = wipe σ vs := by
  apply List.ext_getElem?
  intro j
  rw [wipe_get, wipe_get, List.length_set]
  by_cases hj : j ∈ vs
  · simp [hj]
  · have : i ≠ j := fun e => hj (e ▸ h)
    simp [hj, List.getElem?_set_ne this]
section
variable {K : PySem.W.Frag} {m : List Addr} {H : Hp}
mutual
theorem NT.run : ∀ (t : NT) {d : D} {v : V} {ρ ρ' : Loc} {σ : L2.St}, t.b d ρ = some ρ' → RS K m H ρ σ → RD K m H d v →
    ∃ σ', RS K m H ρ' σ' ∧ (∀ Q : L2.St → Hp → Prop, Q σ' H → ntT K t v σ H Q) ∧ (∀ vs : List Nat, (∀ i ∈ t.ns, i ∈ vs) → wipe σ' vs = wipe σ vs)
  | .nm i, d, v, ρ, ρ', σ, e, hσ, r => by
    simp only [NT.b] at e
    cases e
    exact ⟨σ.set i (some v), hσ.set r i, fun Q q => by unfold ntT; exact q, fun vs h => wipe_set (h i (by simp [NT.ns]))⟩
  | .tp ts, d, v, ρ, ρ', σ, e, hσ, r => by
    cases r with
    | tup h hs =>
      simp only [NT.b] at e
      obtain ⟨σ', a, b, c, l⟩ := NT.runs ts e hσ hs
      exact ⟨σ', a, fun Q q => by unfold ntT; exact ⟨_, _, rfl, h, l, b Q q⟩, fun vs h => c vs fun i hi => h i (by simp only [NT.ns]; exact hi)⟩
    | _ => simp only [NT.b] at e; cases e
theorem NT.runs : ∀ (ts : List NT) {ds : List D} {vs : List V} {ρ ρ' : Loc} {σ : L2.St}, NT.bs ts ds ρ = some ρ' → RS K m H ρ σ → RDs K m H ds vs →
    ∃ σ', RS K m H ρ' σ' ∧ (∀ Q : L2.St → Hp → Prop, Q σ' H → ntTs K ts vs σ H Q) ∧ (∀ ws : List Nat, (∀ i ∈ NT.nss ts, i ∈ ws) → wipe σ' ws = wipe σ ws) ∧ vs.length = ts.length
  | [], ds, vs, ρ, ρ', σ, e, hσ, r => by
    cases r with
    | nil =>
      simp only [NT.bs] at e
      cases e
      exact ⟨σ, hσ, fun Q q => by unfold ntTs; exact ⟨rfl, q⟩, fun _ _ => rfl, rfl⟩
    | cons _ _ => simp only [NT.bs] at e; cases e
  | t :: ts, ds, vs, ρ, ρ', σ, e, hσ, r => by
    cases r with
    | nil => simp only [NT.bs] at e; cases e
    | cons r1 r2 =>
      simp only [NT.bs] at e
      cases q : t.b _ ρ with
      | none => rw [q] at e; cases e
      | some ρ1 =>
        rw [q] at e
        obtain ⟨σ1, a1, b1, c1⟩ := NT.run t q hσ r1
        obtain ⟨σ2, a2, b2, c2, l⟩ := NT.runs ts e a1 r2
        refine ⟨σ2, a2, fun Q q => ?_, fun ws h => ?_, by rw [List.length_cons, List.length_cons, l]⟩
        · unfold ntTs
          exact ⟨_, _, rfl, b1 _ (b2 Q q)⟩
        · rw [c2 ws fun i hi => h i (by simp only [NT.nss]; exact List.mem_append_right _ hi), c1 ws fun i hi => h i (by simp only [NT.nss]; exact List.mem_append_left _ hi)]
end
end
end Sd
/-! Sd5: statements, loops, comprehensions, raise, try, a def by its body. -/
namespace Sd
open PySem PySem.Spec PyProof.Rows L2
def fuel : Nat := 1000000000000000000000000000000000000000000
section
variable {X : Cx} {W : WX} {e : Expr} {f : Ev} {pos : Pos} {st : Stmt} {rest : List Stmt} {b b' : Sv} {tc : Tv}
/-- nothing but the frame's own -/
theorem nx_of {K : PySem.W.Frag} {m : List Addr} {H : Hp} {S : Store} {ρ : Loc} {σ : L2.St} {D : Ends} (h : PostS K W m H (.nx ρ S) D) (R : Rep K m S H) (hσ : RS K m H ρ σ) : D.nx σ H := h σ H m (Ext.refl H) (List.prefix_refl _) R hσ
def sNext : Sv := fun ρ S => .nx ρ S
def sSeq (p q : Sv) : Sv := fun ρ S => match p ρ S with
  | .nx ρ' S' => q ρ' S'
  | o => o
theorem ess_nil : ESs X W [] sNext := ⟨PSs.imp pss_nil fun D σ H ⟨m, S, ρ, R, hσ, h⟩ => nx_of h R hσ⟩
theorem ess_one (h : ES X W st b) : ESs X W [st] b := ⟨pss_one h.ps⟩
theorem ess_cons (h : ES X W st b) (hr : ESs X W rest b') : ESs X W (st :: rest) (sSeq b b') := ⟨PSs.imp (pss_cons h.ps hr.pss) fun D σ H ⟨m, S, ρ, R, hσ, h⟩ => ⟨m, S, ρ, R, hσ, by
  unfold sSeq at h
  cases q : b ρ S with
  | nx ρ' S' =>
    rw [q] at h
    exact fun σ' H' m' e1 p1 R1 h1 => ⟨m', S', ρ', R1, h1, PostS.at e1 p1 h⟩
  | rt d S' => rw [q] at h; exact h
  | bk ρ' S' => rw [q] at h; exact h
  | ct ρ' S' => rw [q] at h; exact h
  | exc c ρ' S' => rw [q] at h; exact h
  | no => rw [q] at h; exact h⟩⟩
theorem es_pass : ES X W (.Pass pos) sNext := ⟨PS.imp ps_pass fun D σ H ⟨m, S, ρ, R, hσ, h⟩ => nx_of h R hσ⟩
theorem es_doc {x j pos pos'} : ES X W (.Expr (.Constant (.str x) j pos) pos') sNext := ⟨PS.imp ps_doc fun D σ H ⟨m, S, ρ, R, hσ, h⟩ => nx_of h R hσ⟩
def sBreak : Sv := fun ρ S => .bk ρ S
def sCont : Sv := fun ρ S => .ct ρ S
theorem es_break : ES X W (.Break pos) sBreak := ⟨PS.imp ps_break fun D σ H ⟨m, S, ρ, R, hσ, h⟩ => h σ H m (Ext.refl H) (List.prefix_refl _) R hσ⟩
theorem es_continue : ES X W (.Continue pos) sCont := ⟨PS.imp ps_continue fun D σ H ⟨m, S, ρ, R, hσ, h⟩ => h σ H m (Ext.refl H) (List.prefix_refl _) R hσ⟩
def sExpr (f : Ev) : Sv := fun ρ S => (f ρ S).st ρ fun _ S1 => .nx ρ S1
theorem es_expr (he : EE X W e f) (hs : swapsWith e none pos.line X.env = pure false := by rfl) : ES X W (.Expr e pos) (sExpr f) := ⟨PS.imp (ps_expr he.pe hs) fun D σ H ⟨m, S, ρ, R, hσ, h⟩ =>
  ⟨m, S, ρ, R, hσ, PostS.st h hσ fun a S1 v H1 m1 e1 p1 R1 d1 h1 => nx_of h1 R1 (hσ.mono e1 p1)⟩⟩
def sRet (f : Ev) : Sv := fun ρ S => (f ρ S).st ρ fun d S1 => .rt d S1
theorem es_ret (he : EE X W e f) : ES X W (.Return (some e) pos) (sRet f) := ⟨PS.imp (ps_ret he.pe) fun D σ H ⟨m, S, ρ, R, hσ, h⟩ =>
  ⟨m, S, ρ, R, hσ, PostS.st h hσ fun a S1 v H1 m1 e1 p1 R1 d1 h1 => h1 v H1 m1 (Ext.refl _) (List.prefix_refl _) R1 d1⟩⟩
def sRetN : Sv := fun _ S => .rt .non S
theorem es_retN : ES X W (.Return none pos) sRetN := ⟨PS.imp ps_retN fun D σ H ⟨m, S, ρ, R, hσ, h⟩ => h .non H m (Ext.refl _) (List.prefix_refl _) R .non⟩
def sIf (c : Tv) (p q : Sv) : Sv := fun ρ S => (c ρ S).st ρ fun k S1 => if k = true then p ρ S1 else q ρ S1
theorem es_if {c : Expr} {p q : List Stmt} (hc : ET X W c tc) (ha : ESs X W p b) (hb : ESs X W q b') : ES X W (.If c p q pos) (sIf tc b b') := ⟨PS.imp (ps_if hc.pt ha.pss hb.pss) fun D σ H ⟨m, S, ρ, R, hσ, h⟩ =>
  ⟨m, S, ρ, R, hσ, PostS.st h hσ fun a S1 v H1 m1 e1 p1 R1 d1 h1 => by
    subst d1
    cases a with
    | true => exact iteT ⟨m1, S1, ρ, R1, hσ.mono e1 p1, h1⟩
    | false => exact iteF ⟨m1, S1, ρ, R1, hσ.mono e1 p1, h1⟩⟩⟩
/-- name = e -/
def sSet (i : Nat) (f : Ev) : Sv := fun ρ S => (f ρ S).st ρ fun d S1 => .nx (ρ.set i (some d)) S1
theorem set_imp {K : PySem.W.Frag} {i : Nat} {te : TE} (hte : ∀ σ H Q, tE K W f σ H Q → te σ H Q) : ∀ D σ H, tS K W (sSet i f) D σ H → tAsg te (gName i) D σ H := fun D σ H ⟨m, S, ρ, R, hσ, h⟩ =>
  hte _ _ _ ⟨m, S, ρ, R, hσ, PostS.st h hσ fun a S1 v H1 m1 e1 p1 R1 d1 h1 => nx_of h1 R1 ((hσ.mono e1 p1).set d1 i)⟩
theorem es_set (i : Nat) {x : Str} {pos' : Pos} (hN : X.N.Nodup) (he : EE X W e f) (hi : X.N[i]? = some x := by rfl) (hx : L2.Loc X.env.scope x := by first | exact .inl rfl | exact .inr rfl) (hs : swapsWith e (some (.Name x pos')) pos.line X.env = pure false := by rfl)
    (hf : X.fn x = true ∨ X.env.scope.names.lookup x = some .local := by first | exact .inl rfl | exact .inr rfl | assumption) : ES X W (.Assign [.Name x pos'] e pos) (sSet i f) := ⟨PS.imp (ps_set hN hi hx he.pe hs hf) (set_imp fun _ _ _ h => h)⟩
/-- (a, (b, c)) = e -/
def sNt (t : NT) (f : Ev) : Sv := fun ρ S => (f ρ S).st ρ fun d S1 => match t.b d ρ with
  | some ρ' => .nx ρ' S1
  | none => .no
theorem es_nt {t : NT} {tg : Expr} (he : EE X W e f) (ht : EN X tg t) (hs : swapsWithSole [tg] e pos.line X.env = pure false := by rfl) (hw : swappedStores [tg] e X.env = pure none := by rfl) (h1 : (assignEach [tg] X.env).map (·.2) = [assign tg X.env] := by rfl) :
    ES X W (.Assign [tg] e pos) (sNt t f) := ⟨PS.imp (ps_asg he.pe ht.pg hs hw h1) fun D σ H ⟨m, S, ρ, R, hσ, h⟩ =>
  ⟨m, S, ρ, R, hσ, PostS.st h hσ fun d S1 v H1 m1 e1 p1 R1 d1 h1 => by
    cases q : t.b d ρ with
    | none => rw [q] at h1; exact h1.elim
    | some ρ' =>
      rw [q] at h1
      obtain ⟨σ', hσ', hQ, _⟩ := NT.run t q (hσ.mono e1 p1) d1
      exact hQ _ (nx_of h1 R1 hσ')⟩⟩
/-- names = a list's items -/
def sUnl (ts : List NT) (f : Ev) : Sv := fun ρ S => (f ρ S).st ρ fun d S1 => match d with
  | .lst r => match S1[r]? with
    | some xs => match NT.bs ts xs ρ with
      | some ρ' => .nx ρ' S1
      | none => .no
    | none => .no
  | _ => .no
theorem es_unl {ts : List NT} {es : List Expr} {k : Nat} {tp : Pos} (hc : X.calm = true) (he : EE X W e f) (ht : ENs X es ts) (hn : (assignEach es X.env).length = ts.length := by rfl) (hst : (assignEach es X.env).findIdx? (·.1) = none := by rfl)
    (hs : swapsWithSole [.Tuple es k tp] e pos.line X.env = pure false := by rfl) (hw : swappedStores [.Tuple es k tp] e X.env = pure none := by rfl) (h1 : (assignEach [.Tuple es k tp] X.env).map (·.2) = [assign (.Tuple es k tp) X.env] := by rfl) :
    ES X W (.Assign [.Tuple es k tp] e pos) (sUnl ts f) := ⟨PS.imp (ps_asg he.pe (pg_unl hc ht.pg hn hst) hs hw h1) fun D σ H ⟨m, S, ρ, R, hσ, h⟩ =>
  ⟨m, S, ρ, R, hσ, PostS.st h hσ fun d S1 v H1 m1 e1 p1 R1 d1 h1 => by
    cases d1 with
    | lst hp =>
      dsimp only at h1
      split at h1
      · rename_i xs hx
        obtain ⟨vs, a1, a2⟩ := R1.cellAt hx hp
        split at h1
        · rename_i ρ' q
          obtain ⟨σ', hσ', hQ, _, l⟩ := NT.runs ts q (hσ.mono e1 p1) a2
          exact ⟨_, vs, rfl, SqL.of a1, l, hQ _ (nx_of h1 R1 hσ')⟩
        · exact h1.elim
      · exact h1.elim
    | _ => exact h1.elim⟩⟩
/-- o[i] = e of a list -/
def oSet (o i d : D) (S : Store) : Option Store := match o, i with
  | .lst r, .int k => (S[r]?).bind fun xs => (ixN xs.length k).map fun j => S.set r (xs.set j d)
  | _, _ => none
def sSub (f fo fi : Ev) : Sv := fun ρ S => (f ρ S).st ρ fun d S1 => (fo ρ S1).st ρ fun o S2 => (fi ρ S2).st ρ fun i S3 => match oSet o i d S3 with
  | some S4 => .nx ρ S4
  | none => .no
theorem es_sub {o i : Expr} {fo fi : Ev} {p2 : Pos} (he : EE X W e f) (ho : EE X W o fo) (hi : EE X W i fi) (hs : swapsWithSole [.Subscript o i p2] e pos.line X.env = pure false := by rfl) (hw : swappedStores [.Subscript o i p2] e X.env = pure none := by rfl)
    (h1 : (assignEach [.Subscript o i p2] X.env).map (·.2) = [assign (.Subscript o i p2) X.env] := by rfl)
    (ha : ∀ v, assign (.Subscript o i p2) X.env v = (do
      let ov ← holding [v] (eval o X.env)
      let iv ← holding [v, ov] (eval i X.env)
      standAt p2
      holding [v, ov, iv] (setItem ov iv v)
      release [v, ov, iv] []) := by intro _; rfl) : ES X W (.Assign [.Subscript o i p2] e pos) (sSub f fo fi) := ⟨PS.imp (ps_asg he.pe (pg_sub ho.pe hi.pe set_list ha) hs hw h1) fun D σ H ⟨m, S, ρ, R, hσ, h⟩ =>
  ⟨m, S, ρ, R, hσ, PostS.st h hσ fun d S1 v H1 m1 e1 p1 R1 d1 h1 => ⟨m1, S1, ρ, R1, hσ.mono e1 p1, PostS.st h1 (hσ.mono e1 p1) fun ov S2 w H2 m2 e2 p2 R2 d2 h2 => ⟨m2, S2, ρ, R2, (hσ.mono e1 p1).mono e2 p2, PostS.st h2 ((hσ.mono e1 p1).mono e2 p2) fun iv S3 u H3 m3 e3 p3 R3 d3 h3 => by
    have dv := (d1.mono e2 p2).mono e3 p3
    have do' := d2.mono e3 p3
    have hσ3 := ((hσ.mono e1 p1).mono e2 p2).mono e3 p3
    cases do' with
    | lst hp =>
      cases d3 with
      | int kk =>
        rename_i r p
        simp only [oSet] at h3
        cases q : S3[r]? with
        | none => rw [q] at h3; exact h3.elim
        | some xs =>
          rw [q] at h3
          obtain ⟨vs, a1, a2⟩ := R3.cellAt q hp
          dsimp only [Option.bind_some] at h3
          cases q2 : ixN xs.length kk with
          | none => rw [q2] at h3; exact h3.elim
          | some j =>
            rw [q2] at h3
            refine ⟨p, vs, kk, j, rfl, rfl, a1, by rw [← a2.length]; exact q2, ?_⟩
            exact h3 σ _ m3 (Ext.lst a1) (List.prefix_refl _) (R3.write hp a1 (RDs.set dv j a2)) (hσ3.mono (Ext.lst a1) (List.prefix_refl _))
      | _ => simp only [oSet] at h3; exact h3.elim
    | _ => simp only [oSet] at h3; exact h3.elim⟩⟩⟩⟩
/-- a, b = x, y of plain local names: stored from the right -/
def sPar (i j : Nat) (g : Av) : Sv := fun ρ S => (g ρ S).st ρ fun ds S1 => match ds with
  | [a, b] => .nx ((ρ.set i (some a)).set j (some b)) S1
  | _ => .no
theorem es_par (i j : Nat) {x y : Str} {a b : Expr} {g : Av} {px py pt : Pos} {kt k2 pt2} (hc : X.calm = true) (hN : X.N.Nodup) (ha : EA X W [a, b] g) (hij : i ≠ j := by decide) (hi : X.N[i]? = some x := by rfl) (hj : X.N[j]? = some y := by rfl)
    (hx : X.env.scope.names.lookup x = some .local := by rfl) (hy : X.env.scope.names.lookup y = some .local := by rfl)
    (hw : swappedStores [.Tuple [.Name x px, .Name y py] kt pt] (.Tuple [a, b] k2 pt2) X.env = pure (some [x, y]) := by rfl)
    (hs : swapsWithSole [.Tuple [.Name x px, .Name y py] kt pt] (.Tuple [a, b] k2 pt2) pos.line X.env = pure false := by rfl) :
    ES X W (.Assign [.Tuple [.Name x px, .Name y py] kt pt] (.Tuple [a, b] k2 pt2) pos) (sPar i j g) := ⟨PS.imp (ps_par hc hN hi hj hij hx hy ha.pa hw hs) fun D σ H ⟨m, S, ρ, R, hσ, h⟩ =>
  ⟨m, S, ρ, R, hσ, PostS.st h hσ fun ds S1 vs H1 m1 e1 p1 R1 d1 h1 => by
    match ds, d1, h1 with
    | [], d1, h1 => exact h1.elim
    | [_], d1, h1 => exact h1.elim
    | _ :: _ :: _ :: _, d1, h1 => exact h1.elim
    | [a, b], d1, h1 =>
      obtain ⟨v, w, rfl, r1, r2⟩ := d1.two_inv
      exact ⟨v, w, rfl, nx_of h1 R1 (((hσ.mono e1 p1).set r1 i).set r2 j)⟩⟩⟩
def sPar3 (i j l : Nat) (g : Av) : Sv := fun ρ S => (g ρ S).st ρ fun ds S1 => match ds with
  | [a, b, c] => .nx (((ρ.set i (some a)).set j (some b)).set l (some c)) S1
  | _ => .no
theorem es_par3 (i j l : Nat) {x y z : Str} {a b c : Expr} {g : Av} {px py pz pt : Pos} {kt k2 pt2} (hc : X.calm = true) (hN : X.N.Nodup) (ha : EA X W [a, b, c] g) (hij : i ≠ j := by decide) (hil : i ≠ l := by decide) (hjl : j ≠ l := by decide) (hi : X.N[i]? = some x := by rfl) (hj : X.N[j]? = some y := by rfl) (hl : X.N[l]? = some z := by rfl)
    (hx : X.env.scope.names.lookup x = some .local := by rfl) (hy : X.env.scope.names.lookup y = some .local := by rfl) (hz : X.env.scope.names.lookup z = some .local := by rfl)
    (hw : swappedStores [.Tuple [.Name x px, .Name y py, .Name z pz] kt pt] (.Tuple [a, b, c] k2 pt2) X.env = pure (some [x, y, z]) := by rfl)
    (hs : swapsWithSole [.Tuple [.Name x px, .Name y py, .Name z pz] kt pt] (.Tuple [a, b, c] k2 pt2) pos.line X.env = pure false := by rfl) :
    ES X W (.Assign [.Tuple [.Name x px, .Name y py, .Name z pz] kt pt] (.Tuple [a, b, c] k2 pt2) pos) (sPar3 i j l g) := ⟨PS.imp (ps_par3 hc hN hi hj hl hij hil hjl hx hy hz ha.pa hw hs) fun D σ H ⟨m, S, ρ, R, hσ, h⟩ =>
  ⟨m, S, ρ, R, hσ, PostS.st h hσ fun ds S1 vs H1 m1 e1 p1 R1 d1 h1 => by
    match ds, d1, h1 with
    | [], d1, h1 => exact h1.elim
    | [_], d1, h1 => exact h1.elim
    | [_, _], d1, h1 => exact h1.elim
    | _ :: _ :: _ :: _ :: _, d1, h1 => exact h1.elim
    | [a, b, c], .cons r1 (.cons r2 (.cons r3 .nil)), h1 =>
      exact ⟨_, _, _, rfl, nx_of h1 R1 ((((hσ.mono e1 p1).set r1 i).set r2 j).set r3 l)⟩⟩⟩
/-! ### while -/
def sWhileGo (c : Tv) (b : Sv) : Nat → Sv
  | 0 => fun _ _ => .no
  | n + 1 => fun ρ S => (c ρ S).st ρ fun k S1 => if k = true then (match b ρ S1 with
      | .nx ρ' S' => sWhileGo c b n ρ' S'
      | .ct ρ' S' => sWhileGo c b n ρ' S'
      | .bk ρ' S' => .nx ρ' S'
      | o => o) else .nx ρ S1
def sWhile (c : Tv) (b : Sv) : Sv := sWhileGo c b fuel
theorem es_while {c : Expr} {body : List Stmt} (hp : PassesOwn (model X.prog X.w) X.A X.env X.xe) (hc : ET X W c tc) (hb : ESs X W body b) : ES X W (.While c body [] pos) (sWhile tc b) := ⟨PS.imp (ps_while hp hc.pt hb.pss) fun D σ H ⟨m, S, ρ, R, hσ, h⟩ => by
  refine ⟨fun n σ H => ∃ m S ρ, Rep X.K m S H ∧ RS X.K m H ρ σ ∧ PostS X.K W m H (sWhileGo tc b n ρ S) D, ⟨fuel, m, S, ρ, R, hσ, h⟩, ?_⟩
  rintro n σ H ⟨m, S, ρ, R, hσ, h⟩
  cases n with
  | zero => exact h.elim
  | succ n =>
    unfold sWhileGo at h
    refine ⟨m, S, ρ, R, hσ, PostS.st h hσ fun k S1 k' H1 m1 e1 p1 R1 d1 h1 => ?_⟩
    subst d1
    have hσ1 := hσ.mono e1 p1
    cases k with
    | false => exact iteF (nx_of h1 R1 hσ1)
    | true =>
      refine iteT ⟨fun σ' H' => ∃ m S ρ, Rep X.K m S H' ∧ RS X.K m H' ρ σ' ∧ PostS X.K W m H' (sWhileGo tc b n ρ S) D, fun σ' H' q => ⟨n, Nat.lt_succ_self _, q⟩, m1, S1, ρ, R1, hσ1, ?_⟩
      rw [if_pos rfl] at h1
      cases q : b ρ S1 with
      | nx ρ' S' => rw [q] at h1; exact fun σ' H' m' e2 p2 R2 h2 => ⟨m', S', ρ', R2, h2, PostS.at e2 p2 h1⟩
      | ct ρ' S' => rw [q] at h1; exact fun σ' H' m' e2 p2 R2 h2 => ⟨m', S', ρ', R2, h2, PostS.at e2 p2 h1⟩
      | bk ρ' S' => rw [q] at h1; exact h1
      | rt d S' => rw [q] at h1; exact h1
      | exc c' ρ' S' => rw [q] at h1; exact h1
      | no => rw [q] at h1; exact h1⟩
/-! ### what is walked -/
abbrev Itr := Store → Nat → Option D
def itLst (r : Nat) : Itr := fun S i => (S[r]?).bind fun xs => xs[i]?
def itSeq (xs : List D) : Itr := fun _ i => xs[i]?
def itRng (lo : Int) (n : Nat) : Itr := fun _ i => if i < n then some (.int (lo + i)) else none
def itEnum (a : Itr) : Itr := fun S i => (a S i).map fun d => .tup [.int i, d]
def itZip (a b : Itr) : Itr := fun S i => match a S i, b S i with
  | some x, some y => some (.tup [x, y])
  | _, _ => none
def RIt (K : PySem.W.Frag) : Rl Itr It := fun m H0 a J => ∀ m' S' H', m <+: m' → Ext H0 H' → Rep K m' S' H' → ∀ i, (a S' i = none → J.stop i H') ∧
  ∀ d, a S' i = some d → J.go i H' ∧ ∀ x H'', J.yld i H' x H'' → Ext H' H'' ∧ Rep K m' S' H'' ∧ RD K m' H'' d x
abbrev Iv := Loc → Store → Res Itr
structure EI (X : Cx) (W : WX) (tg iter : Expr) (it : Iv) : Prop where
  pi : PI X tg iter (tG X.K (RIt X.K) W it)
theorem PI.imp {X : Cx} {tg iter : Expr} {t t' : TI} (h : PI X tg iter t) (i : ∀ σ H Q, t' σ H Q → t σ H Q) : PI X tg iter t' := ⟨fun pins s σ H R I q => h.run pins s σ H R I (i σ H R q)⟩
end
section
variable {K : PySem.W.Frag} {m : List Addr} {H : Hp}
theorem sql_cell {r : Nat} {p : Addr} {S : Store} {xs : List D} {vs ws : List V} (R : Rep K m S H) (hp : m[r]? = some p) (hx : S[r]? = some xs) (h : H p = some (.lst vs)) : RDs K m H xs vs := by
  obtain ⟨us, a, b⟩ := R.cellAt hx hp
  rw [h] at a; cases a
  exact b
end
end Sd
/-! Sd6: for, comprehensions, raise, try, a def by its body. -/
namespace Sd
open PySem PySem.Spec PyProof.Rows L2 RZ
section
variable {K : PySem.W.Frag} {m : List Addr} {H : Hp}
/-- what a list at p holds at each turn -/
structure LsAt (K : PySem.W.Frag) (m : List Addr) (H0 : Hp) (p : Addr) (a : Itr) : Prop where
  at_ : ∀ m' S' H', m <+: m' → Ext H0 H' → Rep K m' S' H' → ∃ xs vs, RDs K m' H' xs vs ∧ SqL K H' p vs ∧ (∀ i, a S' i = xs[i]?) ∧ ∀ ws, SqL K H' p ws → ws = vs
structure TpAt (K : PySem.W.Frag) (m : List Addr) (H0 : Hp) (p : Addr) (a : Itr) : Prop where
  at_ : ∀ m' S' H', m <+: m' → Ext H0 H' → Rep K m' S' H' → ∃ xs vs, RDs K m' H' xs vs ∧ SqT K H' p vs ∧ (∀ i, a S' i = xs[i]?)
/-- what yld of the library's walks says of every reading of the list -/
theorem rit_lst {a : Itr} {p : Addr} (h : ∀ m' S' H', m <+: m' → Ext H H' → Rep K m' S' H' → ∃ xs vs, RDs K m' H' xs vs ∧ SqL K H' p vs ∧ ∀ i, a S' i = xs[i]?) : RIt K m H a (Itl K p) := by
  intro m' S' H' p1 e1 R1 i
  obtain ⟨xs, vs, r, q, hi⟩ := h m' S' H' p1 e1 R1
  rw [hi]
  refine ⟨fun e => ⟨vs, q, ?_⟩, fun d e => ?_⟩
  · rw [List.getElem?_eq_none_iff] at e
    rw [← r.length]; exact e
  · obtain ⟨v, h1, h2⟩ := r.get e
    refine ⟨⟨vs, v, q, h1⟩, fun x H'' y => ?_⟩
    obtain ⟨e1, y⟩ := y
    subst e1
    have z := y vs q
    rw [h1] at z; cases z
    exact ⟨Ext.refl _, R1, h2⟩
theorem rit_tup {a : Itr} {p : Addr} (h : ∀ m' S' H', m <+: m' → Ext H H' → Rep K m' S' H' → ∃ xs vs, RDs K m' H' xs vs ∧ SqT K H' p vs ∧ ∀ i, a S' i = xs[i]?) : RIt K m H a (Itt K p) := by
  intro m' S' H' p1 e1 R1 i
  obtain ⟨xs, vs, r, q, hi⟩ := h m' S' H' p1 e1 R1
  rw [hi]
  refine ⟨fun e => ⟨vs, q, ?_⟩, fun d e => ?_⟩
  · rw [List.getElem?_eq_none_iff] at e
    rw [← r.length]; exact e
  · obtain ⟨v, h1, h2⟩ := r.get e
    refine ⟨⟨vs, v, q, h1⟩, fun x H'' y => ?_⟩
    obtain ⟨e1, y⟩ := y
    subst e1
    have z := y vs q
    rw [h1] at z; cases z
    exact ⟨Ext.refl _, R1, h2⟩
theorem rit_rng {lo : Int} {n : Nat} : RIt K m H (itRng lo n) (L2.Itr lo n) := by
  intro m' S' H' p1 e1 R1 i
  unfold itRng
  by_cases h : i < n
  · rw [if_pos h]
    refine ⟨fun e => (by cases e), fun d e => ?_⟩
    cases e
    refine ⟨h, fun x H'' y => ?_⟩
    obtain ⟨e1, y⟩ := y
    subst e1 y
    exact ⟨Ext.refl _, R1, .int _⟩
  · rw [if_neg h]
    exact ⟨fun _ => Nat.le_of_not_lt h, fun d e => (by cases e)⟩
theorem rit_enum {a : Itr} {p : Addr} (h : ∀ m' S' H', m <+: m' → Ext H H' → Rep K m' S' H' → ∃ xs vs, RDs K m' H' xs vs ∧ SqL K H' p vs ∧ ∀ i, a S' i = xs[i]?) : RIt K m H (itEnum a) (Ite K p) := by
  intro m' S' H' p1 e1 R1 i
  obtain ⟨xs, vs, r, q, hi⟩ := h m' S' H' p1 e1 R1
  unfold itEnum
  rw [hi]
  refine ⟨fun e => ⟨vs, q, ?_⟩, fun d e => ?_⟩
  · have e : xs[i]? = none := by cases z : xs[i]? <;> simp_all
    rw [List.getElem?_eq_none_iff] at e
    rw [← r.length]; exact e
  · obtain ⟨d0, e0, rfl⟩ := Option.map_eq_some_iff.mp e
    obtain ⟨v, h1, h2⟩ := r.get e0
    refine ⟨⟨vs, v, q, h1⟩, fun x H'' y => ?_⟩
    obtain ⟨T, x0, rfl, hT, rfl, y⟩ := y
    have z := y vs q
    rw [h1] at z; cases z
    exact ⟨Ext.new hT, R1.new hT, .tup (SqT.of upd_same) (.cons (.int _) (.cons (h2.mono (Ext.new hT) (List.prefix_refl _)) .nil))⟩
theorem rit_zip {a b : Itr} {p q : Addr} (h : ∀ m' S' H', m <+: m' → Ext H H' → Rep K m' S' H' → ∃ xs vs, RDs K m' H' xs vs ∧ SqL K H' p vs ∧ ∀ i, a S' i = xs[i]?)
    (h' : ∀ m' S' H', m <+: m' → Ext H H' → Rep K m' S' H' → ∃ xs vs, RDs K m' H' xs vs ∧ SqL K H' q vs ∧ ∀ i, b S' i = xs[i]?) : RIt K m H (itZip a b) (Itz K p q) := by
  intro m' S' H' p1 e1 R1 i
  obtain ⟨xs, vs, r, s, hi⟩ := h m' S' H' p1 e1 R1
  obtain ⟨ys, ws, r', s', hi'⟩ := h' m' S' H' p1 e1 R1
  unfold itZip
  rw [hi, hi']
  cases ex : xs[i]? with
  | none =>
    refine ⟨fun _ => ⟨vs, ws, s, s', .inl ?_⟩, fun d e => by cases e⟩
    rw [List.getElem?_eq_none_iff] at ex
    rw [← r.length]; exact ex
  | some x =>
    cases ey : ys[i]? with
    | none =>
      refine ⟨fun _ => ⟨vs, ws, s, s', .inr ?_⟩, fun d e => by cases e⟩
      rw [List.getElem?_eq_none_iff] at ey
      rw [← r'.length]; exact ey
    | some y =>
      refine ⟨fun e => (by cases e), fun d e => ?_⟩
      cases e
      obtain ⟨v, h1, h2⟩ := r.get ex
      obtain ⟨v', h1', h2'⟩ := r'.get ey
      refine ⟨⟨vs, ws, v, v', s, s', h1, h1'⟩, fun u H'' y => ?_⟩
      obtain ⟨T, x0, y0, rfl, hT, rfl, y1, y2⟩ := y
      have z := y1 vs s
      rw [h1] at z; cases z
      have z := y2 ws s'
      rw [h1'] at z; cases z
      exact ⟨Ext.new hT, R1.new hT, .tup (SqT.of upd_same) (.cons (h2.mono (Ext.new hT) (List.prefix_refl _)) (.cons (h2'.mono (Ext.new hT) (List.prefix_refl _)) .nil))⟩
theorem rit_zipT {a b : Itr} {p q : Addr} (h : ∀ m' S' H', m <+: m' → Ext H H' → Rep K m' S' H' → ∃ xs vs, RDs K m' H' xs vs ∧ SqT K H' p vs ∧ ∀ i, a S' i = xs[i]?)
    (h' : ∀ m' S' H', m <+: m' → Ext H H' → Rep K m' S' H' → ∃ xs vs, RDs K m' H' xs vs ∧ SqT K H' q vs ∧ ∀ i, b S' i = xs[i]?) : RIt K m H (itZip a b) (ItzT K p q) := by
  intro m' S' H' p1 e1 R1 i
  obtain ⟨xs, vs, r, s, hi⟩ := h m' S' H' p1 e1 R1
  obtain ⟨ys, ws, r', s', hi'⟩ := h' m' S' H' p1 e1 R1
  unfold itZip
  rw [hi, hi']
  cases ex : xs[i]? with
  | none =>
    refine ⟨fun _ => ⟨vs, ws, s, s', .inl ?_⟩, fun d e => by cases e⟩
    rw [List.getElem?_eq_none_iff] at ex
    rw [← r.length]; exact ex
  | some x =>
    cases ey : ys[i]? with
    | none =>
      refine ⟨fun _ => ⟨vs, ws, s, s', .inr ?_⟩, fun d e => by cases e⟩
      rw [List.getElem?_eq_none_iff] at ey
      rw [← r'.length]; exact ey
    | some y =>
      refine ⟨fun e => (by cases e), fun d e => ?_⟩
      cases e
      obtain ⟨v, h1, h2⟩ := r.get ex
      obtain ⟨v', h1', h2'⟩ := r'.get ey
      refine ⟨⟨vs, ws, v, v', s, s', h1, h1'⟩, fun u H'' y => ?_⟩
      obtain ⟨T, x0, y0, rfl, hT, rfl, y1, y2⟩ := y
      have z := y1 vs s
      rw [h1] at z; cases z
      have z := y2 ws s'
      rw [h1'] at z; cases z
      exact ⟨Ext.new hT, R1.new hT, .tup (SqT.of upd_same) (.cons (h2.mono (Ext.new hT) (List.prefix_refl _)) (.cons (h2'.mono (Ext.new hT) (List.prefix_refl _)) .nil))⟩
/-- a list by its datum -/
theorem ls_cell {r : Nat} {p : Addr} (hp : m[r]? = some p) : ∀ m' S' H', m <+: m' → Ext H H' → Rep K m' S' H' → ∃ xs vs, RDs K m' H' xs vs ∧ SqL K H' p vs ∧ ∀ i, itLst r S' i = xs[i]? := fun m' S' H' p1 e1 R1 => by
  have hp' := pre_get p1 hp
  have hr : r < S'.length := by rw [← R1.len]; exact (List.getElem?_eq_some_iff.mp hp').1
  obtain ⟨vs, a, b⟩ := R1.at_ r p S'[r] hp' (List.getElem?_eq_getElem hr)
  exact ⟨_, vs, b, SqL.of a, fun i => by unfold itLst; rw [List.getElem?_eq_getElem hr]; rfl⟩
theorem ls_fz {xs : List D} {p : Addr} {vs : List V} (hp : Fz K H p vs) (hx : RDs K m H xs vs) : ∀ m' S' H', m <+: m' → Ext H H' → Rep K m' S' H' → ∃ ys ws, RDs K m' H' ys ws ∧ SqL K H' p ws ∧ ∀ i, itSeq xs S' i = ys[i]? :=
  fun m' S' H' p1 e1 R1 => ⟨xs, vs, hx.mono e1 p1, (hp.mono e1).sql, fun i => rfl⟩
theorem tp_tup {xs : List D} {p : Addr} {vs : List V} (hp : SqT K H p vs) (hx : RDs K m H xs vs) : ∀ m' S' H', m <+: m' → Ext H H' → Rep K m' S' H' → ∃ ys ws, RDs K m' H' ys ws ∧ SqT K H' p ws ∧ ∀ i, itSeq xs S' i = ys[i]? :=
  fun m' S' H' p1 e1 R1 => ⟨xs, vs, hx.mono e1 p1, sqt_mono e1 hp, fun i => rfl⟩
end
section
variable {X : Cx} {W : WX} {tg e : Expr} {es : List Expr} {f : Ev} {g : Av} {p pos tpos : Pos} {elts : List Expr} {kk : Nat}
def itOf (d : D) : Option Itr := match d with
  | .tup xs => some (itSeq xs)
  | .fz xs => some (itSeq xs)
  | .lst r => some (itLst r)
  | _ => none
def iOf (f : Ev) : Iv := fun ρ S => (f ρ S).bind fun d S1 => match itOf d with | some a => .ok a S1 | none => .no
theorem PI.or {t t' : TI} (h : PI X tg e t) (h' : PI X tg e t') : PI X tg e (fun σ H R => t σ H R ∨ t' σ H R) := ⟨fun pins s σ H R I q => by
  rcases q with q | q
  · exact h.run pins s σ H R I q
  · exact h'.run pins s σ H R I q⟩
/-- which of list or tuple an expression gives is seen only behind it -/
theorem pi_any (he : PE X e (tE X.K W f)) : PI X tg e (fun σ H R => tE X.K W f σ H fun x H1 => ∃ a, x = .ref a ∧ ((∃ xs, SqL X.K H1 a xs) ∧ R (Itl X.K a) H1 ∨ (∃ xs, SqT X.K H1 a xs) ∧ R (Itt X.K a) H1)) := by
  refine ⟨fun pins s σ H R I h => ?_⟩
  refine thn (he.run pins s σ H _ I h) fun v s1 ⟨x, H1, I1, r1, q1⟩ => ?_
  obtain ⟨a, rfl, q⟩ := q1
  rcases q with ⟨⟨xs, hq⟩, q⟩ | ⟨⟨xs, hq⟩, q⟩
  · cases r1
    obtain ⟨its, rv, p, hz⟩ := I1.list hq
    refine wpAny_pyIter_list p.isList ?_
    refine ⟨s1.heap.objs.size, [s1.heap.objs.size], _, _, H1, rfl, I1.kept (t' := s1.toks) fun b o e => Heap.get?_push_of_some _ e, turn_list a _, ⟨_, Heap.get?_push_size _ rfl, rfl, rfl⟩, fun b hb => ?_, q⟩
    have e : b = s1.heap.objs.size := by simpa using hb
    subst e
    exact I1.fpOk (Nat.le_refl _) (I1.hok.fresh (Nat.le_refl _))
  · cases r1
    obtain ⟨its, rv, p, hz⟩ := I1.tuple hq
    refine wpAny_pyIter_tuple (show s1.heap.IsTuple a its.toArray from p) ?_
    refine ⟨s1.heap.objs.size, [s1.heap.objs.size], _, _, H1, rfl, I1.kept (t' := s1.toks) fun b o e => Heap.get?_push_of_some _ e, turn_tuple a _, ⟨_, Heap.get?_push_size _ rfl, rfl, rfl⟩, fun b hb => ?_, q⟩
    have e : b = s1.heap.objs.size := by simpa using hb
    subst e
    exact I1.fpOk (Nat.le_refl _) (I1.hok.fresh (Nat.le_refl _))
theorem ei_of (he : EE X W e f) : EI X W tg e (iOf f) := ⟨PI.imp (pi_any he.pe) fun σ H Q ⟨m, S, ρ, R, hσ, h⟩ =>
  ⟨m, S, ρ, R, hσ, h.bind fun d S1 v H1 m1 e1 p1 R1 d1 h1 => by
    cases d1 with
    | tup a b => exact ⟨_, rfl, .inr ⟨⟨_, a⟩, h1.ok R1 (rit_tup (tp_tup a b))⟩⟩
    | fz a b => exact ⟨_, rfl, .inl ⟨⟨_, a.sql⟩, h1.ok R1 (rit_lst (ls_fz a b))⟩⟩
    | lst hp =>
      obtain ⟨xs, vs, _, q, _⟩ := ls_cell (H := H1) hp m1 S1 H1 (List.prefix_refl _) (Ext.refl _) R1
      exact ⟨_, rfl, .inl ⟨⟨_, q⟩, h1.ok R1 (rit_lst (ls_cell hp))⟩⟩
    | _ => exact h1.elim⟩⟩
def iRng1 (g : Av) : Iv := fun ρ S => (g ρ S).bind fun ds S1 => match ds with
  | [.int j] => if -(2 ^ 62) ≤ j ∧ j < 2 ^ 62 then .ok (itRng 0 j.toNat) S1 else .no
  | _ => .no
def iRng2 (g : Av) : Iv := fun ρ S => (g ρ S).bind fun ds S1 => match ds with
  | [.int i, .int j] => if -(2 ^ 62) ≤ i ∧ i < 2 ^ 62 ∧ -(2 ^ 62) ≤ j ∧ j < 2 ^ 62 then .ok (itRng i (j - i).toNat) S1 else .no
  | _ => .no
theorem ei_range1 (hg : Gl X "range") (hm : X.mg "range" = none) (ha : EA X W [e] g) (hs : starEach [e] X.env = [(false, eval e X.env)] := by rfl) : EI X W tg (.Call (.Name "range" p) [e] [] pos) (iRng1 g) := ⟨PI.imp (pi_range1 hg hm ha.pa hs) fun σ H Q ⟨m, S, ρ, R, hσ, h⟩ =>
  ⟨m, S, ρ, R, hσ, h.bind fun ds S1 vs H1 m1 e1 p1 R1 d1 h1 => by
    split at h1
    · obtain ⟨v, rfl, r⟩ := d1.one_inv
      split at h1
      · rename_i hb
        exact ⟨_, by rw [r.int_inv], hb.1, hb.2, h1.ok R1 rit_rng⟩
      · exact h1.elim
    · exact h1.elim⟩⟩
theorem ei_range2 {e2 : Expr} (hg : Gl X "range") (hm : X.mg "range" = none) (ha : EA X W [e, e2] g) (hs : starEach [e, e2] X.env = [(false, eval e X.env), (false, eval e2 X.env)] := by rfl) (hs2 : starEach [e2] X.env = [(false, eval e2 X.env)] := by rfl) :
    EI X W tg (.Call (.Name "range" p) [e, e2] [] pos) (iRng2 g) := ⟨PI.imp (pi_range2 hg hm ha.pa hs hs2) fun σ H Q ⟨m, S, ρ, R, hσ, h⟩ =>
  ⟨m, S, ρ, R, hσ, h.bind fun ds S1 vs H1 m1 e1 p1 R1 d1 h1 => by
    split at h1
    · obtain ⟨v, w, rfl, r, r'⟩ := d1.two_inv
      split at h1
      · rename_i hb
        exact ⟨_, _, by rw [r.int_inv, r'.int_inv], hb, h1.ok R1 rit_rng⟩
      · exact h1.elim
    · exact h1.elim⟩⟩
def iEnumE (g : Av) : Iv := fun ρ S => (g ρ S).bind fun ds S1 => match ds with
  | [.lst r] => .ok (itEnum (itLst r)) S1
  | [.fz xs] => .ok (itEnum (itSeq xs)) S1
  | _ => .no
theorem ei_enum (hg : Gl X "enumerate") (hm : X.mg "enumerate" = none) (ha : EA X W [e] g) (hs : starEach [e] X.env = [(false, eval e X.env)] := by rfl) : EI X W (.Tuple elts kk tpos) (.Call (.Name "enumerate" p) [e] [] pos) (iEnumE g) := ⟨PI.imp (pi_enum hg hm ha.pa hs) fun σ H Q ⟨m, S, ρ, R, hσ, h⟩ =>
  ⟨m, S, ρ, R, hσ, h.bind fun ds S1 vs H1 m1 e1 p1 R1 d1 h1 => by
    split at h1
    · obtain ⟨v, rfl, r⟩ := d1.one_inv
      obtain ⟨p, rfl, hp⟩ := r.lst_inv
      obtain ⟨xs, vs, _, q, _⟩ := ls_cell (H := H1) hp m1 S1 H1 (List.prefix_refl _) (Ext.refl _) R1
      exact ⟨p, vs, rfl, q, h1.ok R1 (rit_enum (ls_cell hp))⟩
    · obtain ⟨v, rfl, r⟩ := d1.one_inv
      obtain ⟨p, vs, rfl, hp, hx⟩ := r.fz_inv
      exact ⟨p, vs, rfl, hp.sql, h1.ok R1 (rit_enum (ls_fz hp hx))⟩
    · exact h1.elim⟩⟩
def isL : D → Option Itr | .lst r => some (itLst r) | .fz xs => some (itSeq xs) | _ => none
def isT : D → Option Itr | .tup xs => some (itSeq xs) | _ => none
def iZipE (g : Av) : Iv := fun ρ S => (g ρ S).bind fun ds S1 => match ds with
  | [a, b] => match isL a, isL b with
    | some x, some y => .ok (itZip x y) S1
    | _, _ => match isT a, isT b with
      | some x, some y => .ok (itZip x y) S1
      | _, _ => .no
  | _ => .no
theorem isL_at {K : PySem.W.Frag} {m : List Addr} {H : Hp} {S : Store} {d : D} {v : V} {a : Itr} (R : Rep K m S H) (r : RD K m H d v) (h : isL d = some a) : ∃ p vs, v = .ref p ∧ SqL K H p vs ∧ ∀ m' S' H', m <+: m' → Ext H H' → Rep K m' S' H' → ∃ xs vs, RDs K m' H' xs vs ∧ SqL K H' p vs ∧ ∀ i, a S' i = xs[i]? := by
  cases r with
  | lst hp =>
    cases h
    obtain ⟨xs, vs, _, q, _⟩ := ls_cell (H := H) hp m S H (List.prefix_refl _) (Ext.refl _) R
    exact ⟨_, vs, rfl, q, ls_cell hp⟩
  | fz hp hx => cases h; exact ⟨_, _, rfl, hp.sql, ls_fz hp hx⟩
  | _ => cases h
theorem isT_at {K : PySem.W.Frag} {m : List Addr} {H : Hp} {d : D} {v : V} {a : Itr} (r : RD K m H d v) (h : isT d = some a) : ∃ p vs, v = .ref p ∧ SqT K H p vs ∧ ∀ m' S' H', m <+: m' → Ext H H' → Rep K m' S' H' → ∃ xs vs, RDs K m' H' xs vs ∧ SqT K H' p vs ∧ ∀ i, a S' i = xs[i]? := by
  cases r with
  | tup hp hx => cases h; exact ⟨_, _, rfl, hp, tp_tup hp hx⟩
  | _ => cases h
theorem ei_zip {e2 : Expr} (hg : Gl X "zip") (hm : X.mg "zip" = none) (ha : EA X W [e, e2] g) (hs : starEach [e, e2] X.env = (false, eval e X.env) :: starEach [e2] X.env := by rfl) (hpl : (backTo pos (starEach [e2] X.env)).any (·.1) = false := by rfl) :
    EI X W (.Tuple elts kk tpos) (.Call (.Name "zip" p) [e, e2] [] pos) (iZipE g) := ⟨PI.imp (pi_zipA hg hm ha.pa hs hpl) fun σ H Q ⟨m, S, ρ, R, hσ, h⟩ =>
  ⟨m, S, ρ, R, hσ, h.bind fun ds S1 vs H1 m1 e1 p1 R1 d1 h1 => by
    split at h1
    · rename_i a b
      obtain ⟨v, w, rfl, r, r'⟩ := d1.two_inv
      split at h1
      · rename_i x y ha hb
        obtain ⟨p, vs, rfl, q, hq⟩ := isL_at R1 r ha
        obtain ⟨p', vs', rfl, q', hq'⟩ := isL_at R1 r' hb
        exact ⟨p, p', vs, vs', rfl, .inl ⟨q, q', h1.ok R1 (rit_zip hq hq')⟩⟩
      · split at h1
        · rename_i x y ha hb
          obtain ⟨p, vs, rfl, q, hq⟩ := isT_at r ha
          obtain ⟨p', vs', rfl, q', hq'⟩ := isT_at r' hb
          exact ⟨p, p', vs, vs', rfl, .inr ⟨q, q', h1.ok R1 (rit_zipT hq hq')⟩⟩
        · exact h1.elim
    · exact h1.elim⟩⟩
end
/-! ### for -/
def sForGo (a : Itr) (t : NT) (b : Sv) : Nat → Nat → Sv
  | 0, _ => fun _ _ => .no
  | n + 1, i => fun ρ S => match a S i with
    | none => .nx ρ S
    | some d => match t.b d ρ with
      | none => .no
      | some ρ1 => match b ρ1 S with
        | .nx ρ2 S2 => sForGo a t b n (i + 1) ρ2 S2
        | .ct ρ2 S2 => sForGo a t b n (i + 1) ρ2 S2
        | .bk ρ2 S2 => .nx ρ2 S2
        | o => o
def sFor (it : Iv) (t : NT) (b : Sv) : Sv := fun ρ S => (it ρ S).st ρ fun a S1 => sForGo a t b fuel 0 ρ S1
section
variable {X : Cx} {W : WX} {tg iter : Expr} {body : List Stmt} {it : Iv} {t : NT} {b : Sv} {pos : Pos}
theorem es_for (hp : PassesOwn (model X.prog X.w) X.A X.env X.xe) (hc : X.calm = true) (hi : EI X W tg iter it) (hg : EN X tg t) (hb : ESs X W body b) (hs : ∀ x, foldedSetIterable iter X.env x = pure x := by intro _; rfl) :
    ES X W (.For tg iter body [] pos) (sFor it t b) := ⟨PS.imp (ps_for hp hc hi.pi hg.pg hb.pss hs) fun D σ H ⟨m, S, ρ, R, hσ, h⟩ =>
  ⟨m, S, ρ, R, hσ, PostS.st h hσ fun a S1 J H1 m1 e1 p1 R1 d1 h1 => by
    refine ⟨fun i n σ H => ∃ m' S' ρ', m1 <+: m' ∧ Ext H1 H ∧ Rep X.K m' S' H ∧ RS X.K m' H ρ' σ ∧ PostS X.K W m' H (sForGo a t b n i ρ' S') D, ⟨fuel, m1, S1, ρ, List.prefix_refl _, Ext.refl _, R1, hσ.mono e1 p1, h1⟩, ?_⟩
    rintro i n σ H ⟨m', S', ρ', p2, e2, R2, hσ2, h2⟩
    cases n with
    | zero => exact h2.elim
    | succ n =>
      unfold sForGo at h2
      have ri := d1 m' S' H p2 e2 R2 i
      cases ea : a S' i with
      | none =>
        rw [ea] at h2
        exact .inl ⟨ri.1 ea, nx_of h2 R2 hσ2⟩
      | some d =>
        rw [ea] at h2
        obtain ⟨go, yl⟩ := ri.2 d ea
        refine .inr ⟨go, fun σ' H' => ∃ m' S' ρ', m1 <+: m' ∧ Ext H1 H' ∧ Rep X.K m' S' H' ∧ RS X.K m' H' ρ' σ' ∧ PostS X.K W m' H' (sForGo a t b n (i + 1) ρ' S') D, fun σ' H' q => ⟨n, Nat.lt_succ_self _, q⟩, fun x H' y => ?_⟩
        obtain ⟨e3, R3, rx⟩ := yl x H' y
        dsimp only at h2
        cases eb : t.b d ρ' with
        | none => rw [eb] at h2; exact h2.elim
        | some ρ1 =>
          rw [eb] at h2
          obtain ⟨σ', hσ', hQ, _⟩ := NT.run t eb (hσ2.mono e3 (List.prefix_refl _)) rx
          refine hQ _ ⟨m', S', ρ1, R3, hσ', ?_⟩
          dsimp only at h2
          cases q : b ρ1 S' with
          | nx ρ2 S2 => rw [q] at h2; exact fun σ'' H'' m'' e4 p4 R4 h4 => ⟨m'', S2, ρ2, p2.trans p4, (e2.trans e3).trans e4, R4, h4, PostS.at (e3.trans e4) p4 h2⟩
          | ct ρ2 S2 => rw [q] at h2; exact fun σ'' H'' m'' e4 p4 R4 h4 => ⟨m'', S2, ρ2, p2.trans p4, (e2.trans e3).trans e4, R4, h4, PostS.at (e3.trans e4) p4 h2⟩
          | bk ρ2 S2 => rw [q] at h2; exact PostS.at e3 (List.prefix_refl _) h2
          | rt d S2 => rw [q] at h2; exact PostS.at e3 (List.prefix_refl _) h2
          | exc c ρ2 S2 => rw [q] at h2; exact PostS.at e3 (List.prefix_refl _) h2
          | no => rw [q] at h2; exact h2⟩⟩
end
/-! ### comprehensions -/
def Res.nox {α : Type} : Res α → Res α
  | .ok a S => .ok a S
  | _ => .no
@[simp] theorem nox_ok {α : Type} (a : α) (S : Store) : (Res.ok a S).nox = .ok a S := rfl
def wipeL (ρ : Loc) : List Nat → Loc
  | [] => ρ
  | v :: vs => (wipeL ρ vs).set v none
def lcGo (a : Itr) (t : NT) (c : Tv) (f : Ev) (ρ : Loc) (r : Nat) : Nat → Nat → Store → Res Unit
  | 0, _, _ => .no
  | n + 1, i, S => match a S i with
    | none => .ok () S
    | some d => match t.b d ρ with
      | none => .no
      | some ρ1 => (c ρ1 S).nox.bind fun k S2 => if k = true then (f ρ1 S2).nox.bind fun x S3 => match S3[r]? with
          | some acc => if acc.length < lim then lcGo a t c f ρ r n (i + 1) (S3.set r (acc ++ [x])) else .no
          | none => .no
        else lcGo a t c f ρ r n (i + 1) S2
def eLc (vs : List Nat) (it : Iv) (t : NT) (c : Tv) (f : Ev) : Ev := fun ρ S => (it ρ S).bind fun a S1 => (lcGo a t c f (wipeL ρ vs) S1.length fuel 0 (S1 ++ [[]])).bind fun _ S2 => .ok (.lst S1.length) S2
abbrev W0 : WX := fun _ _ _ _ => False
structure ETs (X : Cx) (ifs : List Expr) (f : Tv) : Prop where
  pt : PTs X ifs (tT X.K W0 f)
theorem PTs.imp {X : Cx} {e : List Expr} {t t' : TT} (h : PTs X e t) (i : ∀ σ H Q, t' σ H Q → t σ H Q) : PTs X e t' := ⟨fun pins s σ H Q I q => h.run pins s σ H Q I (i σ H Q q)⟩
def tvYes : Tv := fun _ S => .ok true S
theorem ets_nil {X : Cx} : ETs X [] tvYes := ⟨PTs.imp pts_nil fun σ H Q ⟨m, S, ρ, R, hσ, h⟩ => PostR.ok (R := fun _ _ a b => a = b) h R rfl⟩
theorem ets_one {X : Cx} {e : Expr} {f : Tv} (h : ET X W0 e f) : ETs X [e] f := ⟨pts_one h.pt⟩
theorem RS.wipe {K : PySem.W.Frag} {m : List Addr} {H : Hp} {ρ : Loc} {σ : L2.St} (h : RS K m H ρ σ) : ∀ vs, RS K m H (wipeL ρ vs) (wipe σ vs)
  | [] => h
  | v :: vs => (RS.wipe h vs).unset v
theorem PostR.nox {α β : Type} {K : PySem.W.Frag} {R : Rl α β} {m : List Addr} {H : Hp} {x : Res α} {Q : β → Hp → Prop} {Wc Wc' : Addr → Hp → Prop} (h : PostR K R m H x.nox Q Wc) : PostR K R m H x Q Wc' := by
  cases x with
  | ok a S => exact h
  | exc c S => exact h.elim
  | no => exact h.elim
section
variable {X : Cx} {W : WX} {tg iter elt : Expr} {ifs : List Expr} {scope : Scope} {own : List (Str × Nat)} {it : Iv} {t : NT} {c : Tv} {f : Ev} {pos : Pos}
theorem lc_imp (hw : ∀ i ∈ t.ns, i ∈ own.map (·.2)) : ∀ σ H Q, tE X.K W (eLc (own.map (·.2)) it t c f) σ H Q → tLc (tG X.K (RIt X.K) W it) (ntT X.K t) (tT X.K W0 c) (tE X.K W0 f) (own.map (·.2)) σ H Q := fun σ H Q ⟨m, S, ρ, R, hσ, h⟩ =>
  ⟨m, S, ρ, R, hσ, h.bind fun a S1 J H1 m1 e1 p1 R1 d1 h1 => fun D hD => by
    have hσ1 := hσ.mono e1 p1
    have RD0 := R1.alloc hD (RDs.nil (K := X.K) (m := m1) (H := H1))
    have pD : m1 <+: m1 ++ [D] := List.prefix_append _ _
    have eD : Ext H1 (upd H1 D (.lst [])) := Ext.new hD
    have hrD : (m1 ++ [D])[S1.length]? = some D := by rw [← R1.len, List.getElem?_append_right (Nat.le_refl _)]; simp
    refine ⟨fun i n H => ∃ m' S', (m1 ++ [D]) <+: m' ∧ Ext (upd H1 D (.lst [])) H ∧ Rep X.K m' S' H ∧ PostR X.K (RD X.K) m' H ((lcGo a t c f (wipeL ρ (own.map (·.2))) S1.length n i S').bind fun _ S2 => .ok (.lst S1.length) S2) Q (fun c H' => W (.ref c) none σ H'),
      ⟨fuel, m1 ++ [D], S1 ++ [[]], List.prefix_refl _, Ext.refl _, RD0, PostR.at eD pD h1⟩, ?_⟩
    rintro i n H ⟨m', S', p2, e2, R2, h2⟩
    cases n with
    | zero => exact h2.elim
    | succ n =>
      unfold lcGo at h2
      have ri := d1 m' S' H (pD.trans p2) (eD.trans e2) R2 i
      have hr' : m'[S1.length]? = some D := pre_get p2 hrD
      cases ea : a S' i with
      | none =>
        rw [ea] at h2
        exact .inl ⟨ri.1 ea, h2.ok R2 (.lst hr')⟩
      | some d =>
        rw [ea] at h2
        obtain ⟨go, yl⟩ := ri.2 d ea
        refine .inr ⟨go, fun H' => ∃ m' S', (m1 ++ [D]) <+: m' ∧ Ext (upd H1 D (.lst [])) H' ∧ Rep X.K m' S' H' ∧ PostR X.K (RD X.K) m' H' ((lcGo a t c f (wipeL ρ (own.map (·.2))) S1.length n (i + 1) S').bind fun _ S2 => .ok (.lst S1.length) S2) Q (fun c H' => W (.ref c) none σ H'), fun H' q => ⟨n, Nat.lt_succ_self _, q⟩, fun x H' y => ?_⟩
        obtain ⟨e3, R3, rx⟩ := yl x H' y
        have hσ3 := ((hσ1.mono eD pD).mono e2 p2).mono e3 (List.prefix_refl _)
        dsimp only at h2
        cases eb : t.b d (wipeL ρ (own.map (·.2))) with
        | none => rw [eb] at h2; exact h2.elim
        | some ρ1 =>
          rw [eb] at h2
          obtain ⟨σ', hσ', hQ, hwp⟩ := NT.run t eb (hσ3.wipe (own.map (·.2))) rx
          refine hQ _ ⟨by rw [hwp _ hw]; exact wipe_wipe σ _, ?_⟩
          refine ⟨m', S', ρ1, R3, hσ', ?_⟩
          have h3 := PostR.at e3 (List.prefix_refl _) h2
          have assoc : ∀ {α β γ : Type} (x : Res α) (g : α → Store → Res β) (k : β → Store → Res γ), (x.bind g).bind k = x.bind fun a S => (g a S).bind k := fun x g k => by cases x <;> rfl
          rw [assoc] at h3
          refine PostR.nox (h3.bind fun k S4 k' H4 m4 e4 p4 R4 d4 h4 => ?_)
          subst d4
          have e24 : Ext (upd H1 D (.lst [])) H4 := (e2.trans e3).trans e4
          cases k with
          | false => exact iteF ⟨m4, S4, p2.trans p4, e24, R4, h4⟩
          | true =>
            refine iteT ⟨m4, S4, ρ1, R4, hσ'.mono e4 p4, ?_⟩
            rw [if_pos rfl, assoc] at h4
            refine PostR.nox (h4.bind fun z S5 y5 H5 m5 e5 p5 R5 d5 h5 => ?_)
            have hr5 : m5[S1.length]? = some D := pre_get p5 (pre_get p4 hr')
            cases q5 : S5[S1.length]? with
            | none => rw [q5] at h5; exact h5.elim
            | some acc =>
              rw [q5] at h5
              obtain ⟨vs, a1, a2⟩ := R5.cellAt q5 hr5
              dsimp only at h5
              split at h5
              · rename_i hl
                refine ⟨vs, a1, lim_lt (by rw [← a2.length]; exact hl), m5, _, (p2.trans p4).trans p5, (e24.trans e5).trans (Ext.lst a1), R5.write hr5 a1 (a2.append (.cons d5 .nil)), PostR.at (Ext.lst a1) (List.prefix_refl _) h5⟩
              · exact h5.elim⟩
where
  wipe_wipe (σ : L2.St) (vs : List Nat) : wipe (wipe σ vs) vs = wipe σ vs := by
    apply List.ext_getElem?
    intro j
    rw [wipe_get, wipe_length, wipe_get]
    by_cases h : j ∈ vs <;> simp [h]
end
end Sd
/-! Sd7: comprehensions as values, raise, try, a def by its body. -/
namespace Sd
open PySem PySem.Spec PyProof.Rows L2 RZ
section
variable {X : Cx} {W : WX} {tg iter elt : Expr} {ifs : List Expr} {scope : Scope} {it : Iv} {t : NT} {c : Tv} {f : Ev} {pos : Pos}
theorem ee_lc (own : List (Str × Nat)) (hc : X.calm = true) (hN : X.N.Nodup) (hi : EI X W tg iter it) (ok : blkC X.N X.env.scope scope own = true)
    (hg : ∀ (s : Shared) (H : Hp) (C : Addr) (cl : List (Str × Addr)) (fp : List Addr), EN (X.blk s H scope (compEnvC scope cl C X.env) fp) tg t) (ht : ∀ (s : Shared) (H : Hp) (C : Addr) (cl : List (Str × Addr)) (fp : List Addr), ETs (X.blk s H scope (compEnvC scope cl C X.env) fp) ifs c)
    (he : ∀ (s : Shared) (H : Hp) (C : Addr) (cl : List (Str × Addr)) (fp : List Addr), EE (X.blk s H scope (compEnvC scope cl C X.env) fp) W0 elt f) (hw : (t.ns.all fun i => (own.map (·.2)).contains i) = true := by rfl) (hs : ∀ x, foldedSetIterable iter X.env x = pure x := by intro _; rfl) :
    EE X W (.ListComp elt [⟨tg, iter, ifs, 0⟩] scope pos) (eLc (own.map (·.2)) it t c f) :=
  ⟨PE.imp (pe_lc hc hN hi.pi (blkOk_by ok) (fun s H C cl fp => (hg s H C cl fp).pg) (fun s H C cl fp => (ht s H C cl fp).pt) (fun s H C cl fp => (he s H C cl fp).pe) hs) (lc_imp fun i hi => by
    have := List.all_eq_true.mp hw i hi
    simpa using this)⟩
/-- y = [..] on one line, y a local -/
theorem es_setLc (own : List (Str × Nat)) (i : Nat) {y : Str} {py spos : Pos} (hc : X.calm = true) (hN : X.N.Nodup) (hi : EI X W tg iter it) (ok : blkC X.N X.env.scope scope own = true)
    (hg : ∀ (s : Shared) (H : Hp) (C : Addr) (cl : List (Str × Addr)) (fp : List Addr), EN (X.blk s H scope (compEnvC scope cl C X.env) fp) tg t) (ht : ∀ (s : Shared) (H : Hp) (C : Addr) (cl : List (Str × Addr)) (fp : List Addr), ETs (X.blk s H scope (compEnvC scope cl C X.env) fp) ifs c)
    (he : ∀ (s : Shared) (H : Hp) (C : Addr) (cl : List (Str × Addr)) (fp : List Addr), EE (X.blk s H scope (compEnvC scope cl C X.env) fp) W0 elt f) (hk : X.env.scope.kind = .function := by rfl) (hy : X.N[i]? = some y := by rfl) (hyl : X.env.scope.names.lookup y = some .local := by rfl) (hl : (py.line == pos.line) = true := by rfl)
    (ha : (scope.names.any fun (n, k) => n == y && (k == .local || k == .cell)) = false := by decide +kernel) (hw : (t.ns.all fun i => (own.map (·.2)).contains i) = true := by rfl) (hs : ∀ x, foldedSetIterable iter X.env x = pure x := by intro _; rfl) :
    ES X W (.Assign [.Name y py] (.ListComp elt [⟨tg, iter, ifs, 0⟩] scope pos) spos) (sSet i (eLc (own.map (·.2)) it t c f)) :=
  ⟨PS.imp (ps_setLc hc hN hy hyl (sw_true hk hyl hl ha) hi.pi (blkOk_by ok) (fun s H C cl fp => (hg s H C cl fp).pg) (fun s H C cl fp => (ht s H C cl fp).pt) (fun s H C cl fp => (he s H C cl fp).pe) hs) (set_imp (lc_imp fun i hi => by
    have := List.all_eq_true.mp hw i hi
    simpa using this))⟩
theorem okx_blk {k : Nat} {s : Shared} {H : Hp} {C : Addr} {cl : List (Str × Addr)} {fp : List Addr} (O : Okx X W k) : Okx (X.blk s H scope (compEnvC scope cl C X.env) fp) W0 k := ⟨takes0, O.calm, O.room, O.nd⟩
end
/-! ### raise -/
/-- X() -/
theorem pmk_own0 {X : Cx} {C : Addr} {bmB : List Value} {B newId initId : String} {x : Str} {p pos : Pos} (F : ExcBaseFacts B newId initId bmB) (q : PySem.W.excIn X.K C bmB newId = true) (gC : X.mg x = some (.ref C)) (kC : PySem.W.keepIn X.K (.ref C) = true) (r : Raises X (.ref C)) (hg : Gl X x)
    (hdb : (x == ("__debug__" : Str)) = false := by decide) : PMk X (.Call (.Name x p) [] [] pos) (fun _ H Q => Q (.ref C) none H) := by
  intro pins s σ H Q I h
  refine wpAny_Call_Name_kw (ld_glob I hg gC ?_ hdb)
  refine PySem.W.callWith_K0 I.kIn kC ?_
  obtain ⟨bm, N, nm, qn, bs, hdct, sn, sub, ab, col, dd, k0, k1, k2, k3, k5, mN, hC, hN, hni, T⟩ := exc_obj I.kIn q
  refine wpAny_call_exc_subT F T hC hN hni (fun h' e hm => ?_) (by show 0 ≤ sizeLine; exact Nat.zero_le _)
  exact mk_of I hm r h (I.hok.gone hm.new)
/-- a class of the program's own that may be raised and caught -/
structure ExD (K : PySem.W.Frag) (mg : Str → Option Value) (x : Str) (C : Addr) : Prop where
  mg : mg x = some (.ref C)
  ex : PySem.W.excIn K C [.type "ValueError", .type "Exception", .type "BaseException", .type "object"] "ValueError.__new__" = true
  kp : PySem.W.keepIn K (.ref C) = true
  sb : PySem.W.subIn K (.ref C) (.type "BaseException") = some true
  ty : PySem.W.typeIn K (.ref C) = some (.type "type")
def sRaise (C : Addr) : Sv := fun ρ S => .exc C ρ S
theorem es_raise {X : Cx} {W : WX} {k : Nat} {x : Str} {C : Addr} {p pos pos2 : Pos} (O : Okx X W k) (T : ExD X.K X.mg x C) (hg : Gl X x := by rfl) (hdb : (x == ("__debug__" : Str)) = false := by decide) : ES X W (.Raise (some (.Call (.Name x p) [] [] pos)) none pos2) (sRaise C) :=
  ⟨PS.imp (ps_raise O.calm O.tk (pmk_own0 PySem.F.excBase_ValueError T.ex T.mg T.kp (raises_own T.sb T.ty) hg hdb)) fun D σ H ⟨m, S, ρ, R, hσ, h⟩ => h σ H m (Ext.refl _) (List.prefix_refl _) R hσ⟩
/-! ### try .. except X as n: caught = [word, isinstance(n, ValueError)] -/
structure CtD (K : PySem.W.Frag) (C : Addr) : Prop where
  ec : ExcC K C
  em : PySem.W.exmOne K (.ref C) (.ref C) = some true
  ve : PySem.W.kitOne K (.ref C) (.type "ValueError") = some true
def sTry1 (b : Sv) (C : Addr) (i j : Nat) (word : Str) : Sv := fun ρ S => match b ρ S with
  | .exc c ρ' S' => if c = C ∧ i < ρ'.length then .nx ((ρ'.set j (some (.lst S'.length))).set i none) (S' ++ [[.str word, .bl true]]) else .no
  | o => o
theorem es_try1 {X : Cx} {W : WX} {x n y : Str} {C : Addr} (i j : Nat) {word : Str} {body : List Stmt} {b : Sv} {np pos pos' py p1 p2 p3 p4 p5 p6 p7 : Pos} {k1 : Nat} (hs : X.stack = X.env :: X.outer) (hf : X.env.frame = some X.env.locals) (hN : X.N.Nodup) (T : ExD X.K X.mg x C) (T2 : CtD X.K C)
    (hmi : X.mg "isinstance" = none) (hmv : X.mg "ValueError" = none)
    (hb : ∀ (W : WX) (pn : List (Addr × Obj)) (xe : Value → Shared → Prop), Takes (X.tr pn xe) W → PassesOwn (model X.prog X.w) X.A X.env xe → ESs (X.tr pn xe) W body b)
    (hi : X.N[i]? = some n := by rfl) (hln : X.env.kindOf n = some .local := by rfl) (hj : X.N[j]? = some y := by rfl) (hlj : X.env.scope.names.lookup y = some .local := by rfl) (hg : Gl X x := by rfl) (hgi : Gl X "isinstance" := by rfl) (hgv : Gl X "ValueError" := by rfl) (hij : i ≠ j := by decide)
    (hdx : (x == ("__debug__" : Str)) = false := by decide) (hd : (n == ("__debug__" : Str)) = false := by decide) (hcd : (n == ("__classdict__" : Str)) = false := by decide)
    (hsw : swapsWith (.List [.Constant (.str word) k1 p1, .Call (.Name "isinstance" p2) [.Name n p3, .Name "ValueError" p4] [] p5] p6) (some (.Name y py)) p7.line X.env = pure false := by rfl)
    (he1 : starEach [.Constant (.str word) k1 p1, .Call (.Name "isinstance" p2) [.Name n p3, .Name "ValueError" p4] [] p5] X.env = (false, eval (.Constant (.str word) k1 p1) X.env) :: starEach [.Call (.Name "isinstance" p2) [.Name n p3, .Name "ValueError" p4] [] p5] X.env := by rfl)
    (he2 : starEach [.Call (.Name "isinstance" p2) [.Name n p3, .Name "ValueError" p4] [] p5] X.env = (false, eval (.Call (.Name "isinstance" p2) [.Name n p3, .Name "ValueError" p4] [] p5) X.env) :: starEach [] X.env := by rfl)
    (he3 : starEach [.Name n p3, .Name "ValueError" p4] X.env = (false, eval (.Name n p3) X.env) :: starEach [.Name "ValueError" p4] X.env := by rfl)
    (he4 : starEach [.Name "ValueError" p4] X.env = (false, eval (.Name "ValueError" p4) X.env) :: starEach [] X.env := by rfl)
    (hpl : (backTo p5 (starEach [.Name "ValueError" p4] X.env)).any (·.1) = false := by rfl) :
    ES X W (.Try body [.ExceptHandler (some (.Name x np)) (some n) [.Assign [.Name y py] (.List [.Constant (.str word) k1 p1, .Call (.Name "isinstance" p2) [.Name n p3, .Name "ValueError" p4] [] p5] p6) p7] pos'] [] [] pos) (sTry1 b C i j word) := by
  refine ⟨PS.imp (ps_try_as (Wout := W0) (tb := fun W => tS X.K W b) (ts := fun a cls d => fun D σ H => cls = .ref C ∧ d = none ∧ σ[i]? = some (some (.ref a)) ∧ ∀ p, H p = none → D.nx (σ.set j (some (.ref p))) (upd H p (.lst [.str word, .bl true]))) hs hf hN hi hln ⟨hg, hdx, .inl T.mg⟩ takes0 (fun W pn xe tk po => (hb W pn xe tk po).pss) (fun a oe cls d pn hz hfv => ?_)) fun D σ H ⟨m, S, ρ, R, hσ, h⟩ => ?_⟩
  · refine ⟨fun pins s σ H D I ⟨ec, ed, hsi, q⟩ => ?_⟩
    subst ec ed
    have hlc : L2.Loc X.env.scope y := .inl hlj
    have hv : Vis X.env.scope n := .inl hln
    exact (pss_one (ps_set (X := X.suite a ((a, oe) :: pn)) (i := j) hN hj hlc (pe_lst (pa_cons pe_str (pa_cons (pe_callB (call_isE T2.ec hz hfv) hgi hmi (by decide +kernel) (pa_cons (pe_var hi hv hd hcd) (pa_cons (pe_bltn (v := .ty "ValueError") hgv hmv (by decide +kernel) rfl) pa_nil he4) he3) (by decide) (by decide) he3 hpl) pa_nil he2) he1)) hsw (.inr hlj))).run pins s σ H D I
      ⟨_, hsi, _, .type "ValueError", true, rfl, fun u r => r, T2.ve, by show 2 ≤ sizeLine; rw [sizeLine_eq]; decide, fun p hp => q p hp⟩
  · refine ⟨m, S, ρ, R, hσ, ?_⟩
    unfold sTry1 at h
    cases q : b ρ S with
    | exc c ρ' S' =>
      rw [q] at h
      dsimp only at h
      split at h
      · rename_i e
        obtain ⟨e, hlen⟩ := e
        subst e
        refine fun σ' H' m' e1 p1 R1 h1 => ⟨true, T2.em, fun _ a ha => ?_, fun z => by cases z⟩
        have hil : i < σ'.length := by rw [← h1.1]; exact hlen
        refine ⟨rfl, rfl, List.getElem?_set_self hil, fun p hp => ?_⟩
        have al := R1.alloc hp (RDs.cons (RD.str word) (RDs.cons (RD.bl true) (RDs.nil (K := X.K) (m := m') (H := H'))))
        have pre : m' <+: m' ++ [p] := List.prefix_append _ _
        have ex : Ext H' (upd H' p (.lst [.str word, .bl true])) := Ext.new hp
        refine h _ _ (m' ++ [p]) (e1.trans ex) (p1.trans pre) al ?_
        have hlst : RD X.K (m' ++ [p]) (upd H' p (.lst [.str word, .bl true])) (.lst S'.length) (.ref p) := .lst (by rw [← R1.len, List.getElem?_append_right (Nat.le_refl _)]; simp)
        have z := ((h1.mono ex pre).set hlst j).unset i
        have e3 : ((σ'.set i (some (.ref a))).set j (some (.ref p))).set i none = (σ'.set j (some (.ref p))).set i none := by
          rw [List.set_comm _ _ hij, List.set_set]
        rw [e3]
        exact z
      · exact h.elim
    | nx ρ' S' => rw [q] at h; exact h
    | rt d S' => rw [q] at h; exact h
    | bk ρ' S' => rw [q] at h; exact h
    | ct ρ' S' => rw [q] at h; exact h
    | no => rw [q] at h; exact h
/-! ### a def by its body -/
def SRes.res : SRes → Res D
  | .nx _ S => .ok .non S
  | .rt d S => .ok d S
  | .exc c _ S => .exc c S
  | _ => .no
def st0 (n : Nat) (ds : List D) : Loc := ds.map some ++ List.replicate (n - ds.length) none
def fnOf (n k : Nat) (b : Sv) : Fv := fun ds S => if ds.length = n then (b (st0 k ds) S).res else .no
structure Oks (X : Cx) (W : WX) (k : Nat) : Prop extends Okx X W k where
  po : PassesOwn (model X.prog X.w) X.A X.env X.xe
theorem RDs.map_some {K : PySem.W.Frag} {m : List Addr} {H : Hp} {ds : List D} {vs : List V} (h : RDs K m H ds vs) (n : Nat) : RS K m H (st0 n ds) (vs.map some ++ List.replicate (n - vs.length) none) := by
  have l := h.length
  refine ⟨by unfold st0; simp [l], fun i d e => ?_⟩
  unfold st0 at e
  by_cases hi : i < ds.length
  · rw [List.getElem?_append_left (by simpa using hi), List.getElem?_map] at e
    cases q : ds[i]? with
    | none => rw [q] at e; cases e
    | some d' =>
      rw [q] at e
      cases e
      obtain ⟨v, h1, h2⟩ := h.get q
      refine ⟨v, ?_, h2⟩
      rw [List.getElem?_append_left (by simpa using (List.getElem?_eq_some_iff.mp h1).1), List.getElem?_map, h1]
      rfl
  · rw [List.getElem?_append_right (by simpa using Nat.le_of_not_lt hi), List.getElem?_replicate] at e
    split at e <;> cases e
theorem fn_e {P : Program} {w : World} {K : PySem.W.Frag} {mg : Str → Option Value} {base : Heap} {x : Str} {st : Stmt} {f : Addr} {fd : FuncData} {N ps : List Str} {k : Nat} {b : Sv} (F : Fun K x x st f fd) (Sc : FnScope N ps (defScope st)) (hm : mg x = some (.ref f)) (hbd : Binds K fd ps [])
    (hb : ∀ (cdv : Value) (A : Around) (outer : List Env) (s : Shared) (H : Hp) (E : XK), Oks (cxOf (L2.CX P w) P w K mg base N x (defScope st) f cdv A outer s H E) (fun cls d _ H => E cls d H) k →
      ESs (cxOf (L2.CX P w) P w K mg base N x (defScope st) f cdv A outer s H E) (fun cls d _ H => E cls d H) (defBody st) b) : Dfn P w K mg base x f fd ps (k + 1) (fnOf ps.length N.length b) := by
  refine ⟨F.okX Sc (fun vs H Q E h => h.1) fun cdv A outer s H vs Q E hr h => ?_, fun ds S hl => if_neg hl, hm, F.kp, hbd⟩
  obtain ⟨hl, m, S, ds, R, rd, h⟩ := h
  refine ⟨tS K (fun cls d _ H => E cls d H) b, (hb cdv A outer s H E ⟨⟨takes_of rfl rfl rfl rfl, rfl, hr, Sc.nd⟩, PassesOwn.leaving⟩).pss, m, S, st0 N.length ds, R, rd.map_some N.length, ?_⟩
  unfold fnOf at h
  rw [if_pos (rd.length.trans hl)] at h
  cases q : b (st0 N.length ds) S with
  | nx ρ S' => rw [q] at h; exact fun σ' H' m' e1 p1 R1 h1 => h .non H' m' e1 p1 R1 .non
  | rt d S' => rw [q] at h; exact h
  | bk ρ S' => rw [q] at h; exact h.elim
  | ct ρ S' => rw [q] at h; exact h.elim
  | exc c ρ S' => rw [q] at h; exact fun σ' H' m' e1 p1 R1 h1 => h H' m' e1 p1 R1
  | no => rw [q] at h; exact h.elim
end Sd
/-! Sd8: methods of lists. -/
namespace Sd
open PySem PySem.Spec PyProof.Rows L2
abbrev OpM := Nat → List D → Store → Out
def MtD (X : Cx) (id : String) (o : OpM) : Prop := MtR X id fun x vs H Q => ∃ m S r ds, Rep X.K m S H ∧ RD X.K m H (.lst r) x ∧ RDs X.K m H ds vs ∧ Fin X.K m H (o r ds S) Q
theorem MtR.imp {X : Cx} {id : String} {r r' : V → List V → Hp → VK → Prop} (h : MtR X id r) (i : ∀ v vs H Q, r' v vs H Q → r v vs H Q) : MtR X id r' := fun pins s σ H x vs v us Q I rx rv q => h pins s σ H x vs v us Q I rx rv (i _ _ _ _ q)
def eBm (o : OpM) (f : Ev) (g : Av) : Ev := fun ρ S => (f ρ S).bind fun d S1 => match d with
  | .lst r => (g ρ S1).bind fun ds S2 => (o r ds S2).res
  | _ => .no
theorem tyV_lst {K : PySem.W.Frag} {m : List Addr} {S : Store} {H : Hp} {r : Nat} {v : V} (R : Rep K m S H) (h : RD K m H (.lst r) v) : tyV K "list" v H := by
  obtain ⟨p, rfl, hp⟩ := h.lst_inv
  have hl : r < S.length := by
    have := (List.getElem?_eq_some_iff.mp hp).1
    rw [R.len] at this
    exact this
  obtain ⟨vs, a, b⟩ := R.cellAt (List.getElem?_eq_getElem hl) hp
  exact .inl ⟨rfl, _, SqL.of a⟩
section
variable {X : Cx} {W : WX} {e o : Expr} {es : List Expr} {f : Ev} {g : Av} {op : OpM} {name : Str} {apos cpos : Pos} {id : String}
theorem ee_bm (slot : Slot "list" name id) (hty : typeOf (.builtin id) = pure (.type "method_descriptor")) (hm : MtD X id op) (ho : EE X W o f) (ha : EA X W (e :: es) g)
    (hbase : attributeBase o name X.env (eval o X.env) = eval o X.env := by rfl)
    (hfew : ((backTo cpos (starEach (e :: es) X.env)).all (fun x => !x.1) && (backToKw cpos (keywordEach [] X.env)).all (fun x => x.1.isSome)
      && decide ((e :: es).length + ([] : List Keyword).length + (if ([] : List Keyword).isEmpty then 0 else 1) < 30)) = true := by rfl)
    (hline : (apos.endLine == cpos.line) = true := by rfl) (hs : starEach (e :: es) X.env = (false, eval e X.env) :: starEach es X.env := by rfl) (hplain : (backTo cpos (starEach es X.env)).any (·.1) = false := by rfl) :
    EE X W (.Call (.Attribute o name apos) (e :: es) [] cpos) (eBm op f g) := by
  refine ⟨PE.imp (pe_bm PySem.F.plainAttrs_list slot hty hm ho.pe ha.pa hbase hfew hline hs hplain) fun σ H Q ⟨m, S, ρ, R, hσ, h⟩ => ⟨m, S, ρ, R, hσ, PostR.bind (R := RD X.K) (x := f ρ S) h fun d S1 v H1 m1 e1 p1 R1 d1 h1 => ?_⟩⟩
  cases d with
  | lst r =>
    refine ⟨tyV_lst R1 d1, m1, S1, ρ, R1, hσ.mono e1 p1, PostR.bind (R := RDs X.K) (x := g ρ S1) h1 fun ds S2 vs H2 m2 e2 p2 R2 d2 h2 => ⟨m2, S2, r, ds, R2, d1.mono e2 p2, d2, Fin.of h2⟩⟩
  | _ => exact h1.elim
theorem ee_bm0 (slot : Slot "list" name id) (hty : typeOf (.builtin id) = pure (.type "method_descriptor")) (hm : MtD X id op) (ho : EE X W o f)
    (hbase : attributeBase o name X.env (eval o X.env) = eval o X.env := by rfl) (hline : (apos.endLine == cpos.line) = true := by rfl) :
    EE X W (.Call (.Attribute o name apos) [] [] cpos) (eBm op f aNil) := by
  refine ⟨PE.imp (pe_bm0 PySem.F.plainAttrs_list slot hty hm ho.pe hbase hline) fun σ H Q ⟨m, S, ρ, R, hσ, h⟩ => ⟨m, S, ρ, R, hσ, PostR.bind (R := RD X.K) (x := f ρ S) h fun d S1 v H1 m1 e1 p1 R1 d1 h1 => ?_⟩⟩
  cases d with
  | lst r => exact ⟨tyV_lst R1 d1, m1, S1, r, [], R1, d1, .nil, Fin.of h1⟩
  | _ => exact h1.elim
end
def mApp : OpM
  | r, [y], S => (S[r]?).bind fun xs => if xs.length < lim then some (.non, S.set r (xs ++ [y])) else none
  | _, _, _ => none
def mExt : OpM
  | r, [.lst q], S => (S[r]?).bind fun xs => (S[q]?).bind fun ys => if xs.length + ys.length ≤ lim then some (.non, S.set r (xs ++ ys)) else none
  | _, _, _ => none
def mPop : OpM
  | r, [], S => (S[r]?).bind fun xs => (xs[xs.length - 1]?).map fun d => (d, S.set r xs.dropLast)
  | _, _, _ => none
def mRev : OpM
  | r, [], S => (S[r]?).map fun xs => (.non, S.set r xs.reverse)
  | _, _, _ => none
theorem RDs.dropLast {K : PySem.W.Frag} {m : List Addr} {H : Hp} {xs : List D} {vs : List V} (h : RDs K m H xs vs) : RDs K m H xs.dropLast vs.dropLast := by
  rw [List.dropLast_eq_take, List.dropLast_eq_take, h.length]; exact h.take _
section
variable {X : Cx}
theorem md_append : MtD X "list.append" mApp := MtR.imp mt_append fun v vs H Q ⟨m, S, r, ds, R, rl, rd, q⟩ => by
  unfold mApp at q
  split at q
  · obtain ⟨p, rfl, hp⟩ := rl.lst_inv
    obtain ⟨w, rfl, rw'⟩ := rd.one_inv
    cases e : S[r]? with
    | none => rw [e] at q; exact Fin.no q
    | some xs =>
      rw [e] at q
      dsimp only [Option.bind] at q
      split at q
      · rename_i hl
        obtain ⟨ws, a, b⟩ := R.cellAt e hp
        refine ⟨p, ws, w, rfl, rfl, a, by rw [← b.length]; exact lim_lt hl, ?_⟩
        exact q.written R hp a (b.append (.cons rw' .nil)) .non
      · exact Fin.no q
  · exact Fin.no q
theorem md_extend : MtD X "list.extend" mExt := MtR.imp mt_extend fun v vs H Q ⟨m, S, r, ds, R, rl, rd, q⟩ => by
  unfold mExt at q
  split at q
  · obtain ⟨p, rfl, hp⟩ := rl.lst_inv
    obtain ⟨w, rfl, rw'⟩ := rd.one_inv
    obtain ⟨p2, rfl, hp2⟩ := rw'.lst_inv
    cases e : S[r]? with
    | none => rw [e] at q; exact Fin.no q
    | some xs =>
      rw [e] at q
      dsimp only [Option.bind] at q
      split at q
      · exact Fin.no q
      · rename_i ys e2
        dsimp only at q
        split at q
        · rename_i hl
          obtain ⟨ws, a, b⟩ := R.cellAt e hp
          obtain ⟨ws2, a2, b2⟩ := R.cellAt e2 hp2
          refine ⟨p, p2, ws, ws2, rfl, rfl, a, a2, by rw [← b.length, ← b2.length]; exact le_lim hl, ?_⟩
          exact q.written R hp a (b.append b2) .non
        · exact Fin.no q
  · exact Fin.no q
theorem md_pop : MtD X "list.pop" mPop := MtR.imp mt_pop fun v vs H Q ⟨m, S, r, ds, R, rl, rd, q⟩ => by
  unfold mPop at q
  split at q
  · obtain ⟨p, rfl, hp⟩ := rl.lst_inv
    cases rd.nil_inv
    cases e : S[r]? with
    | none => rw [e] at q; exact Fin.no q
    | some xs =>
      rw [e] at q
      dsimp only [Option.bind] at q
      cases e2 : xs[xs.length - 1]? with
      | none => rw [e2] at q; exact Fin.no q
      | some d =>
        rw [e2] at q
        obtain ⟨ws, a, b⟩ := R.cellAt e hp
        obtain ⟨y, h1, h2⟩ := b.get e2
        refine ⟨p, ws, y, rfl, rfl, a, by rw [← b.length]; exact h1, ?_⟩
        exact q.written R hp a b.dropLast h2
  · exact Fin.no q
theorem md_reverse : MtD X "list.reverse" mRev := MtR.imp mt_reverse fun v vs H Q ⟨m, S, r, ds, R, rl, rd, q⟩ => by
  unfold mRev at q
  split at q
  · obtain ⟨p, rfl, hp⟩ := rl.lst_inv
    cases rd.nil_inv
    cases e : S[r]? with
    | none => rw [e] at q; exact Fin.no q
    | some xs =>
      rw [e] at q
      obtain ⟨ws, a, b⟩ := R.cellAt e hp
      refine ⟨p, ws, rfl, rfl, a, ?_⟩
      exact q.written R hp a b.reverse .non
  · exact Fin.no q
end
end Sd
/-! Sd9: small helps for the printed text. -/
namespace Sd
open PySem PySem.Spec PyProof.Rows L2
theorem oks_tr {X : Cx} {W W' : WX} {k : Nat} {pn : List (Addr × Obj)} {xe : Value → Shared → Prop} (O : Oks X W k) (t : Takes (X.tr pn xe) W') (p : PassesOwn (model X.prog X.w) X.A X.env xe) : Oks (X.tr pn xe) W' k := ⟨⟨t, O.calm, O.room, O.nd⟩, p⟩
theorem dfn_no {P : Program} {w : World} {K : PySem.W.Frag} {mg : Str → Option Value} {base : Heap} {x : Str} {st : Stmt} {f : Addr} {fd : FuncData} {ps : List Str} {k : Nat} (F : Fun K x x st f fd) (hm : mg x = some (.ref f)) (hbd : Binds K fd ps []) : Dfn P w K mg base x f fd ps k (fun _ _ => .no) :=
  ⟨⟨fun vs H Q E h => h.1, fun A outer s H as us vs Q E hr I hb hv h => by obtain ⟨_, m, S, ds, R, rd, h⟩ := h; exact h.elim⟩, fun _ _ _ => rfl, hm, F.kp, hbd⟩
theorem kit_ve {K : PySem.W.Frag} {C : Addr} (h : PySem.W.subIn K (.ref C) (.type "ValueError") = some true) : PySem.W.kitOne K (.ref C) (.type "ValueError") = some true := by
  have e : ((Value.ref C == Value.type "ValueError") = true) = False := by simp
  unfold PySem.W.kitOne PySem.W.kitCls
  rw [if_neg (by rw [e]; exact id)]
  dsimp only
  rw [if_pos (by decide +kernel)]
  exact h
/-! the script -/
theorem fz_of {K : PySem.W.Frag} {H : Hp} {a : Addr} {xs : List V} (hO : Only H) (h : SqL K H a xs) : Fz K H a xs := by
  rcases h with (h | ⟨o, h⟩) | h
  · rcases hO a with z | ⟨o, ys, z⟩
    · rw [z] at h; cases h
    · rw [z] at h; cases h
  · exact .inl ⟨o, h⟩
  · exact .inr h
/-- what the head asks of the law's def -/
def spLaw (K : PySem.W.Frag) : Sp := fun vs H Q _ => ∃ (a : Addr) (ns : List Int), vs = [.ref a] ∧ ns.length ≤ 63 ∧ (∀ z ∈ ns, Builtin.Int.intBits z ≤ 1048576) ∧ Only H ∧ SqL K H a (ns.map V.int) ∧ ∀ H', Q (.bl true) H'
theorem RDs.int_map {K : PySem.W.Frag} {m : List Addr} {H : Hp} : ∀ ns : List Int, RDs K m H (ns.map D.int) (ns.map V.int)
  | [] => .nil
  | i :: r => .cons (.int i) (RDs.int_map r)
theorem law_end {P : Program} {w : World} {K : PySem.W.Frag} {mg : Str → Option Value} {base : Heap} {x : Str} {f : Addr} {fd : FuncData} {p : Str} {k : Nat} {F : Fv} (Df : Dfn P w K mg base x f fd [p] k F)
    (h : ∀ ns : List Int, ns.length ≤ 63 → (∀ z ∈ ns, Builtin.Int.intBits z ≤ 1048576) → ∃ S, F [.fz (ns.map .int)] [] = .ok (.bl true) S) : FnOk P w K mg base (L2.CX P w) k f fd [p] (spLaw K) :=
  Df.ok.imp fun vs H Q E ⟨a, ns, e, hl, hb, hO, hS, hq⟩ => by
    obtain ⟨S, q⟩ := h ns hl hb
    subst e
    refine ⟨rfl, [], [], [.fz (ns.map .int)], Rep.nil, .cons (.fz (fz_of hO hS) (RDs.int_map ns)) .nil, ?_⟩
    rw [q]
    intro v H' m' e1 p1 R1 rd
    cases rd
    exact hq _
theorem walk_law {l : PySem.W.OpenLaw} {k : Nat} {q : Program} {loose : List Str} {XP : (Str → Option Value) → Heap → Prop} {YP : World → Heap → Prop} {d : DefRec} {K : Params → PySem.W.Frag}
    (hn : l.most = some 63) (hdf : d.params.defaults = []) (hr : Room k callerA) (hY : ∀ (w : World) (h : Heap), YP w h → (K w.params).In h)
    (F : ∀ (w : World) (mg : Str → Option Value) (fa : Addr) (h : Heap), (K w.params).In h → h.Ns mainGlobals mg → mg d.name = some (.ref fa) →
      ∃ fd : FuncData, (∀ (s : Shared) (u : Value), BindsTo s fd ⟨[u], []⟩ [("script", u)]) ∧
        ∀ (P : Program) (w' : World) (base : Heap), FnOk P w' (K w.params) mg base (L2.CX P w') k fa fd ["script"] (spLaw (K w.params))) :
    PySem.W.WalkO q loose XP YP l.row.toRowW d [] (fun f vs => PySem.call f vs) :=
  L2.walk_ofB (n := 63) (k := k) (x := "script") (CX := fun w => L2.CX l.prog w) (sp := fun w => spLaw (K w.params)) hn (by decide) hdf hr hY (fun w mg fa h KX G hm => by
    obtain ⟨fd, h1, h2⟩ := F w mg fa h KX G hm
    exact ⟨fd, h1, fun base _ _ => h2 _ _ base⟩) (fun w H a ns hl hb hO hS => ⟨a, ns, rfl, hl, hb, hO, hS, fun _ => rfl⟩) fun _ _ _ _ _ ⟨_, _, _, _, _, _, _, _, _, _, _, _, z⟩ => z
end Sd
/-! Sd10: a star in a display, a truth less a truth, several except clauses with a name. -/
namespace Sd
open PySem PySem.Spec PyProof.Rows L2
def aStar (f : Ev) (g : Av) : Av := fun ρ S => (f ρ S).bind fun d S1 => match items d S1 with
  | some xs => (g ρ S1).bind fun ys S2 => .ok (xs ++ ys) S2
  | none => .no
theorem ea_star {X : Cx} {W : WX} {e : Expr} {es : List Expr} {f : Ev} {g : Av} {p : Pos} (ha : EE X W e f) (hr : EA X W es g) (hs : starEach (.Starred e p :: es) X.env = (true, eval e X.env) :: starEach es X.env := by rfl) : EA X W (.Starred e p :: es) (aStar f g) :=
  ⟨PA.imp (StX.pa_star ha.pe hr.pa hs) fun σ H Q ⟨m, S, ρ, R, hσ, h⟩ => ⟨m, S, ρ, R, hσ, PostR.bind (R := RD X.K) (x := f ρ S) h fun d S1 v H1 m1 e1 p1 R1 d1 h1 => by
    cases q : items d S1 with
    | none => rw [q] at h1; exact h1.elim
    | some xs =>
      rw [q] at h1
      obtain ⟨a, vs, rfl, h2, h3⟩ := items_sq R1 d1 q
      refine ⟨a, vs, rfl, ?_, m1, S1, ρ, R1, hσ.mono e1 p1, PostR.bind (R := RDs X.K) (x := g ρ S1) h1 fun ys S2 ws H2 m2 e2 p2 R2 d2 h4 => PostR.ok (R := RDs X.K) h4 R2 ((h2.mono e2 p2).append d2)⟩
      rcases h3 with h3 | ⟨h3, _⟩
      · exact .inr h3
      · exact .inl h3⟩⟩
def oSubB : Op2 := fun x y S => match x, y with
  | .bl a, .bl b => some (.int ((if a then 1 else 0) - (if b then 1 else 0)), S)
  | _, _ => none
theorem od_subB {X : Cx} : OpD X (binaryOp .Sub) oSubB := by
  intro pins s σ H x y v u Q I rx ry ⟨m, S, a, b, R, ra, rb, q⟩
  unfold oSubB at q
  split at q
  · rename_i a b
    cases ra
    cases rb
    cases rx
    cases ry
    refine sub_bool ⟨.int (PyProof.Rows.b2i a - PyProof.Rows.b2i b), H, I.tok _, ⟨_, rfl⟩, ?_⟩
    have e : (PyProof.Rows.b2i a - PyProof.Rows.b2i b) = ((if a = true then 1 else 0) - (if b = true then 1 else 0) : Int) := rfl
    rw [e]
    exact q.here R (.int _)
  · exact Fin.no q
/-! ### clauses 'except x as n', one after the other -/
/-- a clause: the class, the slot of its name, what its suite asks -/
structure Cl where
  c : Value
  i : Nat
  ts : Addr → Value → Option Addr → TS
def wish (K : PySem.W.Frag) (Wo : WX) (D : Ends) : List Cl → WX
  | [] => Wo
  | k :: r => fun cls d σ H => ∃ b, PySem.W.exmOne K cls k.c = some b ∧
      (b = true → ∀ a, H a = none → k.ts a cls d { nx := fun σ' H' => D.nx (σ'.set k.i none) H', rt := D.rt, bk := fun σ' H' => D.bk (σ'.set k.i none) H', ct := fun σ' H' => D.ct (σ'.set k.i none) H' } (σ.set k.i (some (.ref a))) H) ∧
      (b = false → wish K Wo D r cls d σ H)
inductive Cls' (X : Cx) : List ExceptHandler → List Cl → Prop
  | nil : Cls' X [] []
  | cons {x n : Str} {k : Cl} {b₀ : Stmt} {su : List Stmt} {np pp : Pos} {hds : List ExceptHandler} {l : List Cl} (hi : X.N[k.i]? = some n) (hn : X.env.kindOf n = some .local) (hc : Names X x k.c)
      (hs : ∀ (a : Addr) (oe : Obj) (cls : Value) (d : Option Addr) (pn : List (Addr × Obj)), Zc cls d oe → (∃ vs, oe.data = .fields vs) → PSs (X.suite a ((a, oe) :: pn)) (b₀ :: su) (k.ts a cls d)) (r : Cls' X hds l) :
      Cls' X (.ExceptHandler (some (.Name x np)) (some n) (b₀ :: su) pp :: hds) (k :: l)
theorem ps_tries {X : Cx} {body : List Stmt} {h1 : ExceptHandler} {hds : List ExceptHandler} {l : List Cl} {pos : Pos} {tb : WX → TS} {Wo : WX} (hst : X.stack = X.env :: X.outer) (hfr0 : X.env.frame = some X.env.locals) (hN : X.N.Nodup) (tk : Takes X Wo)
    (hb : ∀ (W : WX) (pn : List (Addr × Obj)) (xe : Value → Shared → Prop), Takes (X.tr pn xe) W → PassesOwn (model X.prog X.w) X.A X.env xe → PSs (X.tr pn xe) body (tb W))
    (hh : Cls' X (h1 :: hds) l) : PS X (.Try body (h1 :: hds) [] [] pos) (fun D σ H => tb (wish X.K Wo D l) D σ H) := by
  refine ⟨fun pins s σ H D I q0 => ?_⟩
  have okk := I.ok
  have frames : X.A.frames = some (X.env :: X.outer) := okk.frames.trans (congrArg some hst)
  apply wpAny_Try_except
  apply wpAny_mono ((hb (wish X.K Wo D l) (X.pn ++ pins)
    (fun e t1 => wpAny (model X.prog X.w) X.A (noteFrame e X.env) (fun _ t2 => wpAny (model X.prog X.w) X.A (setFlight e none) (fun _ t3 => wpAny (model X.prog X.w) X.A (handleBy e X.env (h1 :: hds)) (SP X pins D) X.xe t3) X.xe t2) X.xe t1)
    (fun u t xx => ?_) PassesOwn.looking).run [] s σ H D (I.toTry _) q0) (fun fl t qf => ?_) (fun e t he => he)
  · obtain ⟨ea, B, tI, pins2, σ2, H2, cls, d, rfl, J0, nbd, upd0, sky, fresh, osq, bare, wq⟩ := xx
    have J : Inv X pins σ2 H2 tI := J0.ofTry okk
    rw [hst] at sky
    show wpAny (model X.prog X.w) X.A (noteFrame (.ref ea) X.env) _ _ _
    refine Sky.land Zc.steady frames hfr0 sky fun g3 F3 U3 => ?_
    have K3 : Inv X pins σ2 H2 { t with heap := g3 } := J.landed nbd F3.1 (upd0.trans U3) osq bare
    obtain ⟨o3, w3, at3, z3, dat3⟩ := F3.there
    have apart : ea ∉ frs (X.env :: X.outer) := fun hm => by
      obtain ⟨_, o', ha, hno⟩ := F3.2.2.1.mem hm
      cases at3.symm.trans ha
      exact hno _ dat3
    have offL : ea ≠ X.env.locals := fun z => apart (List.mem_filterMap.mpr ⟨X.env, List.mem_cons_self, hfr0.trans (congrArg some z.symm)⟩)
    have offF : ea ∉ X.fs := fun hm => by
      obtain ⟨e, m1, m2⟩ := List.mem_filterMap.mp hm
      exact apart (List.mem_filterMap.mpr ⟨e, List.mem_cons_of_mem _ m1, m2⟩)
    have I3 := K3.suite at3 dat3 fresh offL offF
    have walk : ∀ {rest : List ExceptHandler} {l2 : List Cl}, Cls' X rest l2 → wish X.K Wo D l2 cls d σ2 H2 → wpAny (model X.prog X.w) X.A (handleBy (.ref ea) X.env rest) (SP X pins D) X.xe { t with heap := g3 } := by
      intro rest l2 hk
      induction hk with
      | nil =>
        intro wo
        apply wpAny_handleBy_nil
        obtain ⟨_, _, _, oe, vs, T, _, _, at4, _, dat4, g1, _⟩ := id F3
        unfold PySem.passOn
        apply wpAny_bind
        refine wpAny_field at4 dat4 g1 ?_
        rw [if_neg (by simp : ¬ ((Value.ref T == Value.none) = true))]
        have tail : wpAny (model X.prog X.w) X.A (setFlight (.ref ea) X.env.frame) (fun _ t4 => wpAny (model X.prog X.w) X.A (throw (.ref ea) : Sem Flow) (SP X pins D) X.xe t4) X.xe { t with heap := g3 } := by
          rw [hfr0]
          refine HandSPX.setFlight_upZ F3 fun g4 sky4 U4 => wpAny_throw (tk _ _ ?_)
          exact ⟨ea, B, tI, pins, σ2, H2, cls, d, rfl, J, nbd, (upd0.trans U3).trans U4, .inr (.inr (by rw [hst]; exact sky4)), fresh, osq, bare, wo⟩
        first
          | exact wpAny_bind (wpAny_pure (wpAny_bind tail))
          | exact wpAny_bind tail
      | @cons x n k b₀ su np pp hds2 l3 hi hn hc hsu r ih =>
        intro ⟨b, match1, yes, no⟩
        apply wpAny_handleBy_cons
        · apply codeAny_handlers_test
          have typ : PySem.W.Looks (model X.prog X.w) g3 (typeOf (.ref ea)) cls := fun A Q E u kk qq => wpAny_typeOf_ref (kk _ _ at3) (by rw [z3.1]; exact qq)
          have look := PySem.W.exm_one (M := model X.prog X.w) K3.kIn typ match1
          have named : ∀ {Q E : Value → Shared → Prop}, Q k.c { t with heap := g3 } → wpAny (model X.prog X.w) (X.A.mark (some (.ref ea))) (eval (.Name x np) X.env) Q E { t with heap := g3 } := fun {Q E} qq => by
            obtain ⟨gl, nd, w | ⟨w, w2, w3⟩⟩ := hc
            · exact ld_glob (X := X.suite ea ((ea, o3) :: (X.pn ++ pins))) I3 gl w qq nd
            · exact ld_blt (X := X.suite ea ((ea, o3) :: (X.pn ++ pins))) I3 gl w w2 qq w3 nd
          apply named
          apply look.here
          cases b with
          | false =>
            show wpAny _ X.A (handleBy (.ref ea) X.env hds2) _ _ _
            exact ih (no rfl)
          | true =>
            apply codeAny_handlers_suite_as
            refine HandSPX.lands_againZ F3 fun g4 F4 U4 => ?_
            have K4 : Inv X pins σ2 H2 { t with heap := g4 } := J.landed nbd F4.1 ((upd0.trans U3).trans U4) osq bare
            obtain ⟨o4, w4, at4, z4, dat4⟩ := F4.there
            have I4 := K4.suite at4 dat4 fresh offL offF
            refine store_ok (X := X.suite ea ((ea, o4) :: (X.pn ++ pins))) (v := .ref ea) I4 hN hi (.inl hn) rfl (fun t5 I5 => ?_) (.inr hn)
            refine wpAny_mono ((hsu ea o4 cls d (X.pn ++ pins) z4 ⟨_, dat4⟩).run [] t5 _ H2 _ I5 (yes rfl ea fresh)) (fun fl t6 qf => ?_) (fun _ _ z => z.elim)
            have close : ∀ {σ6 : L2.St} {H6 : Hp} {Q : Shared → Prop}, Inv (X.suite ea ((ea, o4) :: (X.pn ++ pins))) [] σ6 H6 t6 → (∀ t7, Inv X pins (σ6.set k.i none) H6 t7 → Q t7) →
                wpAny (model X.prog X.w) X.A (do bindName X.env n .none; unbindBehindTheSuite X.env n pp) (fun _ t7 => Q t7) X.xe t6 := fun {σ6 H6 Q} I6 hq => gone_ok (I6.unsuite okk) hN hi hn hq
            cases fl with
            | next => obtain ⟨σ6, H6, I6, q6⟩ := qf; exact close I6 fun t7 I7 => ⟨_, _, I7, q6⟩
            | brk => obtain ⟨σ6, H6, I6, q6⟩ := qf; exact close I6 fun t7 I7 => ⟨_, _, I7, q6⟩
            | cont => obtain ⟨σ6, H6, I6, q6⟩ := qf; exact close I6 fun t7 I7 => ⟨_, _, I7, q6⟩
            | ret u => obtain ⟨v6, σ6, H6, I6, r6, q6⟩ := qf; exact close I6 fun t7 I7 => ⟨_, _, _, I7, r6, q6⟩
        · intro z; cases z
    exact walk hh wq
  · cases fl with
    | next => obtain ⟨σ6, H6, I6, q6⟩ := qf; exact wpAny_execs_nil ⟨σ6, H6, I6.ofTry okk, q6⟩
    | brk => obtain ⟨σ6, H6, I6, q6⟩ := qf; exact ⟨σ6, H6, I6.ofTry okk, q6⟩
    | cont => obtain ⟨σ6, H6, I6, q6⟩ := qf; exact ⟨σ6, H6, I6.ofTry okk, q6⟩
    | ret u => obtain ⟨v6, σ6, H6, I6, r6, q6⟩ := qf; exact ⟨v6, σ6, H6, I6.ofTry okk, r6, q6⟩
end Sd
/-! Sd11: try .. except A as m: y = [word, isinstance(m, ValueError)] except B as n: .. -/
namespace Sd
open PySem PySem.Spec PyProof.Rows L2
abbrev CL := Addr × Nat × Str
def pickC : List CL → Addr → Option (Nat × Str)
  | [], _ => none
  | (C, i, w) :: r, c => if c = C then some (i, w) else pickC r c
def sTrys (b : Sv) (l : List CL) (j : Nat) : Sv := fun ρ S => match b ρ S with
  | .exc c ρ' S' => match pickC l c with
    | some (i, w) => if i < ρ'.length then .nx ((ρ'.set j (some (.lst S'.length))).set i none) (S' ++ [[.str w, .bl true]]) else .no
    | none => .no
  | o => o
/-- what the suite asks -/
def suT (K : PySem.W.Frag) (j : Nat) (w : Str) (C : Addr) (i : Nat) : Addr → Value → Option Addr → TS := fun a cls d => fun D σ H => cls = .ref C ∧ d = none ∧ σ[i]? = some (some (.ref a)) ∧ ∀ p, H p = none → D.nx (σ.set j (some (.ref p))) (upd H p (.lst [.str w, .bl true]))
def clOf (K : PySem.W.Frag) (j : Nat) (k : CL) : Cl := ⟨.ref k.1, k.2.1, suT K j k.2.2 k.1 k.2.1⟩
inductive ClsD (X : Cx) (j : Nat) : List ExceptHandler → List CL → Prop
  | nil : ClsD X j [] []
  | cons {x n y : Str} {C : Addr} {i : Nat} {word : Str} {np pp py p1 p2 p3 p4 p5 p6 p7 : Pos} {k1 : Nat} {hds : List ExceptHandler} {l : List CL} (T : ExD X.K X.mg x C) (T2 : CtD X.K C) (far : ∀ k ∈ l, PySem.W.exmOne X.K (.ref k.1) (.ref C) = some false ∧ C ≠ k.1)
    (hN : X.N.Nodup) (hmi : X.mg "isinstance" = none) (hmv : X.mg "ValueError" = none) (r : ClsD X j hds l)
    (hi : X.N[i]? = some n := by rfl) (hln : X.env.kindOf n = some .local := by rfl) (hj : X.N[j]? = some y := by rfl) (hlj : X.env.scope.names.lookup y = some .local := by rfl) (hg : Gl X x := by rfl) (hgi : Gl X "isinstance" := by rfl) (hgv : Gl X "ValueError" := by rfl) (hij : i ≠ j := by decide)
    (hdx : (x == ("__debug__" : Str)) = false := by decide) (hd : (n == ("__debug__" : Str)) = false := by decide) (hcd : (n == ("__classdict__" : Str)) = false := by decide)
    (hsw : swapsWith (.List [.Constant (.str word) k1 p1, .Call (.Name "isinstance" p2) [.Name n p3, .Name "ValueError" p4] [] p5] p6) (some (.Name y py)) p7.line X.env = pure false := by rfl)
    (he1 : starEach [.Constant (.str word) k1 p1, .Call (.Name "isinstance" p2) [.Name n p3, .Name "ValueError" p4] [] p5] X.env = (false, eval (.Constant (.str word) k1 p1) X.env) :: starEach [.Call (.Name "isinstance" p2) [.Name n p3, .Name "ValueError" p4] [] p5] X.env := by rfl)
    (he2 : starEach [.Call (.Name "isinstance" p2) [.Name n p3, .Name "ValueError" p4] [] p5] X.env = (false, eval (.Call (.Name "isinstance" p2) [.Name n p3, .Name "ValueError" p4] [] p5) X.env) :: starEach [] X.env := by rfl)
    (he3 : starEach [.Name n p3, .Name "ValueError" p4] X.env = (false, eval (.Name n p3) X.env) :: starEach [.Name "ValueError" p4] X.env := by rfl)
    (he4 : starEach [.Name "ValueError" p4] X.env = (false, eval (.Name "ValueError" p4) X.env) :: starEach [] X.env := by rfl)
    (hpl : (backTo p5 (starEach [.Name "ValueError" p4] X.env)).any (·.1) = false := by rfl) :
    ClsD X j (.ExceptHandler (some (.Name x np)) (some n) [.Assign [.Name y py] (.List [.Constant (.str word) k1 p1, .Call (.Name "isinstance" p2) [.Name n p3, .Name "ValueError" p4] [] p5] p6) p7] pp :: hds) ((C, i, word) :: l)
theorem ClsD.cls {X : Cx} {j : Nat} {hds : List ExceptHandler} {l : List CL} (h : ClsD X j hds l) : Cls' X hds (l.map (clOf X.K j)) := by
  induction h with
  | nil => exact .nil
  | @cons x n y C i word np pp py p1 p2 p3 p4 p5 p6 p7 k1 hds l T T2 far hN hmi hmv r hi hln hj hlj hg hgi hgv hij hdx hd hcd hsw he1 he2 he3 he4 hpl ih =>
    refine .cons (k := clOf X.K j (C, i, word)) hi hln ⟨hg, hdx, .inl T.mg⟩ (fun a oe cls d pn hz hfv => ?_) ih
    refine ⟨fun pins s σ H D I ⟨ec, ed, hsi, q⟩ => ?_⟩
    dsimp only at ec hsi q
    subst ec ed
    have hlc : L2.Loc X.env.scope y := .inl hlj
    have hv : Vis X.env.scope n := .inl hln
    exact (pss_one (ps_set (X := X.suite a ((a, oe) :: pn)) (i := j) hN hj hlc (pe_lst (pa_cons pe_str (pa_cons (pe_callB (call_isE T2.ec hz hfv) hgi hmi (by decide +kernel) (pa_cons (pe_var hi hv hd hcd) (pa_cons (pe_bltn (v := .ty "ValueError") hgv hmv (by decide +kernel) rfl) pa_nil he4) he3) (by decide) (by decide) he3 hpl) pa_nil he2) he1)) hsw (.inr hlj))).run pins s σ H D I
      ⟨_, hsi, _, .type "ValueError", true, rfl, fun u r => r, T2.ve, by show 2 ≤ sizeLine; rw [sizeLine_eq]; decide, fun p hp => q p hp⟩
theorem wish_pick {X : Cx} {j : Nat} {hds : List ExceptHandler} {l : List CL} (h : ClsD X j hds l) {D : Ends} {Wo : WX} {c : Addr} {ρ : Loc} {S : Store} {m : List Addr} {i : Nat} {w : Str} (hp : pickC l c = some (i, w)) {σ : L2.St} {H : Hp} {W : WX}
    (hil : i < σ.length) (R1 : Rep X.K m S H) (h1 : RS X.K m H ρ σ) (hk : PostS X.K W m H (.nx ((ρ.set j (some (.lst S.length))).set i none) (S ++ [[.str w, .bl true]])) D) : wish X.K Wo D (l.map (clOf X.K j)) (.ref c) none σ H := by
  induction h with
  | nil => cases hp
  | @cons x n y C i' word np pp py p1 p2 p3 p4 p5 p6 p7 k1 hds l T T2 far hN hmi hmv r hi hln hj hlj hg hgi hgv hij hdx hd hcd hsw he1 he2 he3 he4 hpl ih =>
    unfold pickC at hp
    split at hp
    · rename_i e
      subst e
      cases hp
      refine ⟨true, T2.em, fun _ a ha => ?_, fun z => by cases z⟩
      refine ⟨rfl, rfl, List.getElem?_set_self hil, fun p hp => ?_⟩
      have al := R1.alloc hp (RDs.cons (RD.str w) (RDs.cons (RD.bl true) (RDs.nil (K := X.K) (m := m) (H := H))))
      have pre : m <+: m ++ [p] := List.prefix_append _ _
      have ex : Ext H (upd H p (.lst [.str w, .bl true])) := Ext.new hp
      refine hk _ _ (m ++ [p]) ex pre al ?_
      have hlst : RD X.K (m ++ [p]) (upd H p (.lst [.str w, .bl true])) (.lst S.length) (.ref p) := .lst (by rw [← R1.len, List.getElem?_append_right (Nat.le_refl _)]; simp)
      have z := ((h1.mono ex pre).set hlst j).unset i
      have e3 : ((σ.set i (some (.ref a))).set j (some (.ref p))).set i none = (σ.set j (some (.ref p))).set i none := by
        rw [List.set_comm _ _ hij, List.set_set]
      show RS _ _ _ _ (((σ.set i (some (.ref a))).set j (some (.ref p))).set i none)
      rw [e3]
      exact z
    · rename_i e
      have hm : ∃ k ∈ l, k.1 = c := by
        clear ih r far
        induction l with
        | nil => cases hp
        | cons k l ih2 =>
          obtain ⟨C2, i2, w2⟩ := k
          unfold pickC at hp
          split at hp
          · rename_i e2
            exact ⟨_, List.mem_cons_self, e2.symm⟩
          · obtain ⟨k, k1, k2⟩ := ih2 hp
            exact ⟨k, List.mem_cons_of_mem _ k1, k2⟩
      obtain ⟨k, k1, rfl⟩ := hm
      exact ⟨false, (far k k1).1, (fun z => by cases z), fun _ => ih hp⟩
theorem es_trys {X : Cx} {W : WX} {body : List Stmt} {h0 : ExceptHandler} {hds : List ExceptHandler} {l : List CL} {b : Sv} {pos : Pos} (j : Nat) (hs : X.stack = X.env :: X.outer) (hf : X.env.frame = some X.env.locals) (hN : X.N.Nodup)
    (hb : ∀ (W : WX) (pn : List (Addr × Obj)) (xe : Value → Shared → Prop), Takes (X.tr pn xe) W → PassesOwn (model X.prog X.w) X.A X.env xe → ESs (X.tr pn xe) W body b) (hh : ClsD X j (h0 :: hds) l) : ES X W (.Try body (h0 :: hds) [] [] pos) (sTrys b l j) := by
  refine ⟨PS.imp (ps_tries (Wo := W0) (tb := fun W => tS X.K W b) hs hf hN takes0 (fun W pn xe tk po => (hb W pn xe tk po).pss) hh.cls) fun D σ H ⟨m, S, ρ, R, hσ, h⟩ => ⟨m, S, ρ, R, hσ, ?_⟩⟩
  unfold sTrys at h
  cases q : b ρ S with
  | exc c ρ' S' =>
    rw [q] at h
    dsimp only at h
    cases hp : pickC l c with
    | none => rw [hp] at h; exact h.elim
    | some iw =>
      obtain ⟨i, w⟩ := iw
      rw [hp] at h
      dsimp only at h
      split at h
      · rename_i hlen
        exact fun σ' H' m' e1 p1 R1 h1 => wish_pick hh hp (by rw [← h1.1]; exact hlen) R1 h1 (h.at e1 p1)
      · exact h.elim
  | nx ρ' S' => rw [q] at h; exact h
  | rt d S' => rw [q] at h; exact h
  | bk ρ' S' => rw [q] at h; exact h
  | ct ρ' S' => rw [q] at h; exact h
  | no => rw [q] at h; exact h
end Sd
/-! Pev: how the mirrors are run by simp. -/
namespace Sd
open PySem PySem.Spec L2
def SRes.sq (r : SRes) (q : Sv) : SRes := match r with
  | .nx ρ' S' => q ρ' S'
  | o => o
section
variable {ρ ρ' : Loc} {S S' : Store} {d : D} {c : Addr} {p q : Sv} {f g : Ev} {a b : Av} {t u : Tv} {o : Op2} {i j k : Nat} {v : OpN} {F : Fv}
@[simp] theorem sq_nx : (SRes.nx ρ' S').sq q = q ρ' S' := rfl
@[simp] theorem sq_rt : (SRes.rt d S').sq q = .rt d S' := rfl
@[simp] theorem sq_bk : (SRes.bk ρ' S').sq q = .bk ρ' S' := rfl
@[simp] theorem sq_ct : (SRes.ct ρ' S').sq q = .ct ρ' S' := rfl
@[simp] theorem sq_exc : (SRes.exc c ρ' S').sq q = .exc c ρ' S' := rfl
@[simp] theorem sq_no : (SRes.no).sq q = .no := rfl
@[simp] theorem x_sSeq : sSeq p q ρ S = (p ρ S).sq q := rfl
@[simp] theorem x_sNext : sNext ρ S = .nx ρ S := rfl
@[simp] theorem x_sBreak : sBreak ρ S = .bk ρ S := rfl
@[simp] theorem x_sCont : sCont ρ S = .ct ρ S := rfl
@[simp] theorem x_sRet : sRet f ρ S = (f ρ S).st ρ fun d S1 => .rt d S1 := rfl
@[simp] theorem x_sRetN : sRetN ρ S = .rt .non S := rfl
@[simp] theorem x_sExpr : sExpr f ρ S = (f ρ S).st ρ fun _ S1 => .nx ρ S1 := rfl
@[simp] theorem x_sRaise : sRaise c ρ S = .exc c ρ S := rfl
@[simp] theorem x_sIf : sIf t p q ρ S = (t ρ S).st ρ fun k S1 => if k = true then p ρ S1 else q ρ S1 := rfl
@[simp] theorem x_sSet : sSet i f ρ S = (f ρ S).st ρ fun d S1 => .nx (ρ.set i (some d)) S1 := rfl
def ntS (o : Option Loc) (S : Store) : SRes := match o with | some ρ' => .nx ρ' S | none => .no
@[simp] theorem ntS_some : ntS (some ρ') S = .nx ρ' S := rfl
@[simp] theorem x_sNt {n : NT} : sNt n f ρ S = (f ρ S).st ρ fun d S1 => ntS (n.b d ρ) S1 := rfl
def parS (i j : Nat) (ρ : Loc) (ds : List D) (S : Store) : SRes := match ds with | [a, b] => .nx ((ρ.set i (some a)).set j (some b)) S | _ => .no
@[simp] theorem parS_two {x y : D} : parS i j ρ [x, y] S = .nx ((ρ.set i (some x)).set j (some y)) S := rfl
@[simp] theorem x_sPar : sPar i j a ρ S = (a ρ S).st ρ fun ds S1 => parS i j ρ ds S1 := rfl
def parS3 (i j k : Nat) (ρ : Loc) (ds : List D) (S : Store) : SRes := match ds with | [a, b, c] => .nx (((ρ.set i (some a)).set j (some b)).set k (some c)) S | _ => .no
@[simp] theorem parS3_three {x y z : D} : parS3 i j k ρ [x, y, z] S = .nx (((ρ.set i (some x)).set j (some y)).set k (some z)) S := rfl
@[simp] theorem x_sPar3 : sPar3 i j k a ρ S = (a ρ S).st ρ fun ds S1 => parS3 i j k ρ ds S1 := rfl
def subS (o : Option Store) (ρ : Loc) : SRes := match o with | some S4 => .nx ρ S4 | none => .no
@[simp] theorem subS_some : subS (some S) ρ = .nx ρ S := rfl
@[simp] theorem x_sSub {fo fi : Ev} : sSub f fo fi ρ S = (f ρ S).st ρ fun d S1 => (fo ρ S1).st ρ fun o S2 => (fi ρ S2).st ρ fun i S3 => subS (oSet o i d S3) ρ := rfl
def varR (o : Option D) (S : Store) : Res D := match o with | some d => .ok d S | none => .no
@[simp] theorem varR_some : varR (some d) S = .ok d S := rfl
@[simp] theorem x_eVar : eVar i ρ S = varR (lget ρ i) S := rfl
@[simp] theorem lget_zero {x : Option D} {r : Loc} : lget (x :: r) 0 = x := rfl
@[simp] theorem lget_succ {x : Option D} {r : Loc} : lget (x :: r) (i + 1) = lget r i := rfl
@[simp] theorem x_eC : eC d ρ S = .ok d S := rfl
@[simp] theorem x_eBin : eBin o f g ρ S = (f ρ S).bind fun a S1 => (g ρ S1).bind fun b S2 => (o a b S2).res := rfl
def chN (z : D) (S : Store) (k : Res D) : Res D := match z with | .bl true => k | .bl false => .ok (.bl false) S | _ => .no
@[simp] theorem chN_t {k : Res D} : chN (.bl true) S k = k := rfl
@[simp] theorem chN_f {k : Res D} : chN (.bl false) S k = .ok (.bl false) S := rfl
theorem chN_b {k : Res D} {b : Bool} : chN (.bl b) S k = if b = true then k else .ok (.bl false) S := by cases b <;> rfl
@[simp] theorem x_eChain {o' : Op2} {h : Ev} : eChain o o' f g h ρ S = (f ρ S).bind fun a S1 => (g ρ S1).bind fun b S2 => (o a b S2).res.bind fun z S3 => chN z S3 ((h ρ S3).bind fun c S4 => (o' b c S4).res) := by
  unfold eChain chN
  congr
def blR (d : D) (S : Store) : Res Bool := match d with | .bl b => .ok b S | _ => .no
@[simp] theorem blR_bl {b : Bool} : blR (.bl b) S = .ok b S := rfl
@[simp] theorem x_tvB : tvB f ρ S = (f ρ S).bind fun d S1 => blR d S1 := rfl
def trR (o : Option Bool) (S : Store) : Res Bool := match o with | some b => .ok b S | none => .no
@[simp] theorem trR_some {b : Bool} : trR (some b) S = .ok b S := rfl
@[simp] theorem x_tvT : tvT f ρ S = (f ρ S).bind fun d S1 => trR (truD d S1) S1 := rfl
@[simp] theorem truD_bl {b : Bool} : truD (.bl b) S = some b := rfl
@[simp] theorem truD_int {b : Int} : truD (.int b) S = some (b != 0) := rfl
@[simp] theorem truD_lst {r : Nat} : truD (.lst r) S = (S[r]?).map fun xs => !xs.isEmpty := rfl
@[simp] theorem x_tvAnd : tvAnd t u ρ S = (t ρ S).bind fun b S1 => if b = true then u ρ S1 else .ok false S1 := rfl
@[simp] theorem x_tvOr : tvOr t u ρ S = (t ρ S).bind fun b S1 => if b = true then .ok true S1 else u ρ S1 := rfl
@[simp] theorem x_tvNot : tvNot t ρ S = (t ρ S).bind fun b S1 => .ok (!b) S1 := rfl
@[simp] theorem x_tvYes : tvYes ρ S = .ok true S := rfl
def andR (o : Option Bool) (d : D) (S : Store) (k : Res D) : Res D := match o with | some true => k | some false => .ok d S | none => .no
@[simp] theorem andR_t {k : Res D} : andR (some true) d S k = k := rfl
@[simp] theorem andR_f {k : Res D} : andR (some false) d S k = .ok d S := rfl
theorem andR_b {k : Res D} {b : Bool} : andR (some b) d S k = if b = true then k else .ok d S := by cases b <;> rfl
@[simp] theorem x_eAnd : eAnd f g ρ S = (f ρ S).bind fun d S1 => andR (truD d S1) d S1 (g ρ S1) := by
  unfold eAnd andR
  congr
@[simp] theorem x_eOr : eOr f g ρ S = (f ρ S).bind fun d S1 => andR ((truD d S1).map (!·)) d S1 (g ρ S1) := by
  unfold eOr andR
  congr; funext d S1
  cases truD d S1 with
  | none => rfl
  | some b => cases b <;> rfl
def notR (o : Option Bool) (S : Store) : Res D := match o with | some b => .ok (.bl (!b)) S | none => .no
@[simp] theorem notR_some {b : Bool} : notR (some b) S = .ok (.bl (!b)) S := rfl
@[simp] theorem x_eNot : eNot f ρ S = (f ρ S).bind fun d S1 => notR (truD d S1) S1 := rfl
@[simp] theorem x_eIf : eIf t f g ρ S = (t ρ S).bind fun b S1 => if b = true then f ρ S1 else g ρ S1 := rfl
def negR (d : D) (S : Store) : Res D := match d with | .int i => .ok (.int (-i)) S | _ => .no
@[simp] theorem negR_int {i : Int} : negR (.int i) S = .ok (.int (-i)) S := rfl
@[simp] theorem x_eNeg : eNeg f ρ S = (f ρ S).bind fun d S1 => negR d S1 := rfl
@[simp] theorem x_aNil : aNil ρ S = .ok [] S := rfl
@[simp] theorem x_aCons : aCons f a ρ S = (f ρ S).bind fun d S1 => (a ρ S1).bind fun ds S2 => .ok (d :: ds) S2 := rfl
@[simp] theorem x_eTup : eTup a ρ S = (a ρ S).bind fun ds S1 => if ds.length ≤ 1000000 then .ok (.tup ds) S1 else .no := rfl
@[simp] theorem x_eLst : eLst a ρ S = (a ρ S).bind fun ds S1 => if ds.length ≤ 1000000 then .ok (.lst S1.length) (S1 ++ [ds]) else .no := rfl
@[simp] theorem x_eCallO : eCallO v a ρ S = (a ρ S).bind fun ds S1 => (v ds S1).res := rfl
@[simp] theorem x_eCall : eCall F a ρ S = (a ρ S).bind fun ds S1 => F ds S1 := rfl
@[simp] theorem x_eCallK {n m : Nat} {pi : List Nat} : eCallK F n m pi a b ρ S = (a ρ S).bind fun ds S1 => (b ρ S1).bind fun zs S2 => if ds.length = n ∧ zs.length = m then F (perm pi (ds ++ zs)) S2 else .no := rfl
@[simp] theorem perm_1 {x : D} : perm [0] [x] = [x] := rfl
@[simp] theorem perm_2 {x y : D} : perm [0, 1] [x, y] = [x, y] := rfl
@[simp] theorem perm_2s {x y : D} : perm [1, 0] [x, y] = [y, x] := rfl
theorem fn_ev {n k : Nat} {b : Sv} {ds : List D} (h : ds.length = n := by rfl) : fnOf n k b ds S = (b (st0 k ds) S).res := if_pos h
@[simp] theorem res_rt : (SRes.rt d S).res = .ok d S := rfl
@[simp] theorem res_nx : (SRes.nx ρ S).res = .ok .non S := rfl
@[simp] theorem res_exc : (SRes.exc c ρ S).res = .exc c S := rfl
/-! operations -/
@[simp] theorem oAdd_int {i j : Int} : oAdd (.int i) (.int j) S = some (.int (i + j), S) := rfl
@[simp] theorem oSub_int {i j : Int} : oSub (.int i) (.int j) S = some (.int (i - j), S) := rfl
/-- the size of a number: its bits -/
def Sm (k : Nat) (i : Int) : Prop := i.natAbs < 2 ^ k
theorem Sm.log {k : Nat} {i : Int} (h : Sm k i) : i.natAbs.log2 ≤ k := by
  unfold Sm at h
  by_cases z : i.natAbs = 0
  · rw [z]; simp
  · exact Nat.le_of_lt ((Nat.log2_lt z).mpr h)
theorem oMul_int {i j : Int} {k l : Nat} (hi : Sm k i) (hj : Sm l j) (h : k + l < 9000000) : oMul (.int i) (.int j) S = some (.int (i * j), S) := by
  have h1 := hi.log
  have h2 := hj.log
  show (if i.natAbs.log2 + j.natAbs.log2 < 9000000 then some (D.int (i * j), S) else none) = _
  rw [if_pos (by omega)]
theorem oDiv_int {i j : Int} {k : Nat} (h0 : 0 < j) (hj : Sm k j) (h : k < 9000) : oDiv (.int i) (.int j) S = some (.int (i / j), S) := by
  have h1 := hj.log
  show (if 0 < j ∧ j.natAbs.log2 < 9000 then some (D.int (i / j), S) else none) = _
  rw [if_pos ⟨h0, by omega⟩]
theorem oMod_int {i j : Int} (h0 : 0 < j) : oMod (.int i) (.int j) S = some (.int (i % j), S) := if_pos h0
@[simp] theorem oLt_int {i j : Int} : oLt (.int i) (.int j) S = some (.bl (decide (i < j)), S) := rfl
@[simp] theorem oLe_int {i j : Int} : oLe (.int i) (.int j) S = some (.bl (decide (i ≤ j)), S) := rfl
@[simp] theorem oGt_int {i j : Int} : oGt (.int i) (.int j) S = some (.bl (decide (j < i)), S) := rfl
@[simp] theorem oGe_int {i j : Int} : oGe (.int i) (.int j) S = some (.bl (decide (j ≤ i)), S) := rfl
@[simp] theorem oIs_non : oIs false .non .non S = some (.bl true, S) := rfl
@[simp] theorem oIs_int {i : Int} : oIs false (.int i) .non S = some (.bl false, S) := rfl
@[simp] theorem oIs_bl {i : Bool} : oIs false (.bl i) .non S = some (.bl false, S) := rfl
@[simp] theorem oIs_str {i : Str} : oIs false (.str i) .non S = some (.bl false, S) := rfl
@[simp] theorem oIs_tup {i : List D} : oIs false (.tup i) .non S = some (.bl false, S) := rfl
@[simp] theorem oIs_lst {i : Nat} : oIs false (.lst i) .non S = some (.bl false, S) := rfl
theorem atI_nat {α : Type} (xs : List α) (i : Nat) : atI xs (i : Int) = xs[i]? := by
  unfold atI ixN
  rw [if_pos (Int.natCast_nonneg i)]
  by_cases h : (i : Int) < xs.length
  · rw [if_pos h]; rfl
  · rw [if_neg h, List.getElem?_eq_none (by omega)]; rfl
@[simp] theorem atI_0 {α : Type} {x : α} {r : List α} : atI (x :: r) 0 = some x := atI_nat (x :: r) 0
@[simp] theorem atI_1 {α : Type} {x y : α} {r : List α} : atI (x :: y :: r) 1 = some y := atI_nat (x :: y :: r) 1
@[simp] theorem atI_2 {α : Type} {x y z : α} {r : List α} : atI (x :: y :: z :: r) 2 = some z := atI_nat (x :: y :: z :: r) 2
@[simp] theorem oIx_tup {xs : List D} {i : Int} : oIx (.tup xs) (.int i) S = (atI xs i).map fun d => (d, S) := rfl
@[simp] theorem oIx_lst {r : Nat} {i : Int} : oIx (.lst r) (.int i) S = (S[r]?).bind fun xs => (atI xs i).map fun d => (d, S) := rfl
@[simp] theorem cLen_tup {xs : List D} : cLen [.tup xs] S = some (.int xs.length, S) := rfl
@[simp] theorem cLen_fz {xs : List D} : cLen [.fz xs] S = some (.int xs.length, S) := rfl
@[simp] theorem cLen_lst {r : Nat} : cLen [.lst r] S = (S[r]?).map fun xs => (.int xs.length, S) := rfl
@[simp] theorem cInt_int {i : Int} : cInt [.int i] S = some (.int i, S) := rfl
@[simp] theorem cInt_bl {b : Bool} : cInt [.bl b] S = some (.int (if b then 1 else 0), S) := rfl
@[simp] theorem cAbs_int {i : Int} : cAbs [.int i] S = some (.int (if i < 0 then -i else i), S) := rfl
@[simp] theorem cMin_int {i j : Int} : cMin2 [.int i, .int j] S = some (.int (if j < i then j else i), S) := rfl
@[simp] theorem cGcd_int {i j : Int} : cGcd [.int i, .int j] S = some (.int ((Nat.gcd i.natAbs j.natAbs : Nat) : Int), S) := rfl
@[simp] theorem cTuple_d {d : D} : cTuple [d] S = (items d S).map fun xs => (.tup xs, S) := rfl
@[simp] theorem cList_d {d : D} : cList [d] S = (items d S).map fun xs => (.lst S.length, S ++ [xs]) := rfl
@[simp] theorem items_tup {xs : List D} : items (.tup xs) S = some xs := rfl
@[simp] theorem items_fz {xs : List D} : items (.fz xs) S = some xs := rfl
@[simp] theorem items_lst {r : Nat} : items (.lst r) S = S[r]? := rfl
@[simp] theorem cIsi_ty {t : Ty} : cIsi [d, .ty t] S = (isTy d t).map fun b => (.bl b, S) := by cases d <;> rfl
@[simp] theorem cIsi_tup {ts : List D} : cIsi [d, .tup ts] S = (anyTy d ts).map fun b => (.bl b, S) := by cases d <;> rfl
@[simp] theorem any_two {t u : Ty} {x y : Bool} : anyTy d [.ty t, .ty u] = (match isTy d t, (match isTy d u, (tyN d).map fun _ => false with | some a, some b => some (a || b) | _, _ => none) with | some a, some b => some (a || b) | _, _ => none) := rfl
@[simp] theorem Out_some : Out.res (some (d, S)) = .ok d S := rfl
@[simp] theorem x_iOf : iOf f ρ S = (f ρ S).bind fun d S1 => match itOf d with | some a => .ok a S1 | none => .no := rfl
theorem toP_int (n : Nat) (S : Store) (i : Int) : toP (n + 1) S (.int i) = some (.int i) := by unfold toP; rfl
theorem toP_bl (n : Nat) (S : Store) (i : Bool) : toP (n + 1) S (.bl i) = some (.bool i) := by unfold toP; rfl
theorem toP_non (n : Nat) (S : Store) : toP (n + 1) S .non = some .none := by unfold toP; rfl
@[simp] theorem oEq_int (i j : Int) (S : Store) : oEq (.int i) (.int j) S = some (.bl (decide (i = j)), S) := by
  unfold oEq; rw [toP_int, toP_int]; simp [PyData.eqv]
  exact Bool.beq_eq_decide_eq i j
@[simp] theorem oNe_int (i j : Int) (S : Store) : oNe (.int i) (.int j) S = some (.bl (!decide (i = j)), S) := by
  unfold oNe; rw [toP_int, toP_int]; simp [PyData.eqv]
  exact Bool.beq_eq_decide_eq i j
@[simp] theorem oEq_bl (i j : Bool) (S : Store) : oEq (.bl i) (.bl j) S = some (.bl (i == j), S) := by
  unfold oEq; rw [toP_bl, toP_bl]; simp [PyData.eqv]
@[simp] theorem oNe_bl (i j : Bool) (S : Store) : oNe (.bl i) (.bl j) S = some (.bl (!(i == j)), S) := by
  unfold oNe; rw [toP_bl, toP_bl]; simp [PyData.eqv]
theorem toP_pair (S : Store) (a b : Int) : toP 64 S (.tup [.int a, .int b]) = some (.tuple [.int a, .int b]) := by
  unfold toP; simp [mapO, toP_int]
@[simp] theorem oEq_pair (a b c d : Int) (S : Store) : oEq (.tup [.int a, .int b]) (.tup [.int c, .int d]) S = some (.bl (decide (a = c) && decide (b = d)), S) := by
  unfold oEq; rw [toP_pair, toP_pair]; simp [PyData.eqv, PyData.eqvAll, Bool.beq_eq_decide_eq]
@[simp] theorem oNe_pair (a b c d : Int) (S : Store) : oNe (.tup [.int a, .int b]) (.tup [.int c, .int d]) S = some (.bl (!(decide (a = c) && decide (b = d))), S) := by
  unfold oNe; rw [toP_pair, toP_pair]; simp [PyData.eqv, PyData.eqvAll, Bool.beq_eq_decide_eq]
end
end Sd
/-! Prun: loops and comprehensions of the mirrors. -/
namespace Sd
open PySem PySem.Spec L2
theorem for_go {a : Itr} {t : NT} {b : Sv} {xs : List D} (I : Nat → Loc → Store → Prop) (ha : ∀ i ρ S, I i ρ S → a S i = xs[i]?)
    (step : ∀ i d ρ S, xs[i]? = some d → I i ρ S → ∃ ρ1 ρ2 S2, t.b d ρ = some ρ1 ∧ (b ρ1 S = .nx ρ2 S2 ∨ b ρ1 S = .ct ρ2 S2) ∧ I (i + 1) ρ2 S2) :
    ∀ (n i : Nat) (ρ : Loc) (S : Store), xs.length - i < n → I i ρ S → i ≤ xs.length → ∃ ρ' S', sForGo a t b n i ρ S = .nx ρ' S' ∧ I xs.length ρ' S'
  | 0, i, ρ, S, h, hI, hi => by omega
  | n + 1, i, ρ, S, h, hI, hi => by
    unfold sForGo
    rw [ha i ρ S hI]
    cases e : xs[i]? with
    | none =>
      have : i = xs.length := by
        have := List.getElem?_eq_none_iff.mp e
        omega
      subst this
      exact ⟨ρ, S, rfl, hI⟩
    | some d =>
      have hlt := (List.getElem?_eq_some_iff.mp e).1
      obtain ⟨ρ1, ρ2, S2, h1, h2, h3⟩ := step i d ρ S e hI
      dsimp only
      rw [h1]
      dsimp only
      have ih := for_go I ha step n (i + 1) ρ2 S2 (by omega) h3 (by omega)
      rcases h2 with h2 | h2
      · rw [h2]; exact ih
      · rw [h2]; exact ih
theorem for_run {a : Itr} {t : NT} {b : Sv} {it : Iv} {xs : List D} {ρ : Loc} {S S1 : Store} (I : Nat → Loc → Store → Prop) (hit : it ρ S = .ok a S1) (hl : xs.length < fuel) (h0 : I 0 ρ S1) (ha : ∀ i ρ S, I i ρ S → a S i = xs[i]?)
    (step : ∀ i d ρ S, xs[i]? = some d → I i ρ S → ∃ ρ1 ρ2 S2, t.b d ρ = some ρ1 ∧ (b ρ1 S = .nx ρ2 S2 ∨ b ρ1 S = .ct ρ2 S2) ∧ I (i + 1) ρ2 S2) :
    ∃ ρ' S', sFor it t b ρ S = .nx ρ' S' ∧ I xs.length ρ' S' := by
  unfold sFor
  rw [hit, st_ok]
  exact for_go I ha step fuel 0 ρ S1 (by omega) h0 (Nat.zero_le _)
/-- a loop that may leave: each turn goes on or ends in an outcome that is as wished -/
theorem for_go2 {a : Itr} {t : NT} {b : Sv} {xs : List D} (I : Nat → Loc → Store → Prop) (Z : SRes → Prop) (ha : ∀ i ρ S, I i ρ S → a S i = xs[i]?) (hz : ∀ ρ S, I xs.length ρ S → Z (.nx ρ S))
    (step : ∀ i d ρ S, xs[i]? = some d → I i ρ S → ∃ ρ1, t.b d ρ = some ρ1 ∧ ((∃ ρ2 S2, (b ρ1 S = .nx ρ2 S2 ∨ b ρ1 S = .ct ρ2 S2) ∧ I (i + 1) ρ2 S2) ∨ (∃ ρ2 S2, b ρ1 S = .bk ρ2 S2 ∧ Z (.nx ρ2 S2)) ∨ (∃ d S2, b ρ1 S = .rt d S2 ∧ Z (.rt d S2)) ∨ (∃ c ρ2 S2, b ρ1 S = .exc c ρ2 S2 ∧ Z (.exc c ρ2 S2)))) :
    ∀ (n i : Nat) (ρ : Loc) (S : Store), xs.length - i < n → I i ρ S → i ≤ xs.length → Z (sForGo a t b n i ρ S)
  | 0, i, ρ, S, h, hI, hi => by omega
  | n + 1, i, ρ, S, h, hI, hi => by
    unfold sForGo
    rw [ha i ρ S hI]
    cases e : xs[i]? with
    | none =>
      have : i = xs.length := by
        have := List.getElem?_eq_none_iff.mp e
        omega
      subst this
      exact hz ρ S hI
    | some d =>
      have hlt := (List.getElem?_eq_some_iff.mp e).1
      obtain ⟨ρ1, h1, h⟩ := step i d ρ S e hI
      dsimp only
      rw [h1]
      dsimp only
      rcases h with ⟨ρ2, S2, h2, h3⟩ | ⟨ρ2, S2, h2, h3⟩ | ⟨d, S2, h2, h3⟩ | ⟨c, ρ2, S2, h2, h3⟩
      · have ih := for_go2 I Z ha hz step n (i + 1) ρ2 S2 (by omega) h3 (by omega)
        rcases h2 with h2 | h2
        · rw [h2]; exact ih
        · rw [h2]; exact ih
      · rw [h2]; exact h3
      · rw [h2]; exact h3
      · rw [h2]; exact h3
theorem for_run2 {a : Itr} {t : NT} {b : Sv} {it : Iv} {xs : List D} {ρ : Loc} {S S1 : Store} (I : Nat → Loc → Store → Prop) (Z : SRes → Prop) (hit : it ρ S = .ok a S1) (hl : xs.length < fuel) (h0 : I 0 ρ S1) (ha : ∀ i ρ S, I i ρ S → a S i = xs[i]?) (hz : ∀ ρ S, I xs.length ρ S → Z (.nx ρ S))
    (step : ∀ i d ρ S, xs[i]? = some d → I i ρ S → ∃ ρ1, t.b d ρ = some ρ1 ∧ ((∃ ρ2 S2, (b ρ1 S = .nx ρ2 S2 ∨ b ρ1 S = .ct ρ2 S2) ∧ I (i + 1) ρ2 S2) ∨ (∃ ρ2 S2, b ρ1 S = .bk ρ2 S2 ∧ Z (.nx ρ2 S2)) ∨ (∃ d S2, b ρ1 S = .rt d S2 ∧ Z (.rt d S2)) ∨ (∃ c ρ2 S2, b ρ1 S = .exc c ρ2 S2 ∧ Z (.exc c ρ2 S2)))) :
    Z (sFor it t b ρ S) := by
  unfold sFor
  rw [hit, st_ok]
  exact for_go2 I Z ha hz step fuel 0 ρ S1 (by omega) h0 (Nat.zero_le _)
theorem while_go {c : Tv} {b : Sv} (I : Nat → Loc → Store → Prop) (Z : SRes → Prop)
    (step : ∀ n ρ S, I n ρ S → (∃ S1, c ρ S = .ok false S1 ∧ Z (.nx ρ S1)) ∨ ∃ S1, c ρ S = .ok true S1 ∧ ((∃ ρ2 S2 m, (b ρ S1 = .nx ρ2 S2 ∨ b ρ S1 = .ct ρ2 S2) ∧ m < n ∧ I m ρ2 S2) ∨ (∃ ρ2 S2, b ρ S1 = .bk ρ2 S2 ∧ Z (.nx ρ2 S2)) ∨ (∃ d S2, b ρ S1 = .rt d S2 ∧ Z (.rt d S2)) ∨ (∃ c ρ2 S2, b ρ S1 = .exc c ρ2 S2 ∧ Z (.exc c ρ2 S2)))) :
    ∀ (k n : Nat) (ρ : Loc) (S : Store), n < k → I n ρ S → Z (sWhileGo c b k ρ S)
  | 0, n, ρ, S, h, hI => by omega
  | k + 1, n, ρ, S, h, hI => by
    unfold sWhileGo
    rcases step n ρ S hI with ⟨S1, h1, h2⟩ | ⟨S1, h1, hh⟩
    · rw [h1, st_ok]
      exact h2
    · rw [h1, st_ok, if_pos rfl]
      rcases hh with ⟨ρ2, S2, m, h2, hm, h3⟩ | ⟨ρ2, S2, h2, h3⟩ | ⟨d, S2, h2, h3⟩ | ⟨c, ρ2, S2, h2, h3⟩
      · have ih := while_go I Z step k m ρ2 S2 (by omega) h3
        rcases h2 with h2 | h2
        · rw [h2]; exact ih
        · rw [h2]; exact ih
      · rw [h2]; exact h3
      · rw [h2]; exact h3
      · rw [h2]; exact h3
/-- a loop whose measure goes down -/
theorem while_run {c : Tv} {b : Sv} {ρ : Loc} {S : Store} (I : Nat → Loc → Store → Prop) (Z : SRes → Prop) (n : Nat) (hn : n < fuel) (h0 : I n ρ S)
    (step : ∀ n ρ S, I n ρ S → (∃ S1, c ρ S = .ok false S1 ∧ Z (.nx ρ S1)) ∨ ∃ S1, c ρ S = .ok true S1 ∧ ((∃ ρ2 S2 m, (b ρ S1 = .nx ρ2 S2 ∨ b ρ S1 = .ct ρ2 S2) ∧ m < n ∧ I m ρ2 S2) ∨ (∃ ρ2 S2, b ρ S1 = .bk ρ2 S2 ∧ Z (.nx ρ2 S2)) ∨ (∃ d S2, b ρ S1 = .rt d S2 ∧ Z (.rt d S2)) ∨ (∃ c ρ2 S2, b ρ S1 = .exc c ρ2 S2 ∧ Z (.exc c ρ2 S2)))) :
    Z (sWhile c b ρ S) := while_go I Z step fuel n ρ S hn h0
/-- a comprehension: each turn's element; what the elements leave in the store is told by J -/
theorem lc_go {a : Itr} {t : NT} {c : Tv} {f : Ev} {ρ : Loc} {r : Nat} {xs : List D} {ys : List D} (J : Nat → Store → Prop) (hlen : ys.length = xs.length) (hl : ys.length ≤ 1000000) (ha : ∀ i S, J i S → a S i = xs[i]?)
    (hr : ∀ i S, J i S → S[r]? = some (ys.take i))
    (step : ∀ i d y S, xs[i]? = some d → ys[i]? = some y → J i S → ∃ ρ1 S2, t.b d ρ = some ρ1 ∧ c ρ1 S = .ok true S ∧ f ρ1 S = .ok y S2 ∧ S2[r]? = some (ys.take i) ∧ J (i + 1) (S2.set r (ys.take i ++ [y]))) :
    ∀ (n i : Nat) (S : Store), xs.length - i < n → J i S → i ≤ xs.length → ∃ S', lcGo a t c f ρ r n i S = .ok () S' ∧ J xs.length S'
  | 0, i, S, h, hI, hi => by omega
  | n + 1, i, S, h, hI, hi => by
    unfold lcGo
    rw [ha i S hI]
    cases e : xs[i]? with
    | none =>
      have : i = xs.length := by
        have := List.getElem?_eq_none_iff.mp e
        omega
      subst this
      exact ⟨S, rfl, hI⟩
    | some d =>
      have hlt := (List.getElem?_eq_some_iff.mp e).1
      obtain ⟨ρ1, S2, h1, h2, h3, h4, h5⟩ := step i d ys[i] S e (List.getElem?_eq_getElem (by omega)) hI
      dsimp only
      rw [h1]
      dsimp only
      rw [h2, nox_ok, bind_ok, if_pos rfl, h3, nox_ok, bind_ok, h4]
      dsimp only
      rw [if_pos (by unfold lim; rw [List.length_take]; omega)]
      exact lc_go J hlen hl ha hr step n (i + 1) _ (by omega) h5 (by omega)
theorem lc_run {a : Itr} {t : NT} {c : Tv} {f : Ev} {ρ : Loc} {it : Iv} {vs : List Nat} {xs : List D} (ys : List D) {S S1 : Store} (J : Nat → Store → Prop) (hit : it ρ S = .ok a S1) (hlen : ys.length = xs.length) (hl : ys.length ≤ 1000000) (h0 : J 0 (S1 ++ [[]])) (ha : ∀ i S, J i S → a S i = xs[i]?)
    (hr : ∀ i S, J i S → S[S1.length]? = some (ys.take i))
    (step : ∀ i d y S, xs[i]? = some d → ys[i]? = some y → J i S → ∃ ρ1 S2, t.b d (wipeL ρ vs) = some ρ1 ∧ c ρ1 S = .ok true S ∧ f ρ1 S = .ok y S2 ∧ S2[S1.length]? = some (ys.take i) ∧ J (i + 1) (S2.set S1.length (ys.take i ++ [y]))) :
    ∃ S', eLc vs it t c f ρ S = .ok (.lst S1.length) S' ∧ J xs.length S' := by
  unfold eLc
  rw [hit, bind_ok]
  obtain ⟨S', h1, h2⟩ := lc_go J hlen hl ha hr step fuel 0 _ (by rw [← hlen]; unfold fuel; omega) h0 (Nat.zero_le _)
  exact ⟨S', by rw [h1, bind_ok], h2⟩
def SRes.lp (r : SRes) (k : Sv) : SRes := match r with
  | .nx ρ S => k ρ S
  | .ct ρ S => k ρ S
  | .bk ρ S => .nx ρ S
  | o => o
@[simp] theorem lp_nx {ρ : Loc} {S : Store} {k : Sv} : (SRes.nx ρ S).lp k = k ρ S := rfl
@[simp] theorem lp_ct {ρ : Loc} {S : Store} {k : Sv} : (SRes.ct ρ S).lp k = k ρ S := rfl
@[simp] theorem lp_bk {ρ : Loc} {S : Store} {k : Sv} : (SRes.bk ρ S).lp k = .nx ρ S := rfl
@[simp] theorem lp_rt {d : D} {S : Store} {k : Sv} : (SRes.rt d S).lp k = .rt d S := rfl
@[simp] theorem lp_exc {c : Addr} {ρ : Loc} {S : Store} {k : Sv} : (SRes.exc c ρ S).lp k = .exc c ρ S := rfl
def forL (t : NT) (b : Sv) : List D → Sv
  | [] => fun ρ S => .nx ρ S
  | d :: r => fun ρ S => match t.b d ρ with
    | none => .no
    | some ρ1 => (b ρ1 S).lp (forL t b r)
@[simp] theorem forL_nil {t : NT} {b : Sv} {ρ : Loc} {S : Store} : forL t b [] ρ S = .nx ρ S := rfl
theorem forL_cons {t : NT} {b : Sv} {d : D} {r : List D} {ρ ρ1 : Loc} {S : Store} (h : t.b d ρ = some ρ1) : forL t b (d :: r) ρ S = (b ρ1 S).lp (forL t b r) := by
  show (match t.b d ρ with | none => SRes.no | some ρ1 => (b ρ1 S).lp (forL t b r)) = _
  rw [h]
theorem forGo_seq {t : NT} {b : Sv} {xs : List D} : ∀ (n i : Nat) (ρ : Loc) (S : Store), xs.length - i < n → sForGo (itSeq xs) t b n i ρ S = forL t b (xs.drop i) ρ S
  | 0, i, ρ, S, h => by omega
  | n + 1, i, ρ, S, h => by
    unfold sForGo
    show (match xs[i]? with | none => SRes.nx ρ S | some d => _) = _
    cases e : xs[i]? with
    | none =>
      rw [List.drop_eq_nil_of_le (List.getElem?_eq_none_iff.mp e)]
      rfl
    | some d =>
      obtain ⟨hlt, rfl⟩ := List.getElem?_eq_some_iff.mp e
      rw [List.drop_eq_getElem_cons hlt]
      dsimp only
      show _ = (match t.b xs[i] ρ with | none => SRes.no | some ρ1 => (b ρ1 S).lp (forL t b (xs.drop (i + 1))))
      cases t.b xs[i] ρ with
      | none => rfl
      | some ρ1 =>
        dsimp only
        have ih := fun ρ S => forGo_seq (t := t) (b := b) (xs := xs) n (i + 1) ρ S (by omega)
        cases b ρ1 S with
        | nx ρ2 S2 => exact ih ρ2 S2
        | ct ρ2 S2 => exact ih ρ2 S2
        | _ => rfl
theorem for_seq {t : NT} {b : Sv} {it : Iv} {xs : List D} {ρ : Loc} {S S1 : Store} (hit : it ρ S = .ok (itSeq xs) S1) (hl : xs.length < fuel := by simp [fuel]) : sFor it t b ρ S = forL t b xs ρ S1 := by
  unfold sFor
  rw [hit, st_ok, forGo_seq _ _ _ _ (by omega)]
  rfl
theorem nb_nm {i : Nat} {d : D} {ρ : Loc} : (NT.nm i).b d ρ = some (ρ.set i (some d)) := by unfold NT.b; rfl
theorem nb_tp {ts : List NT} {xs : List D} {ρ : Loc} : (NT.tp ts).b (.tup xs) ρ = NT.bs ts xs ρ := by unfold NT.b; rfl
theorem nbs_nil {ρ : Loc} : NT.bs [] [] ρ = some ρ := by unfold NT.bs; rfl
theorem nbs_cons' {t : NT} {ts : List NT} {x : D} {xs : List D} {ρ : Loc} : NT.bs (t :: ts) (x :: xs) ρ = (NT.b t x ρ).bind fun ρ' => NT.bs ts xs ρ' := by
  conv => lhs; unfold NT.bs
theorem nbs_cons {t : NT} {ts : List NT} {x : D} {xs : List D} {ρ ρ1 : Loc} (h : t.b x ρ = some ρ1) : NT.bs (t :: ts) (x :: xs) ρ = NT.bs ts xs ρ1 := by
  rw [nbs_cons', h]; rfl
theorem get_app {S g : Store} {r : Nat} (h : r < S.length) : (S ++ g)[r]? = S[r]? := List.getElem?_append_left h
theorem set_end {S : Store} {x y : List D} {g : Store} : (S ++ [x] ++ g).set S.length y = S ++ [y] ++ g := by
  rw [List.append_assoc, List.append_assoc, List.set_append_right _ _ (Nat.le_refl _), Nat.sub_self]
  rfl
/-- a comprehension whose elements change nothing of what stands: each lays at most something new -/
theorem lc_new {a : Itr} {t : NT} {c : Tv} {f : Ev} {ρ : Loc} {it : Iv} {vs : List Nat} {xs : List D} (ys : List D) {S S1 : Store} (hit : it ρ S = .ok a S1) (hlen : ys.length = xs.length) (hl : ys.length ≤ 1000000) (ha : ∀ i g, a (S1 ++ g) i = xs[i]?)
    (step : ∀ (i : Nat) (d y : D) (g : Store), xs[i]? = some d → ys[i]? = some y → ∃ ρ1 g', t.b d (wipeL ρ vs) = some ρ1 ∧ c ρ1 (S1 ++ g) = .ok true (S1 ++ g) ∧ f ρ1 (S1 ++ g) = .ok y (S1 ++ g ++ g')) :
    ∃ g, eLc vs it t c f ρ S = .ok (.lst S1.length) (S1 ++ [ys] ++ g) := by
  obtain ⟨S', h1, g, h2⟩ := lc_run ys (fun i T => ∃ g, T = S1 ++ [ys.take i] ++ g) hit hlen hl ⟨[], by simp⟩ (fun i T ⟨g, e⟩ => by rw [e, List.append_assoc]; exact ha i _)
    (fun i T ⟨g, e⟩ => by rw [e, List.append_assoc, List.getElem?_append_right (Nat.le_refl _), Nat.sub_self]; rfl) fun i d y T e1 e2 ⟨g, e⟩ => by
      obtain ⟨ρ1, g', q1, q2, q3⟩ := step i d y ([ys.take i] ++ g) e1 e2
      rw [← List.append_assoc] at q2 q3
      subst e
      have ey : ys.take i ++ [y] = ys.take (i + 1) := by
        have := List.getElem?_eq_some_iff.mp e2
        obtain ⟨hlt, rfl⟩ := this
        exact (List.take_succ_eq_append_getElem hlt).symm
      refine ⟨ρ1, _, q1, q2, q3, ?_, g ++ g', ?_⟩
      · rw [List.append_assoc, List.append_assoc, List.getElem?_append_right (Nat.le_refl _), Nat.sub_self]; rfl
      · rw [List.append_assoc (S1 ++ [_]) g g', set_end, ey]
  refine ⟨g, ?_⟩
  rw [h1, h2, ← hlen, List.take_length]
/-- .. and lays nothing at all -/
theorem lc_pure {a : Itr} {t : NT} {c : Tv} {f : Ev} {ρ : Loc} {it : Iv} {vs : List Nat} {xs : List D} (ys : List D) {S S1 : Store} (hit : it ρ S = .ok a S1) (hlen : ys.length = xs.length) (hl : ys.length ≤ 1000000) (ha : ∀ i g, a (S1 ++ g) i = xs[i]?)
    (step : ∀ (i : Nat) (d y : D) (g : Store), xs[i]? = some d → ys[i]? = some y → ∃ ρ1, t.b d (wipeL ρ vs) = some ρ1 ∧ c ρ1 (S1 ++ g) = .ok true (S1 ++ g) ∧ f ρ1 (S1 ++ g) = .ok y (S1 ++ g)) :
    eLc vs it t c f ρ S = .ok (.lst S1.length) (S1 ++ [ys]) := by
  obtain ⟨S', h1, h2⟩ := lc_run ys (fun i T => T = S1 ++ [ys.take i]) hit hlen hl (by simp) (fun i T e => by rw [e]; exact ha i _)
    (fun i T e => by rw [e, List.getElem?_append_right (Nat.le_refl _), Nat.sub_self]; rfl) fun i d y T e1 e2 e => by
      obtain ⟨ρ1, q1, q2, q3⟩ := step i d y [ys.take i] e1 e2
      subst e
      have ey : ys.take i ++ [y] = ys.take (i + 1) := by
        have := List.getElem?_eq_some_iff.mp e2
        obtain ⟨hlt, rfl⟩ := this
        exact (List.take_succ_eq_append_getElem hlt).symm
      refine ⟨ρ1, _, q1, q2, q3, ?_, ?_⟩
      · rw [List.getElem?_append_right (Nat.le_refl _), Nat.sub_self]; rfl
      · have := set_end (S := S1) (x := ys.take i) (y := ys.take i ++ [y]) (g := [])
        rw [List.append_nil, List.append_nil] at this
        rw [this, ey]
  rw [h1, h2, ← hlen, List.take_length]
end Sd
/-! Rmath: fractions as Rat, their sizes. -/
namespace Sd.R
open PySem PySem.Spec L2 Sd
theorem Sm.mono {k l : Nat} {i : Int} (h : Sm k i) (hl : k ≤ l) : Sm l i := Nat.lt_of_lt_of_le h (Nat.pow_le_pow_right (by decide) hl)
theorem Sm.mul {k l : Nat} {i j : Int} (hi : Sm k i) (hj : Sm l j) : Sm (k + l) (i * j) := by
  unfold Sm at *
  rw [Int.natAbs_mul, Nat.pow_add]
  exact Nat.mul_lt_mul'' hi hj
theorem Sm.add {k : Nat} {i j : Int} (hi : Sm k i) (hj : Sm k j) : Sm (k + 1) (i + j) := by
  unfold Sm at *
  rw [Nat.pow_succ]
  omega
theorem Sm.sub {k : Nat} {i j : Int} (hi : Sm k i) (hj : Sm k j) : Sm (k + 1) (i - j) := by
  unfold Sm at *
  rw [Nat.pow_succ]
  omega
theorem Sm.neg {k : Nat} {i : Int} (hi : Sm k i) : Sm k (-i) := by
  unfold Sm at *
  rw [Int.natAbs_neg]; exact hi
structure Bd (k : Nat) (q : Rat) : Prop where
  n : Sm k q.num
  d : Sm k q.den
theorem Bd.mono {k l : Nat} {q : Rat} (h : Bd k q) (hl : k ≤ l) : Bd l q := ⟨Sm.mono h.n hl, Sm.mono h.d hl⟩
theorem div_num (a b : Int) (hb : b ≠ 0) : (Rat.divInt a b).num = (if 0 < b then a else -a) / Int.gcd a b ∧ ((Rat.divInt a b).den : Int) = (if 0 < b then b else -b) / Int.gcd a b := by
  match b, hb with
  | .ofNat 0, hb => exact absurd rfl hb
  | .ofNat (n + 1), hb =>
    have e : Rat.divInt a (Int.ofNat (n + 1)) = Rat.normalize a (n + 1) (by omega) := by
      unfold Rat.divInt mkRat
      simp
    have e2 : ((n : Int) + 1).natAbs = n + 1 := by omega
    rw [e, Rat.num_normalize, Rat.den_normalize, if_pos (by simp), if_pos (by simp)]
    exact ⟨rfl, by simp [Int.gcd, e2]⟩
  | .negSucc n, hb =>
    have e : Rat.divInt a (Int.negSucc n) = Rat.normalize (-a) (n + 1) (by omega) := by
      unfold Rat.divInt
      rfl
    rw [e, Rat.num_normalize, Rat.den_normalize, if_neg (by simp), if_neg (by simp)]
    have g : (-a).natAbs.gcd (n + 1) = Int.gcd a (Int.negSucc n) := by
      unfold Int.gcd
      rw [Int.natAbs_neg]
      rfl
    rw [g]
    exact ⟨rfl, by simp [Int.neg_negSucc]⟩
theorem div_abs (a g : Int) (hg : 0 < g) : (a / g).natAbs ≤ a.natAbs := by
  rcases Int.lt_or_le a 0 with h | h
  · have h1 : a ≤ a / g := by
      rw [Int.le_ediv_iff_mul_le hg]
      have : a * g ≤ a * 1 := Int.mul_le_mul_of_nonpos_left (by omega) (by omega)
      omega
    have h2 : a / g < 0 := Int.ediv_neg_of_neg_of_pos h hg
    omega
  · have h1 := Int.ediv_le_self g h
    have h2 := Int.ediv_nonneg h (by omega : 0 ≤ g)
    omega
theorem gcd_pos {a b : Int} (hb : b ≠ 0) : 0 < (Int.gcd a b : Int) := by
  have : Int.gcd a b ≠ 0 := fun h => hb (Int.gcd_eq_zero_iff.mp h).2
  omega
theorem Bd.div {k : Nat} {a b : Int} (ha : Sm k a) (hb : Sm k b) (h0 : b ≠ 0) : Bd k (Rat.divInt a b) := by
  obtain ⟨h1, h2⟩ := div_num a b h0
  have g := gcd_pos (a := a) h0
  constructor
  · rw [h1]
    unfold Sm at *
    have := div_abs (if 0 < b then a else -a) _ g
    split at this <;> split <;> omega
  · rw [h2]
    unfold Sm at *
    have := div_abs (if 0 < b then b else -b) _ g
    split at this <;> split <;> omega
theorem mk_div (a : Int) (d e : Nat) : mkRat a (d * e) = Rat.divInt a ((d : Int) * e) := by
  rw [← Int.natCast_mul]; rfl
theorem add_div (p q : Rat) : p + q = Rat.divInt (p.num * q.den + q.num * p.den) (p.den * q.den) := by
  rw [Rat.add_def', mk_div]
theorem sub_div (p q : Rat) : p - q = Rat.divInt (p.num * q.den - q.num * p.den) (p.den * q.den) := by
  rw [Rat.sub_def', mk_div]
theorem mul_div (p q : Rat) : p * q = Rat.divInt (p.num * q.num) (p.den * q.den) := by
  rw [Rat.mul_def', mk_div]
theorem dd_ne (p q : Rat) : ((p.den : Int) * q.den) ≠ 0 := by
  have h1 := p.den_pos
  have h2 := q.den_pos
  have := Int.mul_pos (show (0 : Int) < p.den by omega) (show (0 : Int) < q.den by omega)
  omega
theorem dd_pos (p q : Rat) : 0 < ((p.den : Int) * q.den) := by
  have h1 := p.den_pos
  have h2 := q.den_pos
  exact Int.mul_pos (show (0 : Int) < p.den by omega) (show (0 : Int) < q.den by omega)
theorem Bd.add {k : Nat} {p q : Rat} (hp : Bd k p) (hq : Bd k q) : Bd (k + k + 1) (p + q) := by
  rw [add_div]
  exact Bd.div (Sm.add (Sm.mul hp.n hq.d) (Sm.mul hq.n hp.d)) (Sm.mono (Sm.mul hp.d hq.d) (by omega)) (dd_ne p q)
theorem Bd.sub {k : Nat} {p q : Rat} (hp : Bd k p) (hq : Bd k q) : Bd (k + k + 1) (p - q) := by
  rw [sub_div]
  exact Bd.div (Sm.sub (Sm.mul hp.n hq.d) (Sm.mul hq.n hp.d)) (Sm.mono (Sm.mul hp.d hq.d) (by omega)) (dd_ne p q)
theorem Bd.mul {k : Nat} {p q : Rat} (hp : Bd k p) (hq : Bd k q) : Bd (k + k) (p * q) := by
  rw [mul_div]
  exact Bd.div (Sm.mul hp.n hq.n) (Sm.mul hp.d hq.d) (dd_ne p q)
theorem Bd.neg {k : Nat} {p : Rat} (hp : Bd k p) : Bd k (-p) := ⟨Sm.neg hp.n, hp.d⟩
theorem Sm.gcd {k : Nat} {a b : Int} (hb : Sm k b) (h0 : b ≠ 0) : Sm k (Int.gcd a b) := by
  unfold Sm at *
  have : Int.gcd a b ≤ b.natAbs := Nat.le_of_dvd (by omega) (Nat.gcd_dvd_right _ _)
  rw [Int.natAbs_natCast]
  omega
theorem div_div' (p q : Rat) : p / q = Rat.divInt (p.num * q.den) (p.den * q.num) := by
  rw [Rat.div_def, Rat.inv_def]
  have e : p = Rat.divInt p.num p.den := by
    have := Rat.normalize_self p
    rw [Rat.normalize_eq_mkRat] at this
    exact this.symm
  conv => lhs; rw [e]
  rw [Rat.divInt_mul_divInt]
theorem den_p (p : Rat) : (0 : Int) < p.den := by have := p.den_pos; omega
theorem half_div (p q : Rat) : (p + q) * (1 / 2) = Rat.divInt (p.num * q.den + q.num * p.den) (2 * p.den * q.den) := by
  rw [add_div, show (1 / 2 : Rat) = Rat.divInt 1 2 from (Rat.divInt_eq_div 1 2).symm, Rat.divInt_mul_divInt]
  congr 1
  · omega
  · grind
def cmpQ (p q : Rat) : Int := (if q < p then 1 else 0) - (if p < q then 1 else 0)
theorem cmp_pos (p q : Rat) : (0 < cmpQ p q) = (q < p) := by
  unfold cmpQ
  by_cases h : q < p
  · have : ¬ p < q := Rat.not_lt.mpr (Rat.le_of_lt h)
    simp [h, this]
  · by_cases h2 : p < q <;> simp [h, h2]
theorem cmp_swap (p q : Rat) : cmpQ q p = -cmpQ p q := by unfold cmpQ; omega
theorem cmp_neg (p q : Rat) : (cmpQ p q < 0) = (p < q) := by
  unfold cmpQ
  by_cases h : p < q
  · have : ¬ q < p := Rat.not_lt.mpr (Rat.le_of_lt h)
    simp [h, this]
  · by_cases h2 : q < p <;> simp [h, h2]
theorem cmp_add (p q c : Rat) : cmpQ (p + c) (q + c) = cmpQ p q := by
  unfold cmpQ
  simp only [Rat.add_lt_add_right]
theorem cmp_mul (p q c : Rat) (h : c.num ≠ 0) : cmpQ (p * c) (q * c) = if 0 < c.num then cmpQ p q else -cmpQ p q := by
  have e0 : ∀ x y : Rat, (-x < -y) = (y < x) := fun x y => propext Rat.neg_lt_neg_iff
  split
  · rename_i z
    have hc : 0 < c := (Rat.lt_iff _ _).mpr (by simpa using z)
    unfold cmpQ
    simp only [Rat.mul_lt_mul_right hc]
  · rename_i z
    have hc : 0 < -c := (Rat.lt_iff _ _).mpr (by simp; omega)
    have e1 : ∀ x y : Rat, (x * c < y * c) = (y < x) := fun x y => by
      rw [← e0, ← Rat.mul_neg, ← Rat.mul_neg]
      exact propext (Rat.mul_lt_mul_right hc)
    rw [← cmp_swap]
    unfold cmpQ
    simp only [e1]
theorem abs_eq (a : Int) : (if a < 0 then -a else a) = (a.natAbs : Int) := by
  split <;> omega
def gq (q : Rat) : List D := [.int q.num, .int q.den]
def toD (q : Rat) : D := .tup [.int q.num, .int q.den]
end Sd.R
namespace K87
open PySem PySem.Spec PyProof.Rows L2 RZ Sd
/-! the text by places -/
def top (i : Nat) : Stmt := PySem.Challenge.pw_solidseen_k87_across_points_planes_and_v.main.body.getD i (.Pass ⟨0, 0, 0, 0⟩)
abbrev s_is_number : Stmt := top 6
abbrev s_is_from : Stmt := top 7
abbrev s_is_long : Stmt := top 8
abbrev s_tupled : Stmt := top 9
abbrev s_is_row : Stmt := top 10
abbrev s_divisor : Stmt := top 11
abbrev s_is_fraction : Stmt := top 13
abbrev s_sure_fraction : Stmt := top 14
abbrev s_made : Stmt := top 15
abbrev s_two : Stmt := top 16
abbrev s_added : Stmt := top 17
abbrev s_less : Stmt := top 18
abbrev s_times : Stmt := top 19
abbrev s_compared : Stmt := top 20
abbrev s_is_point : Stmt := top 22
abbrev s_is_direction : Stmt := top 23
abbrev s_is_ray : Stmt := top 24
abbrev s_sure_point : Stmt := top 25
abbrev s_sure_direction : Stmt := top 26
abbrev s_sure_ray : Stmt := top 27
abbrev s_parted : Stmt := top 28
abbrev s_spot : Stmt := top 29
abbrev s_point : Stmt := top 30
abbrev s_place : Stmt := top 31
abbrev s_cross : Stmt := top 32
abbrev s_dot : Stmt := top 33
abbrev s_least_direction : Stmt := top 34
abbrev s_way_between : Stmt := top 35
abbrev s_direction_between : Stmt := top 36
abbrev s_moved_by : Stmt := top 37
abbrev s_half_way : Stmt := top 38
abbrev s_square_between : Stmt := top 39
abbrev s_place_at : Stmt := top 40
abbrev s_time_of : Stmt := top 41
abbrev s_upright : Stmt := top 42
abbrev s_on_one_line : Stmt := top 43
abbrev s_plane_through : Stmt := top 44
abbrev s_sixfold : Stmt := top 45
abbrev s_is_wall : Stmt := top 47
abbrev s_sure_wall : Stmt := top 48
abbrev s_are_values : Stmt := top 49
abbrev s_sure_values : Stmt := top 50
abbrev s_sure_case : Stmt := top 51
abbrev s_other_side : Stmt := top 52
abbrev s_contrary : Stmt := top 53
abbrev s_sum_at : Stmt := top 54
abbrev s_beyond : Stmt := top 55
abbrev s_side_in : Stmt := top 56
abbrev s_side : Stmt := top 57
abbrev s__law_box : Stmt := top 59
abbrev s__law_take : Stmt := top 60
abbrev s__law_cells : Stmt := top 61
abbrev s__law_same : Stmt := top 62
abbrev s__law_least : Stmt := top 63
abbrev s__law_spot : Stmt := top 64
abbrev s__law_low : Stmt := top 67
abbrev s__law_times : Stmt := top 65
abbrev s__law_call : Stmt := top 66
abbrev s__law_plus : Stmt := top 68
abbrev s__law_minus : Stmt := top 69
abbrev s__law_heard : Stmt := top 70
abbrev s__law_way : Stmt := top 71
abbrev s__law_six : Stmt := top 72
abbrev s_law : Stmt := top 73
/-! the mirrors -/
def b_is_number (A : Str → Addr) : Sv :=
    (sRet (eAnd (eCallO cIsi (aCons (eVar 0) (aCons (eC (.ty .int)) aNil))) (eNot (eCallO cIsi (aCons (eVar 0) (aCons (eC (.ty .bool)) aNil))))))
def F_is_number (A : Str → Addr) : Fv := fnOf 1 1 (b_is_number A)
def b_is_from (A : Str → Addr) : Sv :=
    (sRet (eAnd (eCall (F_is_number A) (aCons (eVar 0) aNil)) (eBin oGe (eVar 0) (eVar 1))))
def F_is_from (A : Str → Addr) : Fv := fnOf 2 2 (b_is_from A)
def b_is_long (A : Str → Addr) : Sv :=
    (sRet (eAnd (eCallO cIsi (aCons (eVar 0) (aCons (eC (.ty .tuple)) aNil))) (eBin oEq (eCallO cLen (aCons (eVar 0) aNil)) (eVar 1))))
def F_is_long (A : Str → Addr) : Fv := fnOf 2 2 (b_is_long A)
def b_tupled (A : Str → Addr) (R : Fv) : Sv :=
    (sRet (eIf (tvT (eCallO cIsi (aCons (eVar 0) (aCons (eTup (aCons (eC (.ty .list)) (aCons (eC (.ty .tuple)) aNil))) aNil)))) (eCallO cTuple (aCons (eLc [1] (iOf (eVar 0)) (.nm 1) tvYes (eCall R (aCons (eVar 1) aNil))) aNil)) (eVar 0)))
def F_tupled (A : Str → Addr) : Nat → Fv
  | 0 => fun _ _ => .no
  | n + 1 => fnOf 1 2 (b_tupled A (F_tupled A n))
def b_is_row (A : Str → Addr) : Sv :=
    (sRet (eAnd (eCall (F_is_long A) (aCons (eVar 0) (aCons (eVar 1) aNil))) (eCallO cAll (aCons (eLc [2] (iOf (eVar 0)) (.nm 2) tvYes (eCall (F_is_number A) (aCons (eVar 2) aNil))) aNil))))
def F_is_row (A : Str → Addr) : Fv := fnOf 2 3 (b_is_row A)
def b_divisor (A : Str → Addr) : Sv :=
    (sSeq (sSet 1 (eC (.int 0)))
    (sSeq (sFor (iOf (eVar 0)) (.nm 2) (sSet 1 (eCallO cGcd (aCons (eVar 1) (aCons (eVar 2) aNil)))))
    (sRet (eVar 1))))
def F_divisor (A : Str → Addr) : Fv := fnOf 1 3 (b_divisor A)
def b_is_fraction (A : Str → Addr) : Sv :=
    (sSeq (sIf (tvOr (tvNot (tvT (eCall (F_is_long A) (aCons (eVar 0) (aCons (eC (.int 2)) aNil))))) (tvOr (tvNot (tvT (eCall (F_is_number A) (aCons (eBin oIx (eVar 0) (eC (.int 0))) aNil)))) (tvNot (tvT (eCall (F_is_from A) (aCons (eBin oIx (eVar 0) (eC (.int 1))) (aCons (eC (.int 1)) aNil))))))) (sRet (eC (.bl false))) sNext)
    (sRet (eBin oEq (eCall (F_divisor A) (aCons (eVar 0) aNil)) (eC (.int 1)))))
def F_is_fraction (A : Str → Addr) : Fv := fnOf 1 1 (b_is_fraction A)
def b_sure_fraction (A : Str → Addr) : Sv :=
    (sSeq (sSet 1 (eCall (F_tupled A 4) (aCons (eVar 0) aNil)))
    (sSeq (sIf (tvNot (tvT (eCall (F_is_fraction A) (aCons (eVar 1) aNil)))) (sRaise (A "Unfit")) sNext)
    (sRet (eVar 1))))
def F_sure_fraction (A : Str → Addr) : Fv := fnOf 1 2 (b_sure_fraction A)
def b_made (A : Str → Addr) : Sv :=
    (sSeq (sSet 2 (eCall (F_divisor A) (aCons (eTup (aCons (eVar 0) (aCons (eVar 1) aNil))) aNil)))
    (sRet (eIf (tvB (eBin oGt (eVar 1) (eC (.int 0)))) (eTup (aCons (eBin oDiv (eVar 0) (eVar 2)) (aCons (eBin oDiv (eVar 1) (eVar 2)) aNil))) (eTup (aCons (eBin oDiv (eNeg (eVar 0)) (eVar 2)) (aCons (eBin oDiv (eNeg (eVar 1)) (eVar 2)) aNil))))))
def F_made (A : Str → Addr) : Fv := fnOf 2 3 (b_made A)
def b_two (A : Str → Addr) : Sv :=
    (sRet (eTup (aCons (eCall (F_sure_fraction A) (aCons (eVar 0) aNil)) (aCons (eCall (F_sure_fraction A) (aCons (eVar 1) aNil)) aNil))))
def F_two (A : Str → Addr) : Fv := fnOf 2 2 (b_two A)
def b_added (A : Str → Addr) : Sv :=
    (sSeq (sNt (.tp [(.tp [(.nm 2), (.nm 3)]), (.tp [(.nm 4), (.nm 5)])]) (eCall (F_two A) (aCons (eVar 0) (aCons (eVar 1) aNil))))
    (sRet (eCall (F_made A) (aCons (eBin oAdd (eBin oMul (eVar 2) (eVar 5)) (eBin oMul (eVar 4) (eVar 3))) (aCons (eBin oMul (eVar 3) (eVar 5)) aNil)))))
def F_added (A : Str → Addr) : Fv := fnOf 2 6 (b_added A)
def b_less (A : Str → Addr) : Sv :=
    (sSeq (sNt (.tp [(.tp [(.nm 2), (.nm 3)]), (.tp [(.nm 4), (.nm 5)])]) (eCall (F_two A) (aCons (eVar 0) (aCons (eVar 1) aNil))))
    (sRet (eCall (F_made A) (aCons (eBin oSub (eBin oMul (eVar 2) (eVar 5)) (eBin oMul (eVar 4) (eVar 3))) (aCons (eBin oMul (eVar 3) (eVar 5)) aNil)))))
def F_less (A : Str → Addr) : Fv := fnOf 2 6 (b_less A)
def b_times (A : Str → Addr) : Sv :=
    (sSeq (sNt (.tp [(.tp [(.nm 2), (.nm 3)]), (.tp [(.nm 4), (.nm 5)])]) (eCall (F_two A) (aCons (eVar 0) (aCons (eVar 1) aNil))))
    (sRet (eCall (F_made A) (aCons (eBin oMul (eVar 2) (eVar 4)) (aCons (eBin oMul (eVar 3) (eVar 5)) aNil)))))
def F_times (A : Str → Addr) : Fv := fnOf 2 6 (b_times A)
def b_compared (A : Str → Addr) : Sv :=
    (sSeq (sNt (.tp [(.tp [(.nm 2), (.nm 3)]), (.tp [(.nm 4), (.nm 5)])]) (eCall (F_two A) (aCons (eVar 0) (aCons (eVar 1) aNil))))
    (sRet (eBin oSub (eCallO cInt (aCons (eBin oGt (eBin oMul (eVar 2) (eVar 5)) (eBin oMul (eVar 4) (eVar 3))) aNil)) (eCallO cInt (aCons (eBin oLt (eBin oMul (eVar 2) (eVar 5)) (eBin oMul (eVar 4) (eVar 3))) aNil)))))
def F_compared (A : Str → Addr) : Fv := fnOf 2 6 (b_compared A)
def b_is_point (A : Str → Addr) : Sv :=
    (sRet (eAnd (eCall (F_is_row A) (aCons (eVar 0) (aCons (eC (.int 4)) aNil))) (eAnd (eCall (F_is_from A) (aCons (eBin oIx (eVar 0) (eC (.int 3))) (aCons (eC (.int 1)) aNil))) (eBin oEq (eCall (F_divisor A) (aCons (eVar 0) aNil)) (eC (.int 1))))))
def F_is_point (A : Str → Addr) : Fv := fnOf 1 1 (b_is_point A)
def b_is_direction (A : Str → Addr) : Sv :=
    (sRet (eAnd (eCall (F_is_row A) (aCons (eVar 0) (aCons (eC (.int 3)) aNil))) (eBin oNe (eVar 0) (eTup (aCons (eC (.int 0)) (aCons (eC (.int 0)) (aCons (eC (.int 0)) aNil)))))))
def F_is_direction (A : Str → Addr) : Fv := fnOf 1 1 (b_is_direction A)
def b_is_ray (A : Str → Addr) : Sv :=
    (sRet (eAnd (eCall (F_is_long A) (aCons (eVar 0) (aCons (eC (.int 2)) aNil))) (eAnd (eCall (F_is_point A) (aCons (eBin oIx (eVar 0) (eC (.int 0))) aNil)) (eCall (F_is_direction A) (aCons (eBin oIx (eVar 0) (eC (.int 1))) aNil)))))
def F_is_ray (A : Str → Addr) : Fv := fnOf 1 1 (b_is_ray A)
def b_sure_point (A : Str → Addr) : Sv :=
    (sSeq (sSet 1 (eCall (F_tupled A 4) (aCons (eVar 0) aNil)))
    (sSeq (sIf (tvNot (tvT (eCall (F_is_point A) (aCons (eVar 1) aNil)))) (sRaise (A "Unfit")) sNext)
    (sRet (eVar 1))))
def F_sure_point (A : Str → Addr) : Fv := fnOf 1 2 (b_sure_point A)
def b_sure_direction (A : Str → Addr) : Sv :=
    (sSeq (sSet 1 (eCall (F_tupled A 4) (aCons (eVar 0) aNil)))
    (sSeq (sIf (tvNot (tvT (eCall (F_is_direction A) (aCons (eVar 1) aNil)))) (sRaise (A "Unfit")) sNext)
    (sRet (eVar 1))))
def F_sure_direction (A : Str → Addr) : Fv := fnOf 1 2 (b_sure_direction A)
def b_sure_ray (A : Str → Addr) : Sv :=
    (sSeq (sSet 1 (eCall (F_tupled A 4) (aCons (eVar 0) aNil)))
    (sSeq (sIf (tvNot (tvT (eCall (F_is_ray A) (aCons (eVar 1) aNil)))) (sRaise (A "Unfit")) sNext)
    (sRet (eVar 1))))
def F_sure_ray (A : Str → Addr) : Fv := fnOf 1 2 (b_sure_ray A)
def b_parted (A : Str → Addr) : Sv :=
    (sSeq (sSet 1 (eCall (F_divisor A) (aCons (eVar 0) aNil)))
    (sRet (eCallO cTuple (aCons (eLc [2] (iOf (eVar 0)) (.nm 2) tvYes (eBin oDiv (eVar 2) (eVar 1))) aNil))))
def F_parted (A : Str → Addr) : Fv := fnOf 1 3 (b_parted A)
def b_spot (A : Str → Addr) : Sv :=
    (sRet (eCall (F_parted A) (aCons (eTup (aStar (eVar 0) (aCons (eVar 1) aNil))) aNil)))
def F_spot (A : Str → Addr) : Fv := fnOf 2 2 (b_spot A)
def b_point (A : Str → Addr) : Sv :=
    (sSeq (sNt (.tp [(.tp [(.nm 3), (.nm 4)]), (.tp [(.nm 5), (.nm 6)]), (.tp [(.nm 7), (.nm 8)])]) (eTup (aCons (eCall (F_sure_fraction A) (aCons (eVar 0) aNil)) (aCons (eCall (F_sure_fraction A) (aCons (eVar 1) aNil)) (aCons (eCall (F_sure_fraction A) (aCons (eVar 2) aNil)) aNil)))))
    (sRet (eCall (F_spot A) (aCons (eTup (aCons (eBin oMul (eBin oMul (eVar 3) (eVar 6)) (eVar 8)) (aCons (eBin oMul (eBin oMul (eVar 5) (eVar 4)) (eVar 8)) (aCons (eBin oMul (eBin oMul (eVar 7) (eVar 4)) (eVar 6)) aNil)))) (aCons (eBin oMul (eBin oMul (eVar 4) (eVar 6)) (eVar 8)) aNil)))))
def F_point (A : Str → Addr) : Fv := fnOf 3 9 (b_point A)
def b_place (A : Str → Addr) : Sv :=
    (sSeq (sSet 1 (eCall (F_sure_point A) (aCons (eVar 0) aNil)))
    (sRet (eCallO cTuple (aCons (eLc [2] (iOf (eSl (eVar 1) oNone (oSome (eC (.int 3))))) (.nm 2) tvYes (eCall (F_made A) (aCons (eVar 2) (aCons (eBin oIx (eVar 1) (eC (.int 3))) aNil)))) aNil))))
def F_place (A : Str → Addr) : Fv := fnOf 1 3 (b_place A)
def b_cross (A : Str → Addr) : Sv :=
    (sSeq (sNt (.tp [(.tp [(.nm 2), (.nm 3), (.nm 4)]), (.tp [(.nm 5), (.nm 6), (.nm 7)])]) (eTup (aCons (eVar 0) (aCons (eVar 1) aNil))))
    (sRet (eTup (aCons (eBin oSub (eBin oMul (eVar 3) (eVar 7)) (eBin oMul (eVar 4) (eVar 6))) (aCons (eBin oSub (eBin oMul (eVar 4) (eVar 5)) (eBin oMul (eVar 2) (eVar 7))) (aCons (eBin oSub (eBin oMul (eVar 2) (eVar 6)) (eBin oMul (eVar 3) (eVar 5))) aNil))))))
def F_cross (A : Str → Addr) : Fv := fnOf 2 8 (b_cross A)
def b_dot (A : Str → Addr) : Sv :=
    (sRet (eBin oAdd (eBin oAdd (eBin oMul (eBin oIx (eVar 0) (eC (.int 0))) (eBin oIx (eVar 1) (eC (.int 0)))) (eBin oMul (eBin oIx (eVar 0) (eC (.int 1))) (eBin oIx (eVar 1) (eC (.int 1))))) (eBin oMul (eBin oIx (eVar 0) (eC (.int 2))) (eBin oIx (eVar 1) (eC (.int 2))))))
def F_dot (A : Str → Addr) : Fv := fnOf 2 2 (b_dot A)
def b_least_direction (A : Str → Addr) : Sv :=
    (sRet (eCall (F_parted A) (aCons (eCall (F_sure_direction A) (aCons (eVar 0) aNil)) aNil)))
def F_least_direction (A : Str → Addr) : Fv := fnOf 1 1 (b_least_direction A)
def b_way_between (A : Str → Addr) : Sv :=
    (sRet (eCallO cTuple (aCons (eLc [2, 3] (iZipE (aCons (eSl (eVar 0) oNone (oSome (eC (.int 3)))) (aCons (eSl (eVar 1) oNone (oSome (eC (.int 3)))) aNil))) (.tp [(.nm 2), (.nm 3)]) tvYes (eBin oSub (eBin oMul (eVar 3) (eBin oIx (eVar 0) (eC (.int 3)))) (eBin oMul (eVar 2) (eBin oIx (eVar 1) (eC (.int 3)))))) aNil)))
def F_way_between (A : Str → Addr) : Fv := fnOf 2 4 (b_way_between A)
def b_direction_between (A : Str → Addr) : Sv :=
    (sSeq (sPar 2 3 (aCons (eCall (F_sure_point A) (aCons (eVar 0) aNil)) (aCons (eCall (F_sure_point A) (aCons (eVar 1) aNil)) aNil)))
    (sSeq (sIf (tvB (eBin oEq (eVar 2) (eVar 3))) (sRaise (A "Flat")) sNext)
    (sRet (eCall (F_parted A) (aCons (eCall (F_way_between A) (aCons (eVar 2) (aCons (eVar 3) aNil))) aNil)))))
def F_direction_between (A : Str → Addr) : Fv := fnOf 2 4 (b_direction_between A)
def b_moved_by (A : Str → Addr) : Sv :=
    (sSeq (sNt (.tp [(.nm 2), (.nm 3)]) (eTup (aCons (eCall (F_sure_point A) (aCons (eVar 0) aNil)) (aCons (eCall (F_tupled A 4) (aCons (eVar 1) aNil)) aNil))))
    (sSeq (sIf (tvNot (tvT (eCall (F_is_long A) (aCons (eVar 3) (aCons (eC (.int 3)) aNil))))) (sRaise (A "Unfit")) sNext)
    (sSeq (sUnl [(.tp [(.nm 4), (.nm 5)]), (.tp [(.nm 6), (.nm 7)]), (.tp [(.nm 8), (.nm 9)])] (eLc [12] (iOf (eVar 3)) (.nm 12) tvYes (eCall (F_sure_fraction A) (aCons (eVar 12) aNil))))
    (sSeq (sSet 10 (eBin oMul (eBin oMul (eVar 5) (eVar 7)) (eVar 9)))
    (sSeq (sSet 11 (eTup (aCons (eBin oMul (eBin oMul (eVar 4) (eVar 7)) (eVar 9)) (aCons (eBin oMul (eBin oMul (eVar 6) (eVar 5)) (eVar 9)) (aCons (eBin oMul (eBin oMul (eVar 8) (eVar 5)) (eVar 7)) aNil)))))
    (sRet (eCall (F_spot A) (aCons (eLc [13, 14] (iZipE (aCons (eSl (eVar 2) oNone (oSome (eC (.int 3)))) (aCons (eVar 11) aNil))) (.tp [(.nm 13), (.nm 14)]) tvYes (eBin oAdd (eBin oMul (eVar 13) (eVar 10)) (eBin oMul (eVar 14) (eBin oIx (eVar 2) (eC (.int 3)))))) (aCons (eBin oMul (eBin oIx (eVar 2) (eC (.int 3))) (eVar 10)) aNil)))))))))
def F_moved_by (A : Str → Addr) : Fv := fnOf 2 15 (b_moved_by A)
def b_half_way (A : Str → Addr) : Sv :=
    (sSeq (sNt (.tp [(.nm 2), (.nm 3)]) (eTup (aCons (eCall (F_sure_point A) (aCons (eVar 0) aNil)) (aCons (eCall (F_sure_point A) (aCons (eVar 1) aNil)) aNil))))
    (sSeq (sSet 4 (eLc [5, 6] (iZipE (aCons (eSl (eVar 2) oNone (oSome (eC (.int 3)))) (aCons (eSl (eVar 3) oNone (oSome (eC (.int 3)))) aNil))) (.tp [(.nm 5), (.nm 6)]) tvYes (eBin oAdd (eBin oMul (eVar 5) (eBin oIx (eVar 3) (eC (.int 3)))) (eBin oMul (eVar 6) (eBin oIx (eVar 2) (eC (.int 3)))))))
    (sRet (eCall (F_spot A) (aCons (eVar 4) (aCons (eBin oMul (eBin oMul (eC (.int 2)) (eBin oIx (eVar 2) (eC (.int 3)))) (eBin oIx (eVar 3) (eC (.int 3)))) aNil))))))
def F_half_way (A : Str → Addr) : Fv := fnOf 2 7 (b_half_way A)
def b_square_between (A : Str → Addr) : Sv :=
    (sSeq (sPar 2 3 (aCons (eCall (F_sure_point A) (aCons (eVar 0) aNil)) (aCons (eCall (F_sure_point A) (aCons (eVar 1) aNil)) aNil)))
    (sSeq (sSet 4 (eCall (F_way_between A) (aCons (eVar 2) (aCons (eVar 3) aNil))))
    (sRet (eCall (F_made A) (aCons (eCall (F_dot A) (aCons (eVar 4) (aCons (eVar 4) aNil))) (aCons (eBin oPow (eBin oMul (eBin oIx (eVar 2) (eC (.int 3))) (eBin oIx (eVar 3) (eC (.int 3)))) (eC (.int 2))) aNil))))))
def F_square_between (A : Str → Addr) : Fv := fnOf 2 5 (b_square_between A)
def b_place_at (A : Str → Addr) : Sv :=
    (sSeq (sNt (.tp [(.nm 2), (.nm 3)]) (eCall (F_sure_ray A) (aCons (eVar 0) aNil)))
    (sSeq (sNt (.tp [(.nm 4), (.nm 5)]) (eCall (F_sure_fraction A) (aCons (eVar 1) aNil)))
    (sSeq (sSet 6 (eLc [7, 8] (iZipE (aCons (eSl (eVar 2) oNone (oSome (eC (.int 3)))) (aCons (eVar 3) aNil))) (.tp [(.nm 7), (.nm 8)]) tvYes (eBin oAdd (eBin oMul (eVar 7) (eVar 5)) (eBin oMul (eBin oMul (eVar 8) (eBin oIx (eVar 2) (eC (.int 3)))) (eVar 4)))))
    (sRet (eCall (F_spot A) (aCons (eVar 6) (aCons (eBin oMul (eBin oIx (eVar 2) (eC (.int 3))) (eVar 5)) aNil)))))))
def F_place_at (A : Str → Addr) : Fv := fnOf 2 9 (b_place_at A)
def b_time_of (A : Str → Addr) : Sv :=
    (sSeq (sNt (.tp [(.nm 2), (.nm 3)]) (eCall (F_sure_ray A) (aCons (eVar 0) aNil)))
    (sSeq (sSet 4 (eCall (F_sure_point A) (aCons (eVar 1) aNil)))
    (sSeq (sSet 5 (eCall (F_way_between A) (aCons (eVar 2) (aCons (eVar 4) aNil))))
    (sSeq (sIf (tvB (eBin oNe (eCall (F_cross A) (aCons (eVar 5) (aCons (eVar 3) aNil))) (eTup (aCons (eC (.int 0)) (aCons (eC (.int 0)) (aCons (eC (.int 0)) aNil)))))) (sRaise (A "CanNot")) sNext)
    (sSeq (sSet 6 (eBin oIx (eLc [7] (iRng1 (aCons (eC (.int 3)) aNil)) (.nm 7) (tvB (eBin oNe (eBin oIx (eVar 3) (eVar 7)) (eC (.int 0)))) (eVar 7)) (eC (.int 0))))
    (sRet (eCall (F_made A) (aCons (eBin oIx (eVar 5) (eVar 6)) (aCons (eBin oMul (eBin oMul (eBin oIx (eVar 2) (eC (.int 3))) (eBin oIx (eVar 4) (eC (.int 3)))) (eBin oIx (eVar 3) (eVar 6))) aNil)))))))))
def F_time_of (A : Str → Addr) : Fv := fnOf 2 8 (b_time_of A)
def b_upright (A : Str → Addr) : Sv :=
    (sRet (eCall (F_cross A) (aCons (eCall (F_way_between A) (aCons (eVar 0) (aCons (eVar 1) aNil))) (aCons (eCall (F_way_between A) (aCons (eVar 0) (aCons (eVar 2) aNil))) aNil))))
def F_upright (A : Str → Addr) : Fv := fnOf 3 3 (b_upright A)
def b_on_one_line (A : Str → Addr) : Sv :=
    (sSeq (sPar3 3 4 5 (aCons (eCall (F_sure_point A) (aCons (eVar 0) aNil)) (aCons (eCall (F_sure_point A) (aCons (eVar 1) aNil)) (aCons (eCall (F_sure_point A) (aCons (eVar 2) aNil)) aNil))))
    (sRet (eBin oEq (eCall (F_upright A) (aCons (eVar 3) (aCons (eVar 4) (aCons (eVar 5) aNil)))) (eTup (aCons (eC (.int 0)) (aCons (eC (.int 0)) (aCons (eC (.int 0)) aNil)))))))
def F_on_one_line (A : Str → Addr) : Fv := fnOf 3 6 (b_on_one_line A)
def b_plane_through (A : Str → Addr) : Sv :=
    (sSeq (sNt (.tp [(.nm 3), (.nm 4), (.nm 5)]) (eTup (aCons (eCall (F_sure_point A) (aCons (eVar 0) aNil)) (aCons (eCall (F_sure_point A) (aCons (eVar 1) aNil)) (aCons (eCall (F_sure_point A) (aCons (eVar 2) aNil)) aNil)))))
    (sSeq (sSet 6 (eCall (F_upright A) (aCons (eVar 3) (aCons (eVar 4) (aCons (eVar 5) aNil)))))
    (sSeq (sIf (tvB (eBin oEq (eVar 6) (eTup (aCons (eC (.int 0)) (aCons (eC (.int 0)) (aCons (eC (.int 0)) aNil)))))) (sRaise (A "Flat")) sNext)
    (sRet (eCall (F_parted A) (aCons (eTup (aStar (eLc [7] (iOf (eVar 6)) (.nm 7) tvYes (eBin oMul (eVar 7) (eBin oIx (eVar 3) (eC (.int 3))))) (aCons (eCall (F_dot A) (aCons (eVar 6) (aCons (eSl (eVar 3) oNone (oSome (eC (.int 3)))) aNil))) aNil))) aNil))))))
def F_plane_through (A : Str → Addr) : Fv := fnOf 3 8 (b_plane_through A)
def b_sixfold (A : Str → Addr) : Sv :=
    (sSeq (sNt (.tp [(.nm 4), (.nm 5), (.nm 6), (.nm 7)]) (eTup (aCons (eCall (F_sure_point A) (aCons (eVar 0) aNil)) (aCons (eCall (F_sure_point A) (aCons (eVar 1) aNil)) (aCons (eCall (F_sure_point A) (aCons (eVar 2) aNil)) (aCons (eCall (F_sure_point A) (aCons (eVar 3) aNil)) aNil))))))
    (sSeq (sSet 8 (eCall (F_dot A) (aCons (eCall (F_upright A) (aCons (eVar 4) (aCons (eVar 5) (aCons (eVar 6) aNil)))) (aCons (eCall (F_way_between A) (aCons (eVar 4) (aCons (eVar 7) aNil))) aNil))))
    (sRet (eCall (F_made A) (aCons (eVar 8) (aCons (eBin oMul (eBin oMul (eBin oMul (eBin oPow (eBin oIx (eVar 4) (eC (.int 3))) (eC (.int 3))) (eBin oIx (eVar 5) (eC (.int 3)))) (eBin oIx (eVar 6) (eC (.int 3)))) (eBin oIx (eVar 7) (eC (.int 3)))) aNil))))))
def F_sixfold (A : Str → Addr) : Fv := fnOf 4 9 (b_sixfold A)
def b_is_wall (A : Str → Addr) : Sv :=
    (sSeq (sIf (tvOr (tvNot (tvT (eCallO cIsi (aCons (eVar 0) (aCons (eC (.ty .tuple)) aNil))))) (tvOr (tvB (eBin oLt (eCallO cLen (aCons (eVar 0) aNil)) (eC (.int 4)))) (tvNot (tvT (eCallO cAll (aCons (eLc [1] (iOf (eVar 0)) (.nm 1) tvYes (eCall (F_is_number A) (aCons (eVar 1) aNil))) aNil)))))) (sRet (eC (.bl false))) sNext)
    (sRet (eAnd (eCallO cAny (aCons (eLc [1] (iOf (eSl (eVar 0) oNone (oSome (eC (.int 3))))) (.nm 1) tvYes (eBin oNe (eVar 1) (eC (.int 0)))) aNil)) (eBin oEq (eCall (F_divisor A) (aCons (eVar 0) aNil)) (eC (.int 1))))))
def F_is_wall (A : Str → Addr) : Fv := fnOf 1 2 (b_is_wall A)
def b_sure_wall (A : Str → Addr) : Sv :=
    (sSeq (sSet 1 (eCall (F_tupled A 4) (aCons (eVar 0) aNil)))
    (sSeq (sIf (tvNot (tvT (eCall (F_is_wall A) (aCons (eVar 1) aNil)))) (sRaise (A "Unfit")) sNext)
    (sRet (eVar 1))))
def F_sure_wall (A : Str → Addr) : Fv := fnOf 1 2 (b_sure_wall A)
def b_are_values (A : Str → Addr) : Sv :=
    (sRet (eAnd (eCallO cIsi (aCons (eVar 0) (aCons (eC (.ty .tuple)) aNil))) (eCallO cAll (aCons (eLc [1] (iOf (eVar 0)) (.nm 1) tvYes (eCall (F_is_fraction A) (aCons (eVar 1) aNil))) aNil))))
def F_are_values (A : Str → Addr) : Fv := fnOf 1 2 (b_are_values A)
def b_sure_values (A : Str → Addr) : Sv :=
    (sSeq (sSet 2 (eCall (F_tupled A 4) (aCons (eVar 0) aNil)))
    (sSeq (sIf (tvOr (tvNot (tvT (eCall (F_are_values A) (aCons (eVar 2) aNil)))) (tvAnd (tvB (eBin (oIs true) (eVar 1) (eC .non))) (tvB (eBin oNe (eCallO cLen (aCons (eVar 2) aNil)) (eVar 1))))) (sRaise (A "Unfit")) sNext)
    (sRet (eVar 2))))
def F_sure_values (A : Str → Addr) : Fv := fnOf 2 3 (b_sure_values A)
def b_sure_case (A : Str → Addr) : Sv :=
    (sSeq (sSet 2 (eCall (F_tupled A 4) (aCons (eVar 0) aNil)))
    (sSeq (sIf (tvOr (tvNot (tvT (eCall (F_is_long A) (aCons (eVar 2) (aCons (eC (.int 2)) aNil))))) (tvNot (tvT (eCall (F_is_point A) (aCons (eBin oIx (eVar 2) (eC (.int 1))) aNil))))) (sRaise (A "Unfit")) sNext)
    (sSeq (sExpr (eCall (F_sure_values A) (aCons (eBin oIx (eVar 2) (eC (.int 0))) (aCons (eVar 1) aNil))))
    (sRet (eVar 2)))))
def F_sure_case (A : Str → Addr) : Fv := fnOf 2 3 (b_sure_case A)
def b_other_side (A : Str → Addr) : Sv :=
    (sRet (eCallO cTuple (aCons (eLc [1] (iOf (eVar 0)) (.nm 1) tvYes (eNeg (eVar 1))) aNil)))
def F_other_side (A : Str → Addr) : Fv := fnOf 1 2 (b_other_side A)
def b_contrary (A : Str → Addr) : Sv :=
    (sRet (eCall (F_other_side A) (aCons (eCall (F_sure_wall A) (aCons (eVar 0) aNil)) aNil)))
def F_contrary (A : Str → Addr) : Fv := fnOf 1 1 (b_contrary A)
def b_sum_at (A : Str → Addr) : Sv :=
    (sSeq (sPar 2 3 (aCons (eBin oIx (eVar 0) (eC (.int 0))) (aCons (eC (.int 1)) aNil)))
    (sSeq (sFor (iZipE (aCons (eSl (eVar 0) (oSome (eC (.int 1))) oNone) (aCons (eVar 1) aNil))) (.tp [(.nm 4), (.tp [(.nm 5), (.nm 6)])]) (sPar 2 3 (aCons (eBin oAdd (eBin oMul (eVar 2) (eVar 6)) (eBin oMul (eBin oMul (eVar 4) (eVar 5)) (eVar 3))) (aCons (eBin oMul (eVar 3) (eVar 6)) aNil))))
    (sRet (eTup (aCons (eVar 2) (aCons (eVar 3) aNil))))))
def F_sum_at (A : Str → Addr) : Fv := fnOf 2 7 (b_sum_at A)
def b_beyond (A : Str → Addr) : Sv :=
    (sSeq (sNt (.tp [(.nm 2), (.tp [(.nm 3), (.nm 4), (.nm 5), (.nm 6)])]) (eVar 1))
    (sSeq (sNt (.tp [(.nm 7), (.nm 8)]) (eCall (F_sum_at A) (aCons (eSl (eVar 0) (oSome (eC (.int 3))) oNone) (aCons (eVar 2) aNil))))
    (sRet (eTup (aCons (eBin oSub (eBin oMul (eBin oAdd (eBin oAdd (eBin oMul (eBin oIx (eVar 0) (eC (.int 0))) (eVar 3)) (eBin oMul (eBin oIx (eVar 0) (eC (.int 1))) (eVar 4))) (eBin oMul (eBin oIx (eVar 0) (eC (.int 2))) (eVar 5))) (eVar 8)) (eBin oMul (eVar 7) (eVar 6))) (aCons (eBin oMul (eVar 8) (eVar 6)) aNil))))))
def F_beyond (A : Str → Addr) : Fv := fnOf 2 9 (b_beyond A)
def b_side_in (A : Str → Addr) : Sv :=
    (sSeq (sSet 2 (eBin oIx (eCall (F_beyond A) (aCons (eVar 0) (aCons (eVar 1) aNil))) (eC (.int 0))))
    (sRet (eBin oSubB (eBin oGt (eVar 2) (eC (.int 0))) (eBin oLt (eVar 2) (eC (.int 0))))))
def F_side_in (A : Str → Addr) : Fv := fnOf 2 3 (b_side_in A)
def b_side (A : Str → Addr) : Sv :=
    (sSeq (sSet 2 (eCall (F_sure_wall A) (aCons (eVar 0) aNil)))
    (sRet (eCall (F_side_in A) (aCons (eVar 2) (aCons (eCall (F_sure_case A) (aCons (eVar 1) (aCons (eBin oSub (eCallO cLen (aCons (eVar 2) aNil)) (eC (.int 4))) aNil))) aNil)))))
def F_side (A : Str → Addr) : Fv := fnOf 2 3 (b_side A)
def b__law_box (A : Str → Addr) : Sv :=
    (sSeq (sSet 2 (eIf (tvB (eBin oLt (eVar 1) (eCallO cLen (aCons (eVar 0) aNil)))) (eBin oIx (eVar 0) (eVar 1)) (eC (.int 0))))
    (sRet (eLst (aCons (eBin oMul (eCallO cAbs (aCons (eVar 2) aNil)) (eCallO cInt (aCons (eBin oGe (eCallO cAbs (aCons (eVar 2) aNil)) (eBin oPow (eC (.int 10)) (eC (.int 18)))) aNil))) (aCons (eBin oAdd (eBin oAdd (eBin oMod (eCallO cInt (aCons (eVar 2) aNil)) (eC (.int 2305843009213693951))) (eBin oMul (eC (.int 39373)) (eVar 1))) (eC (.int 3179068))) (aCons (eC (.int 0)) aNil))))))
def F__law_box (A : Str → Addr) : Fv := fnOf 2 3 (b__law_box A)
def b__law_take (A : Str → Addr) : Sv :=
    (sSeq (sIf (tvB (eBin oGt (eBin oIx (eVar 0) (eC (.int 0))) (eC (.int 0)))) (sSeq (sSet 2 (eBin oMod (eCallO cInt (aCons (eBin oIx (eVar 0) (eC (.int 0))) aNil)) (eVar 1)))
     (sSeq (sSub (eBin oDiv (eBin oIx (eVar 0) (eC (.int 0))) (eVar 1)) (eVar 0) (eC (.int 0)))
     (sRet (eVar 2)))) sNext)
    (sSeq (sSub (eBin oAdd (eBin oIx (eVar 0) (eC (.int 2))) (eC (.int 1))) (eVar 0) (eC (.int 2)))
    (sSeq (sSet 3 (eBin oMod (eCallO cInt (aCons (eBin oMul (eBin oAdd (eBin oIx (eVar 0) (eC (.int 1))) (eBin oMul (eC (.int 48271)) (eBin oIx (eVar 0) (eC (.int 2))))) (eBin oAdd (eC (.int 39373)) (eBin oIx (eVar 0) (eC (.int 2))))) aNil)) (eC (.int 2147483647))))
    (sSeq (sSet 4 (eBin oAdd (eBin oMod (eCallO cInt (aCons (eVar 3) aNil)) (eC (.int 40009))) (eC (.int 7))))
    (sSeq (sSet 5 (eBin oMod (eCallO cInt (aCons (eBin oMul (eBin oAdd (eBin oAdd (eVar 3) (eBin oIx (eVar 0) (eC (.int 2)))) (eBin oDiv (eBin oIx (eVar 0) (eC (.int 1))) (eC (.int 1000003)))) (eVar 4)) aNil)) (eC (.int 2147483629))))
    (sRet (eBin oMod (eCallO cInt (aCons (eBin oDiv (eBin oMod (eCallO cInt (aCons (eBin oAdd (eBin oMul (eVar 5) (eC (.int 48271))) (eVar 3)) aNil)) (eC (.int 2147483587))) (eC (.int 64))) aNil)) (eVar 1))))))))
def F__law_take (A : Str → Addr) : Fv := fnOf 2 6 (b__law_take A)
def b__law_cells (A : Str → Addr) : Sv :=
    (sSeq (sSet 2 (eOr (eCallO cList (aCons (eSl (eVar 0) oNone (oSome (eVar 1))) aNil)) (eLst (aCons (eC (.int 0)) aNil))))
    (sSeq (sFor (iEnumE (aCons (eSl (eVar 0) (oSome (eVar 1)) (oSome (eC (.int 63)))) aNil)) (.tp [(.nm 3), (.nm 4)]) (sSeq (sSet 5 (eBin oMod (eCallO cInt (aCons (eVar 3) aNil)) (eVar 1)))
     (sSub (eBin oAdd (eBin oIx (eVar 2) (eVar 5)) (eBin oMul (eVar 4) (eBin oAdd (eVar 3) (eC (.int 2))))) (eVar 2) (eVar 5))))
    (sRet (eVar 2))))
def F__law_cells (A : Str → Addr) : Fv := fnOf 2 6 (b__law_cells A)
def b__law_same (A : Str → Addr) (R : Fv) : Sv :=
    (sSeq (sIf (tvT (eCallO cIsi (aCons (eVar 1) (aCons (eTup (aCons (eC (.ty .list)) (aCons (eC (.ty .tuple)) aNil))) aNil)))) (sSeq (sIf (tvOr (tvB (eBin oNe (eCallO cIsi (aCons (eVar 0) (aCons (eC (.ty .list)) aNil))) (eCallO cIsi (aCons (eVar 1) (aCons (eC (.ty .list)) aNil))))) (tvB (eBin oNe (eCallO cIsi (aCons (eVar 0) (aCons (eC (.ty .tuple)) aNil))) (eCallO cIsi (aCons (eVar 1) (aCons (eC (.ty .tuple)) aNil)))))) (sRet (eC (.bl false))) sNext)
     (sRet (eAnd (eBin oEq (eCallO cLen (aCons (eVar 0) aNil)) (eCallO cLen (aCons (eVar 1) aNil))) (eCallO cAll (aCons (eLc [2, 3] (iZipE (aCons (eVar 0) (aCons (eVar 1) aNil))) (.tp [(.nm 2), (.nm 3)]) tvYes (eCall R (aCons (eVar 2) (aCons (eVar 3) aNil)))) aNil))))) sNext)
    (sSeq (sIf (tvOr (tvB (eBin (oIs false) (eVar 1) (eC .non))) (tvT (eCallO cIsi (aCons (eVar 1) (aCons (eTup (aCons (eC (.ty .bool)) (aCons (eC (.ty .str)) aNil))) aNil))))) (sRet (eAnd (eBin oEq (eVar 0) (eVar 1)) (eAnd (eBin oEq (eCallO cIsi (aCons (eVar 0) (aCons (eC (.ty .bool)) aNil))) (eCallO cIsi (aCons (eVar 1) (aCons (eC (.ty .bool)) aNil)))) (eBin oEq (eBin (oIs false) (eVar 0) (eC .non)) (eBin (oIs false) (eVar 1) (eC .non)))))) sNext)
    (sRet (eAnd (eCallO cIsi (aCons (eVar 0) (aCons (eC (.ty .int)) aNil))) (eAnd (eNot (eCallO cIsi (aCons (eVar 0) (aCons (eC (.ty .bool)) aNil)))) (eBin oEq (eVar 0) (eVar 1)))))))
def F__law_same (A : Str → Addr) : Nat → Fv
  | 0 => fun _ _ => .no
  | n + 1 => fnOf 2 4 (b__law_same A (F__law_same A n))
def b__law_least (A : Str → Addr) : Sv :=
    (sSeq (sSet 1 (eC (.int 0)))
    (sSeq (sFor (iOf (eVar 0)) (.nm 2) (sSeq (sSet 2 (eCallO cAbs (aCons (eVar 2) aNil)))
     (sWhile (tvB (eBin oNe (eVar 2) (eC (.int 0)))) (sNt (.tp [(.nm 1), (.nm 2)]) (eTup (aCons (eVar 2) (aCons (eBin oMod (eVar 1) (eVar 2)) aNil)))))))
    (sRet (eCallO cTuple (aCons (eLc [2] (iOf (eVar 0)) (.nm 2) tvYes (eBin oDiv (eVar 2) (eVar 1))) aNil)))))
def F__law_least (A : Str → Addr) : Fv := fnOf 1 3 (b__law_least A)
def b__law_spot (A : Str → Addr) : Sv :=
    (sRet (eCall (F__law_least A) (aCons (eTup (aCons (eBin oSub (eCall (F__law_take A) (aCons (eVar 0) (aCons (eBin oAdd (eBin oMul (eC (.int 2)) (eVar 1)) (eC (.int 1))) aNil))) (eVar 1)) (aCons (eBin oSub (eCall (F__law_take A) (aCons (eVar 0) (aCons (eBin oAdd (eBin oMul (eC (.int 2)) (eVar 1)) (eC (.int 1))) aNil))) (eVar 1)) (aCons (eBin oSub (eCall (F__law_take A) (aCons (eVar 0) (aCons (eBin oAdd (eBin oMul (eC (.int 2)) (eVar 1)) (eC (.int 1))) aNil))) (eVar 1)) (aCons (eBin oAdd (eC (.int 1)) (eCall (F__law_take A) (aCons (eVar 0) (aCons (eC (.int 3)) aNil)))) aNil))))) aNil)))
def F__law_spot (A : Str → Addr) : Fv := fnOf 2 2 (b__law_spot A)
def b__law_low (A : Str → Addr) : Sv :=
    (sSeq (sPar 2 3 (aCons (eCallO cAbs (aCons (eVar 0) aNil)) (aCons (eCallO cAbs (aCons (eVar 1) aNil)) aNil)))
    (sSeq (sWhile (tvB (eBin oGt (eVar 2) (eC (.int 0)))) (sPar 2 3 (aCons (eBin oMod (eVar 3) (eVar 2)) (aCons (eVar 2) aNil))))
    (sSeq (sSet 4 (eIf (tvB (eBin oGt (eVar 1) (eC (.int 0)))) (eC (.int 1)) (eNeg (eC (.int 1)))))
    (sRet (eTup (aCons (eBin oDiv (eBin oMul (eVar 4) (eVar 0)) (eVar 3)) (aCons (eBin oDiv (eBin oMul (eVar 4) (eVar 1)) (eVar 3)) aNil)))))))
def F__law_low (A : Str → Addr) : Fv := fnOf 2 5 (b__law_low A)
def b__law_times (A : Str → Addr) : Sv :=
    (sRet (eCall (F__law_low A) (aCons (eBin oMul (eBin oIx (eVar 0) (eC (.int 0))) (eBin oIx (eVar 1) (eC (.int 0)))) (aCons (eBin oMul (eBin oIx (eVar 0) (eC (.int 1))) (eBin oIx (eVar 1) (eC (.int 1)))) aNil))))
def F__law_times (A : Str → Addr) : Fv := fnOf 2 2 (b__law_times A)
def tb (A : Str → Addr) : List (Addr × Fv) := [(A "direction_between", F_direction_between A), (A "plane_through", F_plane_through A)]
def b__law_call (A : Str → Addr) : Sv :=
    (sSeq (sIf (tvB (eBin oLt (eCallO cLen (aCons (eVar 1) aNil)) (eC (.int 3)))) (sRet (eIf (tvB (eBin oEq (eCallO cLen (aCons (eVar 1) aNil)) (eC (.int 1)))) (eCallL (tb A) 0 (aCons (eBin oIx (eVar 1) (eC (.int 0))) aNil)) (eCallL (tb A) 0 (aCons (eBin oIx (eVar 1) (eC (.int 0))) (aCons (eBin oIx (eVar 1) (eC (.int 1))) aNil))))) sNext)
    (sSeq (sIf (tvB (eBin oEq (eCallO cLen (aCons (eVar 1) aNil)) (eC (.int 3)))) (sRet (eCallL (tb A) 0 (aCons (eBin oIx (eVar 1) (eC (.int 0))) (aCons (eBin oIx (eVar 1) (eC (.int 1))) (aCons (eBin oIx (eVar 1) (eC (.int 2))) aNil))))) sNext)
    (sRet (eCallL (tb A) 0 (aCons (eBin oIx (eVar 1) (eC (.int 0))) (aCons (eBin oIx (eVar 1) (eC (.int 1))) (aCons (eBin oIx (eVar 1) (eC (.int 2))) (aCons (eBin oIx (eVar 1) (eC (.int 3))) aNil))))))))
def F__law_call (A : Str → Addr) : Fv := fnOf 2 2 (b__law_call A)
def b__law_plus (A : Str → Addr) : Sv :=
    (sRet (eCall (F__law_low A) (aCons (eBin oAdd (eBin oMul (eBin oIx (eVar 0) (eC (.int 0))) (eBin oIx (eVar 1) (eC (.int 1)))) (eBin oMul (eBin oIx (eVar 1) (eC (.int 0))) (eBin oIx (eVar 0) (eC (.int 1))))) (aCons (eBin oMul (eBin oIx (eVar 0) (eC (.int 1))) (eBin oIx (eVar 1) (eC (.int 1)))) aNil))))
def F__law_plus (A : Str → Addr) : Fv := fnOf 2 2 (b__law_plus A)
def b__law_minus (A : Str → Addr) : Sv :=
    (sRet (eCall (F__law_plus A) (aCons (eVar 0) (aCons (eTup (aCons (eBin oSub (eC (.int 0)) (eBin oIx (eVar 1) (eC (.int 0)))) (aCons (eBin oIx (eVar 1) (eC (.int 1))) aNil))) aNil))))
def F__law_minus (A : Str → Addr) : Fv := fnOf 2 2 (b__law_minus A)
def b__law_heard (A : Str → Addr) : Sv :=
    (sSeq (sNt (.tp [(.nm 2), (.nm 3)]) (eTup (aCons (eC .non) (aCons (eC .non) aNil))))
    (sSeq (sTrys (sSet 3 (eCall (F__law_call A) (aCons (eVar 0) (aCons (eVar 1) aNil)))) [(A "Flat", 4, "flat"), (A "CanNot", 5, "cannot")] 2)
    (sRet (eIf (tvB (eBin (oIs false) (eVar 2) (eC .non))) (eVar 3) (eVar 2)))))
def F__law_heard (A : Str → Addr) : Fv := fnOf 2 6 (b__law_heard A)
def b__law_way (A : Str → Addr) : Sv :=
    (sRet (eCallO cTuple (aCons (eLc [2] (iRng1 (aCons (eC (.int 3)) aNil)) (.nm 2) tvYes (eCall (F__law_minus A) (aCons (eCall (F__law_low A) (aCons (eBin oIx (eVar 1) (eVar 2)) (aCons (eBin oIx (eVar 1) (eC (.int 3))) aNil))) (aCons (eCall (F__law_low A) (aCons (eBin oIx (eVar 0) (eVar 2)) (aCons (eBin oIx (eVar 0) (eC (.int 3))) aNil))) aNil)))) aNil)))
def F__law_way (A : Str → Addr) : Fv := fnOf 2 3 (b__law_way A)
def b__law_six (A : Str → Addr) : Sv :=
    (sSeq (sPar3 4 5 6 (aCons (eCall (F__law_way A) (aCons (eVar 0) (aCons (eVar 1) aNil))) (aCons (eCall (F__law_way A) (aCons (eVar 0) (aCons (eVar 2) aNil))) (aCons (eCall (F__law_way A) (aCons (eVar 0) (aCons (eVar 3) aNil))) aNil))))
    (sSeq (sSet 7 (eTup (aCons (eC (.int 0)) (aCons (eC (.int 1)) aNil))))
    (sSeq (sFor (iRng1 (aCons (eC (.int 3)) aNil)) (.nm 8) (sSeq (sPar 9 10 (aCons (eBin oMod (eBin oAdd (eVar 8) (eC (.int 1))) (eC (.int 3))) (aCons (eBin oMod (eBin oAdd (eVar 8) (eC (.int 2))) (eC (.int 3))) aNil)))
     (sSet 7 (eCall (F__law_plus A) (aCons (eVar 7) (aCons (eCall (F__law_times A) (aCons (eBin oIx (eVar 6) (eVar 8)) (aCons (eCall (F__law_minus A) (aCons (eCall (F__law_times A) (aCons (eBin oIx (eVar 4) (eVar 9)) (aCons (eBin oIx (eVar 5) (eVar 10)) aNil))) (aCons (eCall (F__law_times A) (aCons (eBin oIx (eVar 4) (eVar 10)) (aCons (eBin oIx (eVar 5) (eVar 9)) aNil))) aNil))) aNil))) aNil))))))
    (sRet (eVar 7)))))
def F__law_six (A : Str → Addr) : Fv := fnOf 4 11 (b__law_six A)
def b_law (A : Str → Addr) : Sv :=
    (sSeq (sSet 1 (eCall (F__law_box A) (aCons (eCall (F__law_cells A) (aCons (eVar 0) (aCons (eC (.int 1)) aNil))) (aCons (eC (.int 0)) aNil))))
    (sSeq (sFor (iRng1 (aCons (eC (.int 3)) aNil)) (.nm 2) (sSeq (sUnl [(.nm 3), (.nm 4), (.nm 5), (.nm 6)] (eLc [22] (iRng1 (aCons (eC (.int 4)) aNil)) (.nm 22) tvYes (eCall (F__law_spot A) (aCons (eVar 1) (aCons (eC (.int 4)) aNil)))))
     (sSeq (sSet 7 (eCall (F__law_way A) (aCons (eVar 3) (aCons (eVar 4) aNil))))
     (sSeq (sSet 8 (eLst (aCons (eCallK (F_place A) 0 1 [0] aNil (aCons (eVar 3) aNil)) (aCons (eCallK (F_moved_by A) 0 2 [0, 1] aNil (aCons (eVar 3) (aCons (eVar 7) aNil))) (aCons (eCallK (F_half_way A) 0 2 [0, 1] aNil (aCons (eVar 3) (aCons (eVar 4) aNil))) (aCons (eCall (F_half_way A) (aCons (eVar 4) (aCons (eVar 3) aNil))) (aCons (eCall (F_point A) (aCons (eBin oIx (eCall (F_place A) (aCons (eVar 5) aNil)) (eC (.int 0))) (aCons (eBin oIx (eCall (F_place A) (aCons (eVar 5) aNil)) (eC (.int 1))) (aCons (eBin oIx (eCall (F_place A) (aCons (eVar 5) aNil)) (eC (.int 2))) aNil)))) aNil)))))))
     (sSeq (sSet 9 (eCall (F_moved_by A) (aCons (eVar 3) (aCons (eCallO cTuple (aCons (eLc [11] (iOf (eVar 7)) (.nm 11) tvYes (eCall (F__law_times A) (aCons (eVar 11) (aCons (eTup (aCons (eC (.int 1)) (aCons (eC (.int 2)) aNil))) aNil)))) aNil)) aNil))))
     (sSeq (sIf (tvNot (tvT (eCall (F__law_same A 5) (aCons (eVar 8) (aCons (eLst (aCons (eCallO cTuple (aCons (eLc [11] (iOf (eSl (eVar 3) oNone (oSome (eC (.int 3))))) (.nm 11) tvYes (eCall (F__law_low A) (aCons (eVar 11) (aCons (eBin oIx (eVar 3) (eC (.int 3))) aNil)))) aNil)) (aCons (eVar 4) (aCons (eVar 9) (aCons (eVar 9) (aCons (eVar 5) aNil)))))) aNil))))) (sRet (eC (.bl false))) sNext)
     (sSeq (sSet 10 (eTup (aCons (eC (.int 0)) (aCons (eC (.int 1)) aNil))))
     (sSeq (sFor (iOf (eVar 7)) (.nm 11) (sSet 10 (eCallK (F_added A) 0 2 [0, 1] aNil (aCons (eVar 10) (aCons (eCall (F_times A) (aCons (eVar 11) (aCons (eVar 11) aNil))) aNil)))))
     (sSeq (sIf (tvNot (tvT (eCall (F__law_same A 5) (aCons (eLst (aCons (eCallK (F_square_between A) 0 2 [0, 1] aNil (aCons (eVar 3) (aCons (eVar 4) aNil))) (aCons (eCall (F_square_between A) (aCons (eVar 4) (aCons (eVar 3) aNil))) (aCons (eCall (F_square_between A) (aCons (eVar 3) (aCons (eVar 9) aNil))) aNil)))) (aCons (eLst (aCons (eVar 10) (aCons (eVar 10) (aCons (eCall (F__law_times A) (aCons (eVar 10) (aCons (eTup (aCons (eC (.int 1)) (aCons (eC (.int 4)) aNil))) aNil))) aNil)))) aNil))))) (sRet (eC (.bl false))) sNext)
     (sSeq (sSet 12 (eCall (F__law_heard A) (aCons (eC (.obj (A "direction_between"))) (aCons (eTup (aCons (eVar 3) (aCons (eVar 4) aNil))) aNil))))
     (sSeq (sIf (tvB (eBin oEq (eVar 3) (eVar 4))) (sIf (tvB (eBin oNe (eVar 12) (eLst (aCons (eC (.str "flat")) (aCons (eC (.bl true)) aNil))))) (sRet (eC (.bl false))) sNext) (sSeq (sSet 13 (eCallK (F_time_of A) 0 2 [0, 1] aNil (aCons (eTup (aCons (eVar 3) (aCons (eVar 12) aNil))) (aCons (eVar 4) aNil))))
      (sSeq (sIf (tvOr (tvB (eBin oNe (eCall (F_place_at A) (aCons (eTup (aCons (eVar 3) (aCons (eVar 12) aNil))) (aCons (eVar 13) aNil))) (eVar 4))) (tvOr (tvB (eBin oLe (eBin oIx (eVar 13) (eC (.int 0))) (eC (.int 0)))) (tvB (eBin oNe (eCallK (F_least_direction A) 0 1 [0] aNil (aCons (eCallO cTuple (aCons (eLc [11] (iOf (eVar 12)) (.nm 11) tvYes (eBin oMul (eC (.int 5)) (eVar 11))) aNil)) aNil)) (eVar 12))))) (sRet (eC (.bl false))) sNext)
      (sSeq (sIf (tvB (eBin oNe (eCall (F_direction_between A) (aCons (eVar 4) (aCons (eVar 3) aNil))) (eCallO cTuple (aCons (eLc [11] (iOf (eVar 12)) (.nm 11) tvYes (eBin oSub (eC (.int 0)) (eVar 11))) aNil)))) (sRet (eC (.bl false))) sNext)
      (sIf (tvOr (tvB (eBin oNe (eCallK (F_place_at A) 0 2 [0, 1] aNil (aCons (eTup (aCons (eVar 3) (aCons (eVar 12) aNil))) (aCons (eCall (F__law_times A) (aCons (eVar 13) (aCons (eTup (aCons (eC (.int 1)) (aCons (eC (.int 2)) aNil))) aNil))) aNil))) (eVar 9))) (tvB (eBin oNe (eCall (F_time_of A) (aCons (eTup (aCons (eVar 4) (aCons (eVar 12) aNil))) (aCons (eVar 3) aNil))) (eCall (F__law_minus A) (aCons (eTup (aCons (eC (.int 0)) (aCons (eC (.int 1)) aNil))) (aCons (eVar 13) aNil)))))) (sRet (eC (.bl false))) sNext)))))
     (sSeq (sSet 14 (eCall (F__law_six A) (aCons (eVar 3) (aCons (eVar 4) (aCons (eVar 5) (aCons (eVar 6) aNil))))))
     (sSeq (sSet 8 (eLst (aCons (eCallK (F_sixfold A) 0 4 [0, 1, 2, 3] aNil (aCons (eVar 3) (aCons (eVar 4) (aCons (eVar 5) (aCons (eVar 6) aNil))))) (aCons (eCall (F_sixfold A) (aCons (eVar 4) (aCons (eVar 3) (aCons (eVar 5) (aCons (eVar 6) aNil))))) (aCons (eCall (F_sixfold A) (aCons (eVar 4) (aCons (eVar 5) (aCons (eVar 3) (aCons (eVar 6) aNil))))) (aCons (eCall (F_sixfold A) (aCons (eVar 3) (aCons (eVar 4) (aCons (eVar 6) (aCons (eVar 5) aNil))))) (aCons (eCall (F_sixfold A) (aCons (eVar 3) (aCons (eVar 3) (aCons (eVar 5) (aCons (eVar 6) aNil))))) aNil)))))))
     (sSeq (sIf (tvNot (tvT (eCall (F__law_same A 5) (aCons (eVar 8) (aCons (eLst (aCons (eVar 14) (aCons (eCall (F__law_minus A) (aCons (eTup (aCons (eC (.int 0)) (aCons (eC (.int 1)) aNil))) (aCons (eVar 14) aNil))) (aCons (eVar 14) (aCons (eCall (F__law_minus A) (aCons (eTup (aCons (eC (.int 0)) (aCons (eC (.int 1)) aNil))) (aCons (eVar 14) aNil))) (aCons (eTup (aCons (eC (.int 0)) (aCons (eC (.int 1)) aNil))) aNil)))))) aNil))))) (sRet (eC (.bl false))) sNext)
     (sSeq (sNt (.tp [(.nm 15), (.nm 16)]) (eTup (aCons (eCall (F__law_way A) (aCons (eVar 3) (aCons (eVar 4) aNil))) (aCons (eCall (F__law_way A) (aCons (eVar 3) (aCons (eVar 5) aNil))) aNil))))
     (sSeq (sSet 17 (eBin oEq (eLc [22] (iRng1 (aCons (eC (.int 3)) aNil)) (.nm 22) (tvB (eBin oNe (eBin oIx (eCall (F__law_minus A) (aCons (eCall (F__law_times A) (aCons (eBin oIx (eVar 15) (eBin oSub (eVar 22) (eC (.int 2)))) (aCons (eBin oIx (eVar 16) (eBin oSub (eVar 22) (eC (.int 1)))) aNil))) (aCons (eCall (F__law_times A) (aCons (eBin oIx (eVar 15) (eBin oSub (eVar 22) (eC (.int 1)))) (aCons (eBin oIx (eVar 16) (eBin oSub (eVar 22) (eC (.int 2)))) aNil))) aNil))) (eC (.int 0))) (eC (.int 0)))) (eC (.int 1))) (eLst aNil)))
     (sSeq (sSet 18 (eCall (F__law_heard A) (aCons (eC (.obj (A "plane_through"))) (aCons (eTup (aCons (eVar 3) (aCons (eVar 4) (aCons (eVar 5) aNil)))) aNil))))
     (sSeq (sIf (tvOr (tvB (eBin oNe (eCallK (F_on_one_line A) 0 3 [0, 1, 2] aNil (aCons (eVar 3) (aCons (eVar 4) (aCons (eVar 5) aNil)))) (eVar 17))) (tvB (eBin oNe (eBin oEq (eVar 18) (eLst (aCons (eC (.str "flat")) (aCons (eC (.bl true)) aNil)))) (eVar 17)))) (sRet (eC (.bl false))) sNext)
     (sSeq (sIf (tvNot (tvT (eVar 17))) (sSeq (sSet 8 (eLst (aCons (eCall (F_plane_through A) (aCons (eVar 4) (aCons (eVar 5) (aCons (eVar 3) aNil)))) (aCons (eCallK (F_plane_through A) 0 3 [0, 1, 2] aNil (aCons (eVar 4) (aCons (eVar 3) (aCons (eVar 5) aNil)))) (aCons (eLc [11] (iOf (eTup (aCons (eVar 3) (aCons (eVar 4) (aCons (eVar 5) aNil))))) (.nm 11) tvYes (eCall (F_side A) (aCons (eVar 18) (aCons (eTup (aCons (eTup aNil) (aCons (eVar 11) aNil))) aNil)))) (aCons (eCall (F_side A) (aCons (eVar 18) (aCons (eTup (aCons (eTup aNil) (aCons (eVar 6) aNil))) aNil))) aNil))))))
      (sIf (tvNot (tvT (eCall (F__law_same A 5) (aCons (eVar 8) (aCons (eLst (aCons (eVar 18) (aCons (eCall (F_contrary A) (aCons (eVar 18) aNil)) (aCons (eLst (aCons (eC (.int 0)) (aCons (eC (.int 0)) (aCons (eC (.int 0)) aNil)))) (aCons (eCall (F_compared A) (aCons (eVar 14) (aCons (eTup (aCons (eC (.int 0)) (aCons (eC (.int 1)) aNil))) aNil))) aNil))))) aNil))))) (sRet (eC (.bl false))) sNext)) sNext)
     (sSeq (sPar 19 20 (aCons (eCallO cTuple (aCons (eLc [22] (iRng1 (aCons (eC (.int 3)) aNil)) (.nm 22) tvYes (eBin oSub (eCall (F__law_take A) (aCons (eVar 1) (aCons (eC (.int 9)) aNil))) (eC (.int 4)))) aNil)) (aCons (eCallO cTuple (aCons (eLc [22] (iRng1 (aCons (eC (.int 3)) aNil)) (.nm 22) tvYes (eBin oSub (eCall (F__law_take A) (aCons (eVar 1) (aCons (eC (.int 9)) aNil))) (eC (.int 4)))) aNil)) aNil)))
     (sSeq (sSet 21 (eCallK (F_cross A) 0 2 [0, 1] aNil (aCons (eVar 19) (aCons (eVar 20) aNil))))
     (sSeq (sIf (tvNot (tvT (eCall (F__law_same A 5) (aCons (eLst (aCons (eCallK (F_dot A) 0 2 [0, 1] aNil (aCons (eVar 19) (aCons (eVar 21) aNil))) (aCons (eCall (F_dot A) (aCons (eVar 21) (aCons (eVar 20) aNil))) (aCons (eCall (F_cross A) (aCons (eVar 20) (aCons (eVar 19) aNil))) (aCons (eCall (F_dot A) (aCons (eVar 21) (aCons (eVar 21) aNil))) aNil))))) (aCons (eLst (aCons (eC (.int 0)) (aCons (eC (.int 0)) (aCons (eCallO cTuple (aCons (eLc [11] (iOf (eVar 21)) (.nm 11) tvYes (eBin oSub (eC (.int 0)) (eVar 11))) aNil)) (aCons (eBin oSub (eBin oMul (eCall (F_dot A) (aCons (eVar 19) (aCons (eVar 19) aNil))) (eCall (F_dot A) (aCons (eVar 20) (aCons (eVar 20) aNil)))) (eBin oMul (eCall (F_dot A) (aCons (eVar 19) (aCons (eVar 20) aNil))) (eCall (F_dot A) (aCons (eVar 19) (aCons (eVar 20) aNil))))) aNil))))) aNil))))) (sRet (eC (.bl false))) sNext)
     (sIf (tvB (eBin oNe (eCall (F_less A) (aCons (eCall (F_added A) (aCons (eVar 14) (aCons (eVar 10) aNil))) (aCons (eVar 10) aNil))) (eVar 14))) (sRet (eC (.bl false))) sNext)))))))))))))))))))))))
    (sRet (eC (.bl true)))))
def F_law (A : Str → Addr) : Fv := fnOf 1 23 (b_law A)
/-! what the top has written -/
structure Tx (A : Str → Addr) (fd : Str → FuncData) (K : PySem.W.Frag) (mg : Str → Option Value) : Prop where
  n_ValueError : mg "ValueError" = none
  n_abs : mg "abs" = none
  n_all : mg "all" = none
  n_any : mg "any" = none
  n_bool : mg "bool" = none
  n_enumerate : mg "enumerate" = none
  n_int : mg "int" = none
  n_isinstance : mg "isinstance" = none
  n_len : mg "len" = none
  n_list : mg "list" = none
  n_range : mg "range" = none
  n_str : mg "str" = none
  n_tuple : mg "tuple" = none
  n_zip : mg "zip" = none
  b_gcd : mg "gcd" = some (.builtin "math.gcd")
  x_CanNot : ExD K mg "CanNot" (A "CanNot")
  x_Flat : ExD K mg "Flat" (A "Flat")
  x_Unfit : ExD K mg "Unfit" (A "Unfit")
  c_CanNot : CtD K (A "CanNot")
  c_Flat : CtD K (A "Flat")
  f_Flat_CanNot : PySem.W.exmOne K (.ref (A "CanNot")) (.ref (A "Flat")) = some false ∧ A "Flat" ≠ A "CanNot"
  g_is_number : mg "is_number" = some (.ref (A "is_number"))
  u_is_number : Fun K "is_number" "is_number" s_is_number (A "is_number") (fd "is_number")
  g_is_from : mg "is_from" = some (.ref (A "is_from"))
  u_is_from : Fun K "is_from" "is_from" s_is_from (A "is_from") (fd "is_from")
  g_is_long : mg "is_long" = some (.ref (A "is_long"))
  u_is_long : Fun K "is_long" "is_long" s_is_long (A "is_long") (fd "is_long")
  g_tupled : mg "tupled" = some (.ref (A "tupled"))
  u_tupled : Fun K "tupled" "tupled" s_tupled (A "tupled") (fd "tupled")
  g_is_row : mg "is_row" = some (.ref (A "is_row"))
  u_is_row : Fun K "is_row" "is_row" s_is_row (A "is_row") (fd "is_row")
  g_divisor : mg "divisor" = some (.ref (A "divisor"))
  u_divisor : Fun K "divisor" "divisor" s_divisor (A "divisor") (fd "divisor")
  g_is_fraction : mg "is_fraction" = some (.ref (A "is_fraction"))
  u_is_fraction : Fun K "is_fraction" "is_fraction" s_is_fraction (A "is_fraction") (fd "is_fraction")
  g_sure_fraction : mg "sure_fraction" = some (.ref (A "sure_fraction"))
  u_sure_fraction : Fun K "sure_fraction" "sure_fraction" s_sure_fraction (A "sure_fraction") (fd "sure_fraction")
  g_made : mg "made" = some (.ref (A "made"))
  u_made : Fun K "made" "made" s_made (A "made") (fd "made")
  g_two : mg "two" = some (.ref (A "two"))
  u_two : Fun K "two" "two" s_two (A "two") (fd "two")
  g_added : mg "added" = some (.ref (A "added"))
  u_added : Fun K "added" "added" s_added (A "added") (fd "added")
  g_less : mg "less" = some (.ref (A "less"))
  u_less : Fun K "less" "less" s_less (A "less") (fd "less")
  g_times : mg "times" = some (.ref (A "times"))
  u_times : Fun K "times" "times" s_times (A "times") (fd "times")
  g_compared : mg "compared" = some (.ref (A "compared"))
  u_compared : Fun K "compared" "compared" s_compared (A "compared") (fd "compared")
  g_is_point : mg "is_point" = some (.ref (A "is_point"))
  u_is_point : Fun K "is_point" "is_point" s_is_point (A "is_point") (fd "is_point")
  g_is_direction : mg "is_direction" = some (.ref (A "is_direction"))
  u_is_direction : Fun K "is_direction" "is_direction" s_is_direction (A "is_direction") (fd "is_direction")
  g_is_ray : mg "is_ray" = some (.ref (A "is_ray"))
  u_is_ray : Fun K "is_ray" "is_ray" s_is_ray (A "is_ray") (fd "is_ray")
  g_sure_point : mg "sure_point" = some (.ref (A "sure_point"))
  u_sure_point : Fun K "sure_point" "sure_point" s_sure_point (A "sure_point") (fd "sure_point")
  g_sure_direction : mg "sure_direction" = some (.ref (A "sure_direction"))
  u_sure_direction : Fun K "sure_direction" "sure_direction" s_sure_direction (A "sure_direction") (fd "sure_direction")
  g_sure_ray : mg "sure_ray" = some (.ref (A "sure_ray"))
  u_sure_ray : Fun K "sure_ray" "sure_ray" s_sure_ray (A "sure_ray") (fd "sure_ray")
  g_parted : mg "parted" = some (.ref (A "parted"))
  u_parted : Fun K "parted" "parted" s_parted (A "parted") (fd "parted")
  g_spot : mg "spot" = some (.ref (A "spot"))
  u_spot : Fun K "spot" "spot" s_spot (A "spot") (fd "spot")
  g_point : mg "point" = some (.ref (A "point"))
  u_point : Fun K "point" "point" s_point (A "point") (fd "point")
  g_place : mg "place" = some (.ref (A "place"))
  u_place : Fun K "place" "place" s_place (A "place") (fd "place")
  g_cross : mg "cross" = some (.ref (A "cross"))
  u_cross : Fun K "cross" "cross" s_cross (A "cross") (fd "cross")
  g_dot : mg "dot" = some (.ref (A "dot"))
  u_dot : Fun K "dot" "dot" s_dot (A "dot") (fd "dot")
  g_least_direction : mg "least_direction" = some (.ref (A "least_direction"))
  u_least_direction : Fun K "least_direction" "least_direction" s_least_direction (A "least_direction") (fd "least_direction")
  g_way_between : mg "way_between" = some (.ref (A "way_between"))
  u_way_between : Fun K "way_between" "way_between" s_way_between (A "way_between") (fd "way_between")
  g_direction_between : mg "direction_between" = some (.ref (A "direction_between"))
  u_direction_between : Fun K "direction_between" "direction_between" s_direction_between (A "direction_between") (fd "direction_between")
  g_moved_by : mg "moved_by" = some (.ref (A "moved_by"))
  u_moved_by : Fun K "moved_by" "moved_by" s_moved_by (A "moved_by") (fd "moved_by")
  g_half_way : mg "half_way" = some (.ref (A "half_way"))
  u_half_way : Fun K "half_way" "half_way" s_half_way (A "half_way") (fd "half_way")
  g_square_between : mg "square_between" = some (.ref (A "square_between"))
  u_square_between : Fun K "square_between" "square_between" s_square_between (A "square_between") (fd "square_between")
  g_place_at : mg "place_at" = some (.ref (A "place_at"))
  u_place_at : Fun K "place_at" "place_at" s_place_at (A "place_at") (fd "place_at")
  g_time_of : mg "time_of" = some (.ref (A "time_of"))
  u_time_of : Fun K "time_of" "time_of" s_time_of (A "time_of") (fd "time_of")
  g_upright : mg "upright" = some (.ref (A "upright"))
  u_upright : Fun K "upright" "upright" s_upright (A "upright") (fd "upright")
  g_on_one_line : mg "on_one_line" = some (.ref (A "on_one_line"))
  u_on_one_line : Fun K "on_one_line" "on_one_line" s_on_one_line (A "on_one_line") (fd "on_one_line")
  g_plane_through : mg "plane_through" = some (.ref (A "plane_through"))
  u_plane_through : Fun K "plane_through" "plane_through" s_plane_through (A "plane_through") (fd "plane_through")
  g_sixfold : mg "sixfold" = some (.ref (A "sixfold"))
  u_sixfold : Fun K "sixfold" "sixfold" s_sixfold (A "sixfold") (fd "sixfold")
  g_is_wall : mg "is_wall" = some (.ref (A "is_wall"))
  u_is_wall : Fun K "is_wall" "is_wall" s_is_wall (A "is_wall") (fd "is_wall")
  g_sure_wall : mg "sure_wall" = some (.ref (A "sure_wall"))
  u_sure_wall : Fun K "sure_wall" "sure_wall" s_sure_wall (A "sure_wall") (fd "sure_wall")
  g_are_values : mg "are_values" = some (.ref (A "are_values"))
  u_are_values : Fun K "are_values" "are_values" s_are_values (A "are_values") (fd "are_values")
  g_sure_values : mg "sure_values" = some (.ref (A "sure_values"))
  u_sure_values : Fun K "sure_values" "sure_values" s_sure_values (A "sure_values") (fd "sure_values")
  g_sure_case : mg "sure_case" = some (.ref (A "sure_case"))
  u_sure_case : Fun K "sure_case" "sure_case" s_sure_case (A "sure_case") (fd "sure_case")
  g_other_side : mg "other_side" = some (.ref (A "other_side"))
  u_other_side : Fun K "other_side" "other_side" s_other_side (A "other_side") (fd "other_side")
  g_contrary : mg "contrary" = some (.ref (A "contrary"))
  u_contrary : Fun K "contrary" "contrary" s_contrary (A "contrary") (fd "contrary")
  g_sum_at : mg "sum_at" = some (.ref (A "sum_at"))
  u_sum_at : Fun K "sum_at" "sum_at" s_sum_at (A "sum_at") (fd "sum_at")
  g_beyond : mg "beyond" = some (.ref (A "beyond"))
  u_beyond : Fun K "beyond" "beyond" s_beyond (A "beyond") (fd "beyond")
  g_side_in : mg "side_in" = some (.ref (A "side_in"))
  u_side_in : Fun K "side_in" "side_in" s_side_in (A "side_in") (fd "side_in")
  g_side : mg "side" = some (.ref (A "side"))
  u_side : Fun K "side" "side" s_side (A "side") (fd "side")
  g__law_box : mg "_law_box" = some (.ref (A "_law_box"))
  u__law_box : Fun K "_law_box" "_law_box" s__law_box (A "_law_box") (fd "_law_box")
  g__law_take : mg "_law_take" = some (.ref (A "_law_take"))
  u__law_take : Fun K "_law_take" "_law_take" s__law_take (A "_law_take") (fd "_law_take")
  g__law_cells : mg "_law_cells" = some (.ref (A "_law_cells"))
  u__law_cells : Fun K "_law_cells" "_law_cells" s__law_cells (A "_law_cells") (fd "_law_cells")
  g__law_same : mg "_law_same" = some (.ref (A "_law_same"))
  u__law_same : Fun K "_law_same" "_law_same" s__law_same (A "_law_same") (fd "_law_same")
  g__law_least : mg "_law_least" = some (.ref (A "_law_least"))
  u__law_least : Fun K "_law_least" "_law_least" s__law_least (A "_law_least") (fd "_law_least")
  g__law_spot : mg "_law_spot" = some (.ref (A "_law_spot"))
  u__law_spot : Fun K "_law_spot" "_law_spot" s__law_spot (A "_law_spot") (fd "_law_spot")
  g__law_low : mg "_law_low" = some (.ref (A "_law_low"))
  u__law_low : Fun K "_law_low" "_law_low" s__law_low (A "_law_low") (fd "_law_low")
  g__law_times : mg "_law_times" = some (.ref (A "_law_times"))
  u__law_times : Fun K "_law_times" "_law_times" s__law_times (A "_law_times") (fd "_law_times")
  g__law_call : mg "_law_call" = some (.ref (A "_law_call"))
  u__law_call : Fun K "_law_call" "_law_call" s__law_call (A "_law_call") (fd "_law_call")
  g__law_plus : mg "_law_plus" = some (.ref (A "_law_plus"))
  u__law_plus : Fun K "_law_plus" "_law_plus" s__law_plus (A "_law_plus") (fd "_law_plus")
  g__law_minus : mg "_law_minus" = some (.ref (A "_law_minus"))
  u__law_minus : Fun K "_law_minus" "_law_minus" s__law_minus (A "_law_minus") (fd "_law_minus")
  g__law_heard : mg "_law_heard" = some (.ref (A "_law_heard"))
  u__law_heard : Fun K "_law_heard" "_law_heard" s__law_heard (A "_law_heard") (fd "_law_heard")
  g__law_way : mg "_law_way" = some (.ref (A "_law_way"))
  u__law_way : Fun K "_law_way" "_law_way" s__law_way (A "_law_way") (fd "_law_way")
  g__law_six : mg "_law_six" = some (.ref (A "_law_six"))
  u__law_six : Fun K "_law_six" "_law_six" s__law_six (A "_law_six") (fd "_law_six")
  g_law : mg "law" = some (.ref (A "law"))
  u_law : Fun K "law" "law" s_law (A "law") (fd "law")
theorem kb_dot_0_near_far {K : PySem.W.Frag} {f : Addr} {fd : FuncData} (U : Fun K "dot" "dot" s_dot f fd) : KBd fd ["near", "far"] 0 ["near", "far"] [0, 1] := by
  obtain ⟨oc, od, kV, doc, pm, an, cdv, ct, osl, rfl, _⟩ := U.ex
  exact fun s us ws hu hw => match us, ws, hu, hw with | [], [_, _], _, _ => .of_eq rfl
theorem kb_cross_0_near_far {K : PySem.W.Frag} {f : Addr} {fd : FuncData} (U : Fun K "cross" "cross" s_cross f fd) : KBd fd ["near", "far"] 0 ["near", "far"] [0, 1] := by
  obtain ⟨oc, od, kV, doc, pm, an, cdv, ct, osl, rfl, _⟩ := U.ex
  exact fun s us ws hu hw => match us, ws, hu, hw with | [], [_, _], _, _ => .of_eq rfl
theorem kb_plane_through_0_one_other_third {K : PySem.W.Frag} {f : Addr} {fd : FuncData} (U : Fun K "plane_through" "plane_through" s_plane_through f fd) : KBd fd ["one", "other", "third"] 0 ["one", "other", "third"] [0, 1, 2] := by
  obtain ⟨oc, od, kV, doc, pm, an, cdv, ct, osl, rfl, _⟩ := U.ex
  exact fun s us ws hu hw => match us, ws, hu, hw with | [], [_, _, _], _, _ => .of_eq rfl
theorem kb_on_one_line_0_one_other_third {K : PySem.W.Frag} {f : Addr} {fd : FuncData} (U : Fun K "on_one_line" "on_one_line" s_on_one_line f fd) : KBd fd ["one", "other", "third"] 0 ["one", "other", "third"] [0, 1, 2] := by
  obtain ⟨oc, od, kV, doc, pm, an, cdv, ct, osl, rfl, _⟩ := U.ex
  exact fun s us ws hu hw => match us, ws, hu, hw with | [], [_, _, _], _, _ => .of_eq rfl
theorem kb_sixfold_0_one_other_third_fourth {K : PySem.W.Frag} {f : Addr} {fd : FuncData} (U : Fun K "sixfold" "sixfold" s_sixfold f fd) : KBd fd ["one", "other", "third", "fourth"] 0 ["one", "other", "third", "fourth"] [0, 1, 2, 3] := by
  obtain ⟨oc, od, kV, doc, pm, an, cdv, ct, osl, rfl, _⟩ := U.ex
  exact fun s us ws hu hw => match us, ws, hu, hw with | [], [_, _, _, _], _, _ => .of_eq rfl
theorem kb_place_at_0_ray_t {K : PySem.W.Frag} {f : Addr} {fd : FuncData} (U : Fun K "place_at" "place_at" s_place_at f fd) : KBd fd ["ray", "t"] 0 ["ray", "t"] [0, 1] := by
  obtain ⟨oc, od, kV, doc, pm, an, cdv, ct, osl, rfl, _⟩ := U.ex
  exact fun s us ws hu hw => match us, ws, hu, hw with | [], [_, _], _, _ => .of_eq rfl
theorem kb_least_direction_0_direction {K : PySem.W.Frag} {f : Addr} {fd : FuncData} (U : Fun K "least_direction" "least_direction" s_least_direction f fd) : KBd fd ["direction"] 0 ["direction"] [0] := by
  obtain ⟨oc, od, kV, doc, pm, an, cdv, ct, osl, rfl, _⟩ := U.ex
  exact fun s us ws hu hw => match us, ws, hu, hw with | [], [_], _, _ => .of_eq rfl
theorem kb_time_of_0_ray_point {K : PySem.W.Frag} {f : Addr} {fd : FuncData} (U : Fun K "time_of" "time_of" s_time_of f fd) : KBd fd ["ray", "point"] 0 ["ray", "point"] [0, 1] := by
  obtain ⟨oc, od, kV, doc, pm, an, cdv, ct, osl, rfl, _⟩ := U.ex
  exact fun s us ws hu hw => match us, ws, hu, hw with | [], [_, _], _, _ => .of_eq rfl
theorem kb_square_between_0_one_other {K : PySem.W.Frag} {f : Addr} {fd : FuncData} (U : Fun K "square_between" "square_between" s_square_between f fd) : KBd fd ["one", "other"] 0 ["one", "other"] [0, 1] := by
  obtain ⟨oc, od, kV, doc, pm, an, cdv, ct, osl, rfl, _⟩ := U.ex
  exact fun s us ws hu hw => match us, ws, hu, hw with | [], [_, _], _, _ => .of_eq rfl
theorem kb_added_0_one_other {K : PySem.W.Frag} {f : Addr} {fd : FuncData} (U : Fun K "added" "added" s_added f fd) : KBd fd ["one", "other"] 0 ["one", "other"] [0, 1] := by
  obtain ⟨oc, od, kV, doc, pm, an, cdv, ct, osl, rfl, _⟩ := U.ex
  exact fun s us ws hu hw => match us, ws, hu, hw with | [], [_, _], _, _ => .of_eq rfl
theorem kb_half_way_0_one_other {K : PySem.W.Frag} {f : Addr} {fd : FuncData} (U : Fun K "half_way" "half_way" s_half_way f fd) : KBd fd ["one", "other"] 0 ["one", "other"] [0, 1] := by
  obtain ⟨oc, od, kV, doc, pm, an, cdv, ct, osl, rfl, _⟩ := U.ex
  exact fun s us ws hu hw => match us, ws, hu, hw with | [], [_, _], _, _ => .of_eq rfl
theorem kb_moved_by_0_point_way {K : PySem.W.Frag} {f : Addr} {fd : FuncData} (U : Fun K "moved_by" "moved_by" s_moved_by f fd) : KBd fd ["point", "way"] 0 ["point", "way"] [0, 1] := by
  obtain ⟨oc, od, kV, doc, pm, an, cdv, ct, osl, rfl, _⟩ := U.ex
  exact fun s us ws hu hw => match us, ws, hu, hw with | [], [_, _], _, _ => .of_eq rfl
theorem kb_place_0_point {K : PySem.W.Frag} {f : Addr} {fd : FuncData} (U : Fun K "place" "place" s_place f fd) : KBd fd ["point"] 0 ["point"] [0] := by
  obtain ⟨oc, od, kV, doc, pm, an, cdv, ct, osl, rfl, _⟩ := U.ex
  exact fun s us ws hu hw => match us, ws, hu, hw with | [], [_], _, _ => .of_eq rfl
/-! one theorem a def -/
section
variable {P : Program} {w : World} {K : PySem.W.Frag} {mg : Str → Option Value} {base : Heap} {A : Str → Addr} {fd : Str → FuncData}
theorem sc_is_number : FnScope ["thing"] ["thing"] (defScope s_is_number) := ⟨rfl, rfl, rfl, by decide +kernel, rfl, by decide +kernel, by decide +kernel⟩
theorem d_is_number (T : Tx A fd K mg)  : Dfn P w K mg base "is_number" (A "is_number") (fd "is_number") ["thing"] 1 (F_is_number A) :=
  fn_e T.u_is_number sc_is_number T.g_is_number (T.u_is_number.binds (ps := ["thing"]) fun _ _ _ _ _ _ us hl => match us, hl with | [_], _ => rfl) fun cdv AA outer s H E O =>
    (ess_one (es_ret (ee_and (ee_callB cd_isi rfl T.n_isinstance (by decide +kernel) (ea_cons (ee_var 0) (ea_cons (ee_ty .int rfl T.n_int (by decide +kernel)) ea_nil))) (ee_one (ee_not (ee_callB cd_isi rfl T.n_isinstance (by decide +kernel) (ea_cons (ee_var 0) (ea_cons (ee_ty .bool rfl T.n_bool (by decide +kernel)) ea_nil))))))))
theorem sc_is_from : FnScope ["thing", "least"] ["thing", "least"] (defScope s_is_from) := ⟨rfl, rfl, rfl, by decide +kernel, rfl, by decide +kernel, by decide +kernel⟩
theorem d_is_from (T : Tx A fd K mg) (d_is_number : Dfn P w K mg base "is_number" (A "is_number") (fd "is_number") ["thing"] 1 (F_is_number A)) : Dfn P w K mg base "is_from" (A "is_from") (fd "is_from") ["thing", "least"] 2 (F_is_from A) :=
  fn_e T.u_is_from sc_is_from T.g_is_from (T.u_is_from.binds (ps := ["thing", "least"]) fun _ _ _ _ _ _ us hl => match us, hl with | [_, _], _ => rfl) fun cdv AA outer s H E O =>
    (ess_one (es_ret (ee_and (ee_call O.toOkx d_is_number rfl (ea_cons (ee_var 0) ea_nil) ) (ee_one (ee_cmp od_ge (ee_var 0) (ee_var 1) (nomark _))))))
theorem sc_is_long : FnScope ["thing", "length"] ["thing", "length"] (defScope s_is_long) := ⟨rfl, rfl, rfl, by decide +kernel, rfl, by decide +kernel, by decide +kernel⟩
theorem d_is_long (T : Tx A fd K mg)  : Dfn P w K mg base "is_long" (A "is_long") (fd "is_long") ["thing", "length"] 1 (F_is_long A) :=
  fn_e T.u_is_long sc_is_long T.g_is_long (T.u_is_long.binds (ps := ["thing", "length"]) fun _ _ _ _ _ _ us hl => match us, hl with | [_, _], _ => rfl) fun cdv AA outer s H E O =>
    (ess_one (es_ret (ee_and (ee_callB cd_isi rfl T.n_isinstance (by decide +kernel) (ea_cons (ee_var 0) (ea_cons (ee_ty .tuple rfl T.n_tuple (by decide +kernel)) ea_nil))) (ee_one (ee_cmp (od_eq O.toOkx.room.units) (ee_callB cd_len rfl T.n_len (by decide +kernel) (ea_cons (ee_var 0) ea_nil)) (ee_var 1) (nomark _))))))
theorem sc_tupled : FnScope ["value", "own"] ["value"] (defScope s_tupled) := ⟨rfl, rfl, rfl, by decide +kernel, rfl, by decide +kernel, by decide +kernel⟩
theorem d_tupled (T : Tx A fd K mg)  : ∀ n, Dfn P w K mg base "tupled" (A "tupled") (fd "tupled") ["value"] (0 + n) (F_tupled A n)
  | 0 => dfn_no T.u_tupled T.g_tupled (T.u_tupled.binds (ps := ["value"]) fun _ _ _ _ _ _ us hl => match us, hl with | [_], _ => rfl)
  | n + 1 => by
    have dR := d_tupled T  n
    exact fn_e T.u_tupled sc_tupled T.g_tupled (T.u_tupled.binds (ps := ["value"]) fun _ _ _ _ _ _ us hl => match us, hl with | [_], _ => rfl) fun cdv AA outer s H E O =>
    (ess_one (es_ret (ee_if (et_truth (ee_callB cd_isi rfl T.n_isinstance (by decide +kernel) (ea_cons (ee_var 0) (ea_cons (ee_tup (ea_cons (ee_ty .list rfl T.n_list (by decide +kernel)) (ea_cons (ee_ty .tuple rfl T.n_tuple (by decide +kernel)) ea_nil))) ea_nil)))) (ee_callTy cd_tuple rfl T.n_tuple (by decide +kernel) (ea_cons (ee_lc [("own", 1)] O.toOkx.calm O.toOkx.nd (ei_of (ee_var 0)) (by first | rfl | kernel_rfl) (fun s H C cl fp => (en_name 1 (okx_blk O.toOkx).nd)) (fun s H C cl fp => ets_nil) (fun s H C cl fp => (ee_call (okx_blk O.toOkx) dR rfl (ea_cons (ee_var 1) ea_nil) (hj := Nat.le_refl _)))) ea_nil)) (ee_var 0))))
theorem sc_is_row : FnScope ["thing", "length", "own"] ["thing", "length"] (defScope s_is_row) := ⟨rfl, rfl, rfl, by decide +kernel, rfl, by decide +kernel, by decide +kernel⟩
theorem d_is_row (T : Tx A fd K mg) (d_is_long : Dfn P w K mg base "is_long" (A "is_long") (fd "is_long") ["thing", "length"] 1 (F_is_long A)) (d_is_number : Dfn P w K mg base "is_number" (A "is_number") (fd "is_number") ["thing"] 1 (F_is_number A)) : Dfn P w K mg base "is_row" (A "is_row") (fd "is_row") ["thing", "length"] 2 (F_is_row A) :=
  fn_e T.u_is_row sc_is_row T.g_is_row (T.u_is_row.binds (ps := ["thing", "length"]) fun _ _ _ _ _ _ us hl => match us, hl with | [_, _], _ => rfl) fun cdv AA outer s H E O =>
    (ess_one (es_ret (ee_and (ee_call O.toOkx d_is_long rfl (ea_cons (ee_var 0) (ea_cons (ee_var 1) ea_nil)) ) (ee_one (ee_callB (cd_all O.toOkx.calm) rfl T.n_all (by decide +kernel) (ea_cons (ee_lc [("own", 2)] O.toOkx.calm O.toOkx.nd (ei_of (ee_var 0)) (by first | rfl | kernel_rfl) (fun s H C cl fp => (en_name 2 (okx_blk O.toOkx).nd)) (fun s H C cl fp => ets_nil) (fun s H C cl fp => (ee_call (okx_blk O.toOkx) d_is_number rfl (ea_cons (ee_var 2) ea_nil) ))) ea_nil))))))
theorem sc_divisor : FnScope ["numbers", "found", "own"] ["numbers"] (defScope s_divisor) := ⟨rfl, rfl, rfl, by decide +kernel, rfl, by decide +kernel, by decide +kernel⟩
theorem d_divisor (T : Tx A fd K mg)  : Dfn P w K mg base "divisor" (A "divisor") (fd "divisor") ["numbers"] 1 (F_divisor A) :=
  fn_e T.u_divisor sc_divisor T.g_divisor (T.u_divisor.binds (ps := ["numbers"]) fun _ _ _ _ _ _ us hl => match us, hl with | [_], _ => rfl) fun cdv AA outer s H E O =>
    (ess_cons (es_set 1 O.toOkx.nd ee_int)
    (ess_cons (es_for O.po O.toOkx.calm (ei_of (ee_var 0)) (en_name 2 O.toOkx.nd) (ess_one (es_set 1 O.toOkx.nd (ee_callF cd_gcd rfl T.b_gcd (ea_cons (ee_var 1) (ea_cons (ee_var 2) ea_nil))))))
    (ess_one (es_ret (ee_var 1)))))
theorem sc_is_fraction : FnScope ["thing"] ["thing"] (defScope s_is_fraction) := ⟨rfl, rfl, rfl, by decide +kernel, rfl, by decide +kernel, by decide +kernel⟩
theorem d_is_fraction (T : Tx A fd K mg) (d_divisor : Dfn P w K mg base "divisor" (A "divisor") (fd "divisor") ["numbers"] 1 (F_divisor A)) (d_is_long : Dfn P w K mg base "is_long" (A "is_long") (fd "is_long") ["thing", "length"] 1 (F_is_long A)) (d_is_number : Dfn P w K mg base "is_number" (A "is_number") (fd "is_number") ["thing"] 1 (F_is_number A)) (d_is_from : Dfn P w K mg base "is_from" (A "is_from") (fd "is_from") ["thing", "least"] 2 (F_is_from A)) : Dfn P w K mg base "is_fraction" (A "is_fraction") (fd "is_fraction") ["thing"] 3 (F_is_fraction A) :=
  fn_e T.u_is_fraction sc_is_fraction T.g_is_fraction (T.u_is_fraction.binds (ps := ["thing"]) fun _ _ _ _ _ _ us hl => match us, hl with | [_], _ => rfl) fun cdv AA outer s H E O =>
    (ess_cons (es_if (EW.et (ew_or (et_not (et_truth (ee_call O.toOkx d_is_long rfl (ea_cons (ee_var 0) (ea_cons ee_int ea_nil)) ))) (ew_or (et_not (et_truth (ee_call O.toOkx d_is_number rfl (ea_cons (ee_ix (ee_var 0) ee_int) ea_nil) ))) (ew_or1 (et_not (et_truth (ee_call O.toOkx d_is_from rfl (ea_cons (ee_ix (ee_var 0) ee_int) (ea_cons ee_int ea_nil)) ))))))) (ess_one (es_ret ee_bl)) ess_nil)
    (ess_one (es_ret (ee_cmp (od_eq O.toOkx.room.units) (ee_call O.toOkx d_divisor rfl (ea_cons (ee_var 0) ea_nil) ) ee_int (nomark _)))))
theorem sc_sure_fraction : FnScope ["one", "own"] ["one"] (defScope s_sure_fraction) := ⟨rfl, rfl, rfl, by decide +kernel, rfl, by decide +kernel, by decide +kernel⟩
theorem d_sure_fraction (T : Tx A fd K mg) (d_is_fraction : Dfn P w K mg base "is_fraction" (A "is_fraction") (fd "is_fraction") ["thing"] 3 (F_is_fraction A)) (d_tupled : Dfn P w K mg base "tupled" (A "tupled") (fd "tupled") ["value"] 4 (F_tupled A 4)) : Dfn P w K mg base "sure_fraction" (A "sure_fraction") (fd "sure_fraction") ["one"] 5 (F_sure_fraction A) :=
  fn_e T.u_sure_fraction sc_sure_fraction T.g_sure_fraction (T.u_sure_fraction.binds (ps := ["one"]) fun _ _ _ _ _ _ us hl => match us, hl with | [_], _ => rfl) fun cdv AA outer s H E O =>
    (ess_cons (es_set 1 O.toOkx.nd (ee_call O.toOkx d_tupled rfl (ea_cons (ee_var 0) ea_nil) ))
    (ess_cons (es_if (et_not (et_truth (ee_call O.toOkx d_is_fraction rfl (ea_cons (ee_var 1) ea_nil) ))) (ess_one (es_raise O.toOkx T.x_Unfit)) ess_nil)
    (ess_one (es_ret (ee_var 1)))))
theorem sc_made : FnScope ["above", "below", "by"] ["above", "below"] (defScope s_made) := ⟨rfl, rfl, rfl, by decide +kernel, rfl, by decide +kernel, by decide +kernel⟩
theorem d_made (T : Tx A fd K mg) (d_divisor : Dfn P w K mg base "divisor" (A "divisor") (fd "divisor") ["numbers"] 1 (F_divisor A)) : Dfn P w K mg base "made" (A "made") (fd "made") ["above", "below"] 2 (F_made A) :=
  fn_e T.u_made sc_made T.g_made (T.u_made.binds (ps := ["above", "below"]) fun _ _ _ _ _ _ us hl => match us, hl with | [_, _], _ => rfl) fun cdv AA outer s H E O =>
    (ess_cons (es_set 2 O.toOkx.nd (ee_call O.toOkx d_divisor rfl (ea_cons (ee_tup (ea_cons (ee_var 0) (ea_cons (ee_var 1) ea_nil))) ea_nil) ))
    (ess_one (es_ret (ee_if (et_cmp od_gt (ee_var 1) ee_int (nomark _)) (ee_tup (ea_cons (ee_op od_div (ee_var 0) (ee_var 2)) (ea_cons (ee_op od_div (ee_var 1) (ee_var 2)) ea_nil))) (ee_tup (ea_cons (ee_op od_div (ee_neg (ee_var 0)) (ee_var 2)) (ea_cons (ee_op od_div (ee_neg (ee_var 1)) (ee_var 2)) ea_nil)))))))
theorem sc_two : FnScope ["one", "other"] ["one", "other"] (defScope s_two) := ⟨rfl, rfl, rfl, by decide +kernel, rfl, by decide +kernel, by decide +kernel⟩
theorem d_two (T : Tx A fd K mg) (d_sure_fraction : Dfn P w K mg base "sure_fraction" (A "sure_fraction") (fd "sure_fraction") ["one"] 5 (F_sure_fraction A)) : Dfn P w K mg base "two" (A "two") (fd "two") ["one", "other"] 6 (F_two A) :=
  fn_e T.u_two sc_two T.g_two (T.u_two.binds (ps := ["one", "other"]) fun _ _ _ _ _ _ us hl => match us, hl with | [_, _], _ => rfl) fun cdv AA outer s H E O =>
    (ess_one (es_ret (ee_tup (ea_cons (ee_call O.toOkx d_sure_fraction rfl (ea_cons (ee_var 0) ea_nil) ) (ea_cons (ee_call O.toOkx d_sure_fraction rfl (ea_cons (ee_var 1) ea_nil) ) ea_nil)))))
theorem sc_added : FnScope ["one", "other", "a", "b", "c", "d"] ["one", "other"] (defScope s_added) := ⟨rfl, rfl, rfl, by decide +kernel, rfl, by decide +kernel, by decide +kernel⟩
theorem d_added (T : Tx A fd K mg) (d_made : Dfn P w K mg base "made" (A "made") (fd "made") ["above", "below"] 2 (F_made A)) (d_two : Dfn P w K mg base "two" (A "two") (fd "two") ["one", "other"] 6 (F_two A)) : Dfn P w K mg base "added" (A "added") (fd "added") ["one", "other"] 7 (F_added A) :=
  fn_e T.u_added sc_added T.g_added (T.u_added.binds (ps := ["one", "other"]) fun _ _ _ _ _ _ us hl => match us, hl with | [_, _], _ => rfl) fun cdv AA outer s H E O =>
    (ess_cons (es_nt (ee_call O.toOkx d_two rfl (ea_cons (ee_var 0) (ea_cons (ee_var 1) ea_nil)) ) (en_tup O.toOkx.calm (ens_cons (en_tup O.toOkx.calm (ens_cons (en_name 2 O.toOkx.nd) (ens_cons (en_name 3 O.toOkx.nd) ens_nil))) (ens_cons (en_tup O.toOkx.calm (ens_cons (en_name 4 O.toOkx.nd) (ens_cons (en_name 5 O.toOkx.nd) ens_nil))) ens_nil))))
    (ess_one (es_ret (ee_call O.toOkx d_made rfl (ea_cons (ee_op od_add (ee_op od_mul0 (ee_var 2) (ee_var 5)) (ee_op od_mul0 (ee_var 4) (ee_var 3))) (ea_cons (ee_op od_mul0 (ee_var 3) (ee_var 5)) ea_nil)) ))))
theorem sc_less : FnScope ["one", "other", "a", "b", "c", "d"] ["one", "other"] (defScope s_less) := ⟨rfl, rfl, rfl, by decide +kernel, rfl, by decide +kernel, by decide +kernel⟩
theorem d_less (T : Tx A fd K mg) (d_made : Dfn P w K mg base "made" (A "made") (fd "made") ["above", "below"] 2 (F_made A)) (d_two : Dfn P w K mg base "two" (A "two") (fd "two") ["one", "other"] 6 (F_two A)) : Dfn P w K mg base "less" (A "less") (fd "less") ["one", "other"] 7 (F_less A) :=
  fn_e T.u_less sc_less T.g_less (T.u_less.binds (ps := ["one", "other"]) fun _ _ _ _ _ _ us hl => match us, hl with | [_, _], _ => rfl) fun cdv AA outer s H E O =>
    (ess_cons (es_nt (ee_call O.toOkx d_two rfl (ea_cons (ee_var 0) (ea_cons (ee_var 1) ea_nil)) ) (en_tup O.toOkx.calm (ens_cons (en_tup O.toOkx.calm (ens_cons (en_name 2 O.toOkx.nd) (ens_cons (en_name 3 O.toOkx.nd) ens_nil))) (ens_cons (en_tup O.toOkx.calm (ens_cons (en_name 4 O.toOkx.nd) (ens_cons (en_name 5 O.toOkx.nd) ens_nil))) ens_nil))))
    (ess_one (es_ret (ee_call O.toOkx d_made rfl (ea_cons (ee_op od_sub (ee_op od_mul0 (ee_var 2) (ee_var 5)) (ee_op od_mul0 (ee_var 4) (ee_var 3))) (ea_cons (ee_op od_mul0 (ee_var 3) (ee_var 5)) ea_nil)) ))))
theorem sc_times : FnScope ["one", "other", "a", "b", "c", "d"] ["one", "other"] (defScope s_times) := ⟨rfl, rfl, rfl, by decide +kernel, rfl, by decide +kernel, by decide +kernel⟩
theorem d_times (T : Tx A fd K mg) (d_made : Dfn P w K mg base "made" (A "made") (fd "made") ["above", "below"] 2 (F_made A)) (d_two : Dfn P w K mg base "two" (A "two") (fd "two") ["one", "other"] 6 (F_two A)) : Dfn P w K mg base "times" (A "times") (fd "times") ["one", "other"] 7 (F_times A) :=
  fn_e T.u_times sc_times T.g_times (T.u_times.binds (ps := ["one", "other"]) fun _ _ _ _ _ _ us hl => match us, hl with | [_, _], _ => rfl) fun cdv AA outer s H E O =>
    (ess_cons (es_nt (ee_call O.toOkx d_two rfl (ea_cons (ee_var 0) (ea_cons (ee_var 1) ea_nil)) ) (en_tup O.toOkx.calm (ens_cons (en_tup O.toOkx.calm (ens_cons (en_name 2 O.toOkx.nd) (ens_cons (en_name 3 O.toOkx.nd) ens_nil))) (ens_cons (en_tup O.toOkx.calm (ens_cons (en_name 4 O.toOkx.nd) (ens_cons (en_name 5 O.toOkx.nd) ens_nil))) ens_nil))))
    (ess_one (es_ret (ee_call O.toOkx d_made rfl (ea_cons (ee_op od_mul0 (ee_var 2) (ee_var 4)) (ea_cons (ee_op od_mul0 (ee_var 3) (ee_var 5)) ea_nil)) ))))
theorem sc_compared : FnScope ["one", "other", "a", "b", "c", "d"] ["one", "other"] (defScope s_compared) := ⟨rfl, rfl, rfl, by decide +kernel, rfl, by decide +kernel, by decide +kernel⟩
theorem d_compared (T : Tx A fd K mg) (d_two : Dfn P w K mg base "two" (A "two") (fd "two") ["one", "other"] 6 (F_two A)) : Dfn P w K mg base "compared" (A "compared") (fd "compared") ["one", "other"] 7 (F_compared A) :=
  fn_e T.u_compared sc_compared T.g_compared (T.u_compared.binds (ps := ["one", "other"]) fun _ _ _ _ _ _ us hl => match us, hl with | [_, _], _ => rfl) fun cdv AA outer s H E O =>
    (ess_cons (es_nt (ee_call O.toOkx d_two rfl (ea_cons (ee_var 0) (ea_cons (ee_var 1) ea_nil)) ) (en_tup O.toOkx.calm (ens_cons (en_tup O.toOkx.calm (ens_cons (en_name 2 O.toOkx.nd) (ens_cons (en_name 3 O.toOkx.nd) ens_nil))) (ens_cons (en_tup O.toOkx.calm (ens_cons (en_name 4 O.toOkx.nd) (ens_cons (en_name 5 O.toOkx.nd) ens_nil))) ens_nil))))
    (ess_one (es_ret (ee_op od_sub (ee_callTy cd_int rfl T.n_int (by decide +kernel) (ea_cons (ee_cmp od_gt (ee_op od_mul0 (ee_var 2) (ee_var 5)) (ee_op od_mul0 (ee_var 4) (ee_var 3)) (nomark _)) ea_nil)) (ee_callTy cd_int rfl T.n_int (by decide +kernel) (ea_cons (ee_cmp od_lt (ee_op od_mul0 (ee_var 2) (ee_var 5)) (ee_op od_mul0 (ee_var 4) (ee_var 3)) (nomark _)) ea_nil))))))
theorem sc_is_point : FnScope ["thing"] ["thing"] (defScope s_is_point) := ⟨rfl, rfl, rfl, by decide +kernel, rfl, by decide +kernel, by decide +kernel⟩
theorem d_is_point (T : Tx A fd K mg) (d_is_row : Dfn P w K mg base "is_row" (A "is_row") (fd "is_row") ["thing", "length"] 2 (F_is_row A)) (d_is_from : Dfn P w K mg base "is_from" (A "is_from") (fd "is_from") ["thing", "least"] 2 (F_is_from A)) (d_divisor : Dfn P w K mg base "divisor" (A "divisor") (fd "divisor") ["numbers"] 1 (F_divisor A)) : Dfn P w K mg base "is_point" (A "is_point") (fd "is_point") ["thing"] 3 (F_is_point A) :=
  fn_e T.u_is_point sc_is_point T.g_is_point (T.u_is_point.binds (ps := ["thing"]) fun _ _ _ _ _ _ us hl => match us, hl with | [_], _ => rfl) fun cdv AA outer s H E O =>
    (ess_one (es_ret (ee_and (ee_call O.toOkx d_is_row rfl (ea_cons (ee_var 0) (ea_cons ee_int ea_nil)) ) (ee_and (ee_call O.toOkx d_is_from rfl (ea_cons (ee_ix (ee_var 0) ee_int) (ea_cons ee_int ea_nil)) ) (ee_one (ee_cmp (od_eq O.toOkx.room.units) (ee_call O.toOkx d_divisor rfl (ea_cons (ee_var 0) ea_nil) ) ee_int (nomark _)))))))
theorem sc_is_direction : FnScope ["thing"] ["thing"] (defScope s_is_direction) := ⟨rfl, rfl, rfl, by decide +kernel, rfl, by decide +kernel, by decide +kernel⟩
theorem d_is_direction (T : Tx A fd K mg) (d_is_row : Dfn P w K mg base "is_row" (A "is_row") (fd "is_row") ["thing", "length"] 2 (F_is_row A)) : Dfn P w K mg base "is_direction" (A "is_direction") (fd "is_direction") ["thing"] 3 (F_is_direction A) :=
  fn_e T.u_is_direction sc_is_direction T.g_is_direction (T.u_is_direction.binds (ps := ["thing"]) fun _ _ _ _ _ _ us hl => match us, hl with | [_], _ => rfl) fun cdv AA outer s H E O =>
    (ess_one (es_ret (ee_and (ee_call O.toOkx d_is_row rfl (ea_cons (ee_var 0) (ea_cons ee_int ea_nil)) ) (ee_one (ee_cmp (od_ne O.toOkx.room.units) (ee_var 0) (ee_tup (ea_cons ee_int (ea_cons ee_int (ea_cons ee_int ea_nil)))) (nomark _))))))
theorem sc_is_ray : FnScope ["thing"] ["thing"] (defScope s_is_ray) := ⟨rfl, rfl, rfl, by decide +kernel, rfl, by decide +kernel, by decide +kernel⟩
theorem d_is_ray (T : Tx A fd K mg) (d_is_long : Dfn P w K mg base "is_long" (A "is_long") (fd "is_long") ["thing", "length"] 1 (F_is_long A)) (d_is_point : Dfn P w K mg base "is_point" (A "is_point") (fd "is_point") ["thing"] 3 (F_is_point A)) (d_is_direction : Dfn P w K mg base "is_direction" (A "is_direction") (fd "is_direction") ["thing"] 3 (F_is_direction A)) : Dfn P w K mg base "is_ray" (A "is_ray") (fd "is_ray") ["thing"] 4 (F_is_ray A) :=
  fn_e T.u_is_ray sc_is_ray T.g_is_ray (T.u_is_ray.binds (ps := ["thing"]) fun _ _ _ _ _ _ us hl => match us, hl with | [_], _ => rfl) fun cdv AA outer s H E O =>
    (ess_one (es_ret (ee_and (ee_call O.toOkx d_is_long rfl (ea_cons (ee_var 0) (ea_cons ee_int ea_nil)) ) (ee_and (ee_call O.toOkx d_is_point rfl (ea_cons (ee_ix (ee_var 0) ee_int) ea_nil) ) (ee_one (ee_call O.toOkx d_is_direction rfl (ea_cons (ee_ix (ee_var 0) ee_int) ea_nil) ))))))
theorem sc_sure_point : FnScope ["point", "own"] ["point"] (defScope s_sure_point) := ⟨rfl, rfl, rfl, by decide +kernel, rfl, by decide +kernel, by decide +kernel⟩
theorem d_sure_point (T : Tx A fd K mg) (d_is_point : Dfn P w K mg base "is_point" (A "is_point") (fd "is_point") ["thing"] 3 (F_is_point A)) (d_tupled : Dfn P w K mg base "tupled" (A "tupled") (fd "tupled") ["value"] 4 (F_tupled A 4)) : Dfn P w K mg base "sure_point" (A "sure_point") (fd "sure_point") ["point"] 5 (F_sure_point A) :=
  fn_e T.u_sure_point sc_sure_point T.g_sure_point (T.u_sure_point.binds (ps := ["point"]) fun _ _ _ _ _ _ us hl => match us, hl with | [_], _ => rfl) fun cdv AA outer s H E O =>
    (ess_cons (es_set 1 O.toOkx.nd (ee_call O.toOkx d_tupled rfl (ea_cons (ee_var 0) ea_nil) ))
    (ess_cons (es_if (et_not (et_truth (ee_call O.toOkx d_is_point rfl (ea_cons (ee_var 1) ea_nil) ))) (ess_one (es_raise O.toOkx T.x_Unfit)) ess_nil)
    (ess_one (es_ret (ee_var 1)))))
theorem sc_sure_direction : FnScope ["direction", "own"] ["direction"] (defScope s_sure_direction) := ⟨rfl, rfl, rfl, by decide +kernel, rfl, by decide +kernel, by decide +kernel⟩
theorem d_sure_direction (T : Tx A fd K mg) (d_is_direction : Dfn P w K mg base "is_direction" (A "is_direction") (fd "is_direction") ["thing"] 3 (F_is_direction A)) (d_tupled : Dfn P w K mg base "tupled" (A "tupled") (fd "tupled") ["value"] 4 (F_tupled A 4)) : Dfn P w K mg base "sure_direction" (A "sure_direction") (fd "sure_direction") ["direction"] 5 (F_sure_direction A) :=
  fn_e T.u_sure_direction sc_sure_direction T.g_sure_direction (T.u_sure_direction.binds (ps := ["direction"]) fun _ _ _ _ _ _ us hl => match us, hl with | [_], _ => rfl) fun cdv AA outer s H E O =>
    (ess_cons (es_set 1 O.toOkx.nd (ee_call O.toOkx d_tupled rfl (ea_cons (ee_var 0) ea_nil) ))
    (ess_cons (es_if (et_not (et_truth (ee_call O.toOkx d_is_direction rfl (ea_cons (ee_var 1) ea_nil) ))) (ess_one (es_raise O.toOkx T.x_Unfit)) ess_nil)
    (ess_one (es_ret (ee_var 1)))))
theorem sc_sure_ray : FnScope ["ray", "own"] ["ray"] (defScope s_sure_ray) := ⟨rfl, rfl, rfl, by decide +kernel, rfl, by decide +kernel, by decide +kernel⟩
theorem d_sure_ray (T : Tx A fd K mg) (d_is_ray : Dfn P w K mg base "is_ray" (A "is_ray") (fd "is_ray") ["thing"] 4 (F_is_ray A)) (d_tupled : Dfn P w K mg base "tupled" (A "tupled") (fd "tupled") ["value"] 4 (F_tupled A 4)) : Dfn P w K mg base "sure_ray" (A "sure_ray") (fd "sure_ray") ["ray"] 5 (F_sure_ray A) :=
  fn_e T.u_sure_ray sc_sure_ray T.g_sure_ray (T.u_sure_ray.binds (ps := ["ray"]) fun _ _ _ _ _ _ us hl => match us, hl with | [_], _ => rfl) fun cdv AA outer s H E O =>
    (ess_cons (es_set 1 O.toOkx.nd (ee_call O.toOkx d_tupled rfl (ea_cons (ee_var 0) ea_nil) ))
    (ess_cons (es_if (et_not (et_truth (ee_call O.toOkx d_is_ray rfl (ea_cons (ee_var 1) ea_nil) ))) (ess_one (es_raise O.toOkx T.x_Unfit)) ess_nil)
    (ess_one (es_ret (ee_var 1)))))
theorem sc_parted : FnScope ["numbers", "by", "own"] ["numbers"] (defScope s_parted) := ⟨rfl, rfl, rfl, by decide +kernel, rfl, by decide +kernel, by decide +kernel⟩
theorem d_parted (T : Tx A fd K mg) (d_divisor : Dfn P w K mg base "divisor" (A "divisor") (fd "divisor") ["numbers"] 1 (F_divisor A)) : Dfn P w K mg base "parted" (A "parted") (fd "parted") ["numbers"] 2 (F_parted A) :=
  fn_e T.u_parted sc_parted T.g_parted (T.u_parted.binds (ps := ["numbers"]) fun _ _ _ _ _ _ us hl => match us, hl with | [_], _ => rfl) fun cdv AA outer s H E O =>
    (ess_cons (es_set 1 O.toOkx.nd (ee_call O.toOkx d_divisor rfl (ea_cons (ee_var 0) ea_nil) ))
    (ess_one (es_ret (ee_callTy cd_tuple rfl T.n_tuple (by decide +kernel) (ea_cons (ee_lc [("own", 2)] O.toOkx.calm O.toOkx.nd (ei_of (ee_var 0)) (by first | rfl | kernel_rfl) (fun s H C cl fp => (en_name 2 (okx_blk O.toOkx).nd)) (fun s H C cl fp => ets_nil) (fun s H C cl fp => (ee_op od_div (ee_var 2) (ee_var 1)))) ea_nil)))))
theorem sc_spot : FnScope ["numbers", "w"] ["numbers", "w"] (defScope s_spot) := ⟨rfl, rfl, rfl, by decide +kernel, rfl, by decide +kernel, by decide +kernel⟩
theorem d_spot (T : Tx A fd K mg) (d_parted : Dfn P w K mg base "parted" (A "parted") (fd "parted") ["numbers"] 2 (F_parted A)) : Dfn P w K mg base "spot" (A "spot") (fd "spot") ["numbers", "w"] 3 (F_spot A) :=
  fn_e T.u_spot sc_spot T.g_spot (T.u_spot.binds (ps := ["numbers", "w"]) fun _ _ _ _ _ _ us hl => match us, hl with | [_, _], _ => rfl) fun cdv AA outer s H E O =>
    (ess_one (es_ret (ee_call O.toOkx d_parted rfl (ea_cons (ee_tup (ea_star (ee_var 0) (ea_cons (ee_var 1) ea_nil))) ea_nil) )))
theorem sc_point : FnScope ["x", "y", "z", "a", "b", "c", "d", "e", "f"] ["x", "y", "z"] (defScope s_point) := ⟨rfl, rfl, rfl, by decide +kernel, rfl, by decide +kernel, by decide +kernel⟩
theorem d_point (T : Tx A fd K mg) (d_spot : Dfn P w K mg base "spot" (A "spot") (fd "spot") ["numbers", "w"] 3 (F_spot A)) (d_sure_fraction : Dfn P w K mg base "sure_fraction" (A "sure_fraction") (fd "sure_fraction") ["one"] 5 (F_sure_fraction A)) : Dfn P w K mg base "point" (A "point") (fd "point") ["x", "y", "z"] 6 (F_point A) :=
  fn_e T.u_point sc_point T.g_point (T.u_point.binds (ps := ["x", "y", "z"]) fun _ _ _ _ _ _ us hl => match us, hl with | [_, _, _], _ => rfl) fun cdv AA outer s H E O =>
    (ess_cons (es_nt (ee_tup (ea_cons (ee_call O.toOkx d_sure_fraction rfl (ea_cons (ee_var 0) ea_nil) ) (ea_cons (ee_call O.toOkx d_sure_fraction rfl (ea_cons (ee_var 1) ea_nil) ) (ea_cons (ee_call O.toOkx d_sure_fraction rfl (ea_cons (ee_var 2) ea_nil) ) ea_nil)))) (en_tup O.toOkx.calm (ens_cons (en_tup O.toOkx.calm (ens_cons (en_name 3 O.toOkx.nd) (ens_cons (en_name 4 O.toOkx.nd) ens_nil))) (ens_cons (en_tup O.toOkx.calm (ens_cons (en_name 5 O.toOkx.nd) (ens_cons (en_name 6 O.toOkx.nd) ens_nil))) (ens_cons (en_tup O.toOkx.calm (ens_cons (en_name 7 O.toOkx.nd) (ens_cons (en_name 8 O.toOkx.nd) ens_nil))) ens_nil)))))
    (ess_one (es_ret (ee_call O.toOkx d_spot rfl (ea_cons (ee_tup (ea_cons (ee_op od_mul0 (ee_op od_mul0 (ee_var 3) (ee_var 6)) (ee_var 8)) (ea_cons (ee_op od_mul0 (ee_op od_mul0 (ee_var 5) (ee_var 4)) (ee_var 8)) (ea_cons (ee_op od_mul0 (ee_op od_mul0 (ee_var 7) (ee_var 4)) (ee_var 6)) ea_nil)))) (ea_cons (ee_op od_mul0 (ee_op od_mul0 (ee_var 4) (ee_var 6)) (ee_var 8)) ea_nil)) ))))
theorem sc_place : FnScope ["point", "own", "number"] ["point"] (defScope s_place) := ⟨rfl, rfl, rfl, by decide +kernel, rfl, by decide +kernel, by decide +kernel⟩
theorem d_place (T : Tx A fd K mg) (d_made : Dfn P w K mg base "made" (A "made") (fd "made") ["above", "below"] 2 (F_made A)) (d_sure_point : Dfn P w K mg base "sure_point" (A "sure_point") (fd "sure_point") ["point"] 5 (F_sure_point A)) : Dfn P w K mg base "place" (A "place") (fd "place") ["point"] 6 (F_place A) :=
  fn_e T.u_place sc_place T.g_place (T.u_place.binds (ps := ["point"]) fun _ _ _ _ _ _ us hl => match us, hl with | [_], _ => rfl) fun cdv AA outer s H E O =>
    (ess_cons (es_set 1 O.toOkx.nd (ee_call O.toOkx d_sure_point rfl (ea_cons (ee_var 0) ea_nil) ))
    (ess_one (es_ret (ee_callTy cd_tuple rfl T.n_tuple (by decide +kernel) (ea_cons (ee_lc [("number", 2)] O.toOkx.calm O.toOkx.nd (ei_of (ee_sl (ee_var 1) eo_none (eo_some ee_int))) (by first | rfl | kernel_rfl) (fun s H C cl fp => (en_name 2 (okx_blk O.toOkx).nd)) (fun s H C cl fp => ets_nil) (fun s H C cl fp => (ee_call (okx_blk O.toOkx) d_made rfl (ea_cons (ee_var 2) (ea_cons (ee_ix (ee_var 1) ee_int) ea_nil)) ))) ea_nil)))))
theorem sc_cross : FnScope ["near", "far", "a", "b", "c", "d", "e", "f"] ["near", "far"] (defScope s_cross) := ⟨rfl, rfl, rfl, by decide +kernel, rfl, by decide +kernel, by decide +kernel⟩
theorem d_cross (T : Tx A fd K mg)  : Dfn P w K mg base "cross" (A "cross") (fd "cross") ["near", "far"] 1 (F_cross A) :=
  fn_e T.u_cross sc_cross T.g_cross (T.u_cross.binds (ps := ["near", "far"]) fun _ _ _ _ _ _ us hl => match us, hl with | [_, _], _ => rfl) fun cdv AA outer s H E O =>
    (ess_cons (es_nt (ee_tup (ea_cons (ee_var 0) (ea_cons (ee_var 1) ea_nil))) (en_tup O.toOkx.calm (ens_cons (en_tup O.toOkx.calm (ens_cons (en_name 2 O.toOkx.nd) (ens_cons (en_name 3 O.toOkx.nd) (ens_cons (en_name 4 O.toOkx.nd) ens_nil)))) (ens_cons (en_tup O.toOkx.calm (ens_cons (en_name 5 O.toOkx.nd) (ens_cons (en_name 6 O.toOkx.nd) (ens_cons (en_name 7 O.toOkx.nd) ens_nil)))) ens_nil))))
    (ess_one (es_ret (ee_tup (ea_cons (ee_op od_sub (ee_op od_mul0 (ee_var 3) (ee_var 7)) (ee_op od_mul0 (ee_var 4) (ee_var 6))) (ea_cons (ee_op od_sub (ee_op od_mul0 (ee_var 4) (ee_var 5)) (ee_op od_mul0 (ee_var 2) (ee_var 7))) (ea_cons (ee_op od_sub (ee_op od_mul0 (ee_var 2) (ee_var 6)) (ee_op od_mul0 (ee_var 3) (ee_var 5))) ea_nil)))))))
theorem sc_dot : FnScope ["near", "far"] ["near", "far"] (defScope s_dot) := ⟨rfl, rfl, rfl, by decide +kernel, rfl, by decide +kernel, by decide +kernel⟩
theorem d_dot (T : Tx A fd K mg)  : Dfn P w K mg base "dot" (A "dot") (fd "dot") ["near", "far"] 1 (F_dot A) :=
  fn_e T.u_dot sc_dot T.g_dot (T.u_dot.binds (ps := ["near", "far"]) fun _ _ _ _ _ _ us hl => match us, hl with | [_, _], _ => rfl) fun cdv AA outer s H E O =>
    (ess_one (es_ret (ee_op od_add (ee_op od_add (ee_op od_mul0 (ee_ix (ee_var 0) ee_int) (ee_ix (ee_var 1) ee_int)) (ee_op od_mul0 (ee_ix (ee_var 0) ee_int) (ee_ix (ee_var 1) ee_int))) (ee_op od_mul0 (ee_ix (ee_var 0) ee_int) (ee_ix (ee_var 1) ee_int)))))
theorem sc_least_direction : FnScope ["direction"] ["direction"] (defScope s_least_direction) := ⟨rfl, rfl, rfl, by decide +kernel, rfl, by decide +kernel, by decide +kernel⟩
theorem d_least_direction (T : Tx A fd K mg) (d_parted : Dfn P w K mg base "parted" (A "parted") (fd "parted") ["numbers"] 2 (F_parted A)) (d_sure_direction : Dfn P w K mg base "sure_direction" (A "sure_direction") (fd "sure_direction") ["direction"] 5 (F_sure_direction A)) : Dfn P w K mg base "least_direction" (A "least_direction") (fd "least_direction") ["direction"] 6 (F_least_direction A) :=
  fn_e T.u_least_direction sc_least_direction T.g_least_direction (T.u_least_direction.binds (ps := ["direction"]) fun _ _ _ _ _ _ us hl => match us, hl with | [_], _ => rfl) fun cdv AA outer s H E O =>
    (ess_one (es_ret (ee_call O.toOkx d_parted rfl (ea_cons (ee_call O.toOkx d_sure_direction rfl (ea_cons (ee_var 0) ea_nil) ) ea_nil) )))
theorem sc_way_between : FnScope ["one", "other", "near", "far"] ["one", "other"] (defScope s_way_between) := ⟨rfl, rfl, rfl, by decide +kernel, rfl, by decide +kernel, by decide +kernel⟩
theorem d_way_between (T : Tx A fd K mg)  : Dfn P w K mg base "way_between" (A "way_between") (fd "way_between") ["one", "other"] 1 (F_way_between A) :=
  fn_e T.u_way_between sc_way_between T.g_way_between (T.u_way_between.binds (ps := ["one", "other"]) fun _ _ _ _ _ _ us hl => match us, hl with | [_, _], _ => rfl) fun cdv AA outer s H E O =>
    (ess_one (es_ret (ee_callTy cd_tuple rfl T.n_tuple (by decide +kernel) (ea_cons (ee_lc [("near", 2), ("far", 3)] O.toOkx.calm O.toOkx.nd (ei_zip rfl T.n_zip (ea_cons (ee_sl (ee_var 0) eo_none (eo_some ee_int)) (ea_cons (ee_sl (ee_var 1) eo_none (eo_some ee_int)) ea_nil))) (by first | rfl | kernel_rfl) (fun s H C cl fp => (en_tup (okx_blk O.toOkx).calm (ens_cons (en_name 2 (okx_blk O.toOkx).nd) (ens_cons (en_name 3 (okx_blk O.toOkx).nd) ens_nil)))) (fun s H C cl fp => ets_nil) (fun s H C cl fp => (ee_op od_sub (ee_op od_mul0 (ee_var 3) (ee_ix (ee_var 0) ee_int)) (ee_op od_mul0 (ee_var 2) (ee_ix (ee_var 1) ee_int))))) ea_nil))))
theorem sc_direction_between : FnScope ["one", "other", "near", "far"] ["one", "other"] (defScope s_direction_between) := ⟨rfl, rfl, rfl, by decide +kernel, rfl, by decide +kernel, by decide +kernel⟩
theorem d_direction_between (T : Tx A fd K mg) (d_parted : Dfn P w K mg base "parted" (A "parted") (fd "parted") ["numbers"] 2 (F_parted A)) (d_way_between : Dfn P w K mg base "way_between" (A "way_between") (fd "way_between") ["one", "other"] 1 (F_way_between A)) (d_sure_point : Dfn P w K mg base "sure_point" (A "sure_point") (fd "sure_point") ["point"] 5 (F_sure_point A)) : Dfn P w K mg base "direction_between" (A "direction_between") (fd "direction_between") ["one", "other"] 6 (F_direction_between A) :=
  fn_e T.u_direction_between sc_direction_between T.g_direction_between (T.u_direction_between.binds (ps := ["one", "other"]) fun _ _ _ _ _ _ us hl => match us, hl with | [_, _], _ => rfl) fun cdv AA outer s H E O =>
    (ess_cons (es_par 2 3 O.toOkx.calm O.toOkx.nd (ea_cons (ee_call O.toOkx d_sure_point rfl (ea_cons (ee_var 0) ea_nil) ) (ea_cons (ee_call O.toOkx d_sure_point rfl (ea_cons (ee_var 1) ea_nil) ) ea_nil)))
    (ess_cons (es_if (et_cmp (od_eq O.toOkx.room.units) (ee_var 2) (ee_var 3) (nomark _)) (ess_one (es_raise O.toOkx T.x_Flat)) ess_nil)
    (ess_one (es_ret (ee_call O.toOkx d_parted rfl (ea_cons (ee_call O.toOkx d_way_between rfl (ea_cons (ee_var 2) (ea_cons (ee_var 3) ea_nil)) ) ea_nil) )))))
theorem sc_moved_by : FnScope ["point", "way", "own", "told", "a", "b", "c", "d", "e", "f", "by", "gone", "one", "number", "more"] ["point", "way"] (defScope s_moved_by) := ⟨rfl, rfl, rfl, by decide +kernel, rfl, by decide +kernel, by decide +kernel⟩
theorem d_moved_by (T : Tx A fd K mg) (d_spot : Dfn P w K mg base "spot" (A "spot") (fd "spot") ["numbers", "w"] 3 (F_spot A)) (d_sure_fraction : Dfn P w K mg base "sure_fraction" (A "sure_fraction") (fd "sure_fraction") ["one"] 5 (F_sure_fraction A)) (d_is_long : Dfn P w K mg base "is_long" (A "is_long") (fd "is_long") ["thing", "length"] 1 (F_is_long A)) (d_tupled : Dfn P w K mg base "tupled" (A "tupled") (fd "tupled") ["value"] 4 (F_tupled A 4)) (d_sure_point : Dfn P w K mg base "sure_point" (A "sure_point") (fd "sure_point") ["point"] 5 (F_sure_point A)) : Dfn P w K mg base "moved_by" (A "moved_by") (fd "moved_by") ["point", "way"] 6 (F_moved_by A) :=
  fn_e T.u_moved_by sc_moved_by T.g_moved_by (T.u_moved_by.binds (ps := ["point", "way"]) fun _ _ _ _ _ _ us hl => match us, hl with | [_, _], _ => rfl) fun cdv AA outer s H E O =>
    (ess_cons (es_nt (ee_tup (ea_cons (ee_call O.toOkx d_sure_point rfl (ea_cons (ee_var 0) ea_nil) ) (ea_cons (ee_call O.toOkx d_tupled rfl (ea_cons (ee_var 1) ea_nil) ) ea_nil))) (en_tup O.toOkx.calm (ens_cons (en_name 2 O.toOkx.nd) (ens_cons (en_name 3 O.toOkx.nd) ens_nil))))
    (ess_cons (es_if (et_not (et_truth (ee_call O.toOkx d_is_long rfl (ea_cons (ee_var 3) (ea_cons ee_int ea_nil)) ))) (ess_one (es_raise O.toOkx T.x_Unfit)) ess_nil)
    (ess_cons (es_unl O.toOkx.calm (ee_lc [("one", 12)] O.toOkx.calm O.toOkx.nd (ei_of (ee_var 3)) (by first | rfl | kernel_rfl) (fun s H C cl fp => (en_name 12 (okx_blk O.toOkx).nd)) (fun s H C cl fp => ets_nil) (fun s H C cl fp => (ee_call (okx_blk O.toOkx) d_sure_fraction rfl (ea_cons (ee_var 12) ea_nil) ))) (ens_cons (en_tup O.toOkx.calm (ens_cons (en_name 4 O.toOkx.nd) (ens_cons (en_name 5 O.toOkx.nd) ens_nil))) (ens_cons (en_tup O.toOkx.calm (ens_cons (en_name 6 O.toOkx.nd) (ens_cons (en_name 7 O.toOkx.nd) ens_nil))) (ens_cons (en_tup O.toOkx.calm (ens_cons (en_name 8 O.toOkx.nd) (ens_cons (en_name 9 O.toOkx.nd) ens_nil))) ens_nil))))
    (ess_cons (es_set 10 O.toOkx.nd (ee_op od_mul0 (ee_op od_mul0 (ee_var 5) (ee_var 7)) (ee_var 9)))
    (ess_cons (es_set 11 O.toOkx.nd (ee_tup (ea_cons (ee_op od_mul0 (ee_op od_mul0 (ee_var 4) (ee_var 7)) (ee_var 9)) (ea_cons (ee_op od_mul0 (ee_op od_mul0 (ee_var 6) (ee_var 5)) (ee_var 9)) (ea_cons (ee_op od_mul0 (ee_op od_mul0 (ee_var 8) (ee_var 5)) (ee_var 7)) ea_nil)))))
    (ess_one (es_ret (ee_call O.toOkx d_spot rfl (ea_cons (ee_lc [("number", 13), ("more", 14)] O.toOkx.calm O.toOkx.nd (ei_zip rfl T.n_zip (ea_cons (ee_sl (ee_var 2) eo_none (eo_some ee_int)) (ea_cons (ee_var 11) ea_nil))) (by first | rfl | kernel_rfl) (fun s H C cl fp => (en_tup (okx_blk O.toOkx).calm (ens_cons (en_name 13 (okx_blk O.toOkx).nd) (ens_cons (en_name 14 (okx_blk O.toOkx).nd) ens_nil)))) (fun s H C cl fp => ets_nil) (fun s H C cl fp => (ee_op od_add (ee_op od_mul0 (ee_var 13) (ee_var 10)) (ee_op od_mul0 (ee_var 14) (ee_ix (ee_var 2) ee_int))))) (ea_cons (ee_op od_mul0 (ee_ix (ee_var 2) ee_int) (ee_var 10)) ea_nil)) ))))))))
theorem sc_half_way : FnScope ["one", "other", "near", "far", "both", "a", "b"] ["one", "other"] (defScope s_half_way) := ⟨rfl, rfl, rfl, by decide +kernel, rfl, by decide +kernel, by decide +kernel⟩
theorem d_half_way (T : Tx A fd K mg) (d_spot : Dfn P w K mg base "spot" (A "spot") (fd "spot") ["numbers", "w"] 3 (F_spot A)) (d_sure_point : Dfn P w K mg base "sure_point" (A "sure_point") (fd "sure_point") ["point"] 5 (F_sure_point A)) : Dfn P w K mg base "half_way" (A "half_way") (fd "half_way") ["one", "other"] 6 (F_half_way A) :=
  fn_e T.u_half_way sc_half_way T.g_half_way (T.u_half_way.binds (ps := ["one", "other"]) fun _ _ _ _ _ _ us hl => match us, hl with | [_, _], _ => rfl) fun cdv AA outer s H E O =>
    (ess_cons (es_nt (ee_tup (ea_cons (ee_call O.toOkx d_sure_point rfl (ea_cons (ee_var 0) ea_nil) ) (ea_cons (ee_call O.toOkx d_sure_point rfl (ea_cons (ee_var 1) ea_nil) ) ea_nil))) (en_tup O.toOkx.calm (ens_cons (en_name 2 O.toOkx.nd) (ens_cons (en_name 3 O.toOkx.nd) ens_nil))))
    (ess_cons (es_setLc [("a", 5), ("b", 6)] 4 O.toOkx.calm O.toOkx.nd (ei_zip rfl T.n_zip (ea_cons (ee_sl (ee_var 2) eo_none (eo_some ee_int)) (ea_cons (ee_sl (ee_var 3) eo_none (eo_some ee_int)) ea_nil))) (by first | rfl | kernel_rfl) (fun s H C cl fp => (en_tup (okx_blk O.toOkx).calm (ens_cons (en_name 5 (okx_blk O.toOkx).nd) (ens_cons (en_name 6 (okx_blk O.toOkx).nd) ens_nil)))) (fun s H C cl fp => ets_nil) (fun s H C cl fp => (ee_op od_add (ee_op od_mul0 (ee_var 5) (ee_ix (ee_var 3) ee_int)) (ee_op od_mul0 (ee_var 6) (ee_ix (ee_var 2) ee_int)))))
    (ess_one (es_ret (ee_call O.toOkx d_spot rfl (ea_cons (ee_var 4) (ea_cons (ee_op od_mul0 (ee_op od_mul0 ee_int (ee_ix (ee_var 2) ee_int)) (ee_ix (ee_var 3) ee_int)) ea_nil)) )))))
theorem sc_square_between : FnScope ["one", "other", "near", "far", "way"] ["one", "other"] (defScope s_square_between) := ⟨rfl, rfl, rfl, by decide +kernel, rfl, by decide +kernel, by decide +kernel⟩
theorem d_square_between (T : Tx A fd K mg) (d_made : Dfn P w K mg base "made" (A "made") (fd "made") ["above", "below"] 2 (F_made A)) (d_dot : Dfn P w K mg base "dot" (A "dot") (fd "dot") ["near", "far"] 1 (F_dot A)) (d_way_between : Dfn P w K mg base "way_between" (A "way_between") (fd "way_between") ["one", "other"] 1 (F_way_between A)) (d_sure_point : Dfn P w K mg base "sure_point" (A "sure_point") (fd "sure_point") ["point"] 5 (F_sure_point A)) : Dfn P w K mg base "square_between" (A "square_between") (fd "square_between") ["one", "other"] 6 (F_square_between A) :=
  fn_e T.u_square_between sc_square_between T.g_square_between (T.u_square_between.binds (ps := ["one", "other"]) fun _ _ _ _ _ _ us hl => match us, hl with | [_, _], _ => rfl) fun cdv AA outer s H E O =>
    (ess_cons (es_par 2 3 O.toOkx.calm O.toOkx.nd (ea_cons (ee_call O.toOkx d_sure_point rfl (ea_cons (ee_var 0) ea_nil) ) (ea_cons (ee_call O.toOkx d_sure_point rfl (ea_cons (ee_var 1) ea_nil) ) ea_nil)))
    (ess_cons (es_set 4 O.toOkx.nd (ee_call O.toOkx d_way_between rfl (ea_cons (ee_var 2) (ea_cons (ee_var 3) ea_nil)) ))
    (ess_one (es_ret (ee_call O.toOkx d_made rfl (ea_cons (ee_call O.toOkx d_dot rfl (ea_cons (ee_var 4) (ea_cons (ee_var 4) ea_nil)) ) (ea_cons (ee_op od_pow (ee_op od_mul0 (ee_ix (ee_var 2) ee_int) (ee_ix (ee_var 3) ee_int)) ee_int) ea_nil)) )))))
theorem sc_place_at : FnScope ["ray", "t", "own", "way", "above", "below", "gone", "number", "step"] ["ray", "t"] (defScope s_place_at) := ⟨rfl, rfl, rfl, by decide +kernel, rfl, by decide +kernel, by decide +kernel⟩
theorem d_place_at (T : Tx A fd K mg) (d_spot : Dfn P w K mg base "spot" (A "spot") (fd "spot") ["numbers", "w"] 3 (F_spot A)) (d_sure_fraction : Dfn P w K mg base "sure_fraction" (A "sure_fraction") (fd "sure_fraction") ["one"] 5 (F_sure_fraction A)) (d_sure_ray : Dfn P w K mg base "sure_ray" (A "sure_ray") (fd "sure_ray") ["ray"] 5 (F_sure_ray A)) : Dfn P w K mg base "place_at" (A "place_at") (fd "place_at") ["ray", "t"] 6 (F_place_at A) :=
  fn_e T.u_place_at sc_place_at T.g_place_at (T.u_place_at.binds (ps := ["ray", "t"]) fun _ _ _ _ _ _ us hl => match us, hl with | [_, _], _ => rfl) fun cdv AA outer s H E O =>
    (ess_cons (es_nt (ee_call O.toOkx d_sure_ray rfl (ea_cons (ee_var 0) ea_nil) ) (en_tup O.toOkx.calm (ens_cons (en_name 2 O.toOkx.nd) (ens_cons (en_name 3 O.toOkx.nd) ens_nil))))
    (ess_cons (es_nt (ee_call O.toOkx d_sure_fraction rfl (ea_cons (ee_var 1) ea_nil) ) (en_tup O.toOkx.calm (ens_cons (en_name 4 O.toOkx.nd) (ens_cons (en_name 5 O.toOkx.nd) ens_nil))))
    (ess_cons (es_setLc [("number", 7), ("step", 8)] 6 O.toOkx.calm O.toOkx.nd (ei_zip rfl T.n_zip (ea_cons (ee_sl (ee_var 2) eo_none (eo_some ee_int)) (ea_cons (ee_var 3) ea_nil))) (by first | rfl | kernel_rfl) (fun s H C cl fp => (en_tup (okx_blk O.toOkx).calm (ens_cons (en_name 7 (okx_blk O.toOkx).nd) (ens_cons (en_name 8 (okx_blk O.toOkx).nd) ens_nil)))) (fun s H C cl fp => ets_nil) (fun s H C cl fp => (ee_op od_add (ee_op od_mul0 (ee_var 7) (ee_var 5)) (ee_op od_mul0 (ee_op od_mul0 (ee_var 8) (ee_ix (ee_var 2) ee_int)) (ee_var 4)))))
    (ess_one (es_ret (ee_call O.toOkx d_spot rfl (ea_cons (ee_var 6) (ea_cons (ee_op od_mul0 (ee_ix (ee_var 2) ee_int) (ee_var 5)) ea_nil)) ))))))
theorem sc_time_of : FnScope ["ray", "point", "start", "way", "end", "gone", "own", "k"] ["ray", "point"] (defScope s_time_of) := ⟨rfl, rfl, rfl, by decide +kernel, rfl, by decide +kernel, by decide +kernel⟩
theorem d_time_of (T : Tx A fd K mg) (d_made : Dfn P w K mg base "made" (A "made") (fd "made") ["above", "below"] 2 (F_made A)) (d_cross : Dfn P w K mg base "cross" (A "cross") (fd "cross") ["near", "far"] 1 (F_cross A)) (d_way_between : Dfn P w K mg base "way_between" (A "way_between") (fd "way_between") ["one", "other"] 1 (F_way_between A)) (d_sure_point : Dfn P w K mg base "sure_point" (A "sure_point") (fd "sure_point") ["point"] 5 (F_sure_point A)) (d_sure_ray : Dfn P w K mg base "sure_ray" (A "sure_ray") (fd "sure_ray") ["ray"] 5 (F_sure_ray A)) : Dfn P w K mg base "time_of" (A "time_of") (fd "time_of") ["ray", "point"] 6 (F_time_of A) :=
  fn_e T.u_time_of sc_time_of T.g_time_of (T.u_time_of.binds (ps := ["ray", "point"]) fun _ _ _ _ _ _ us hl => match us, hl with | [_, _], _ => rfl) fun cdv AA outer s H E O =>
    (ess_cons (es_nt (ee_call O.toOkx d_sure_ray rfl (ea_cons (ee_var 0) ea_nil) ) (en_tup O.toOkx.calm (ens_cons (en_name 2 O.toOkx.nd) (ens_cons (en_name 3 O.toOkx.nd) ens_nil))))
    (ess_cons (es_set 4 O.toOkx.nd (ee_call O.toOkx d_sure_point rfl (ea_cons (ee_var 1) ea_nil) ))
    (ess_cons (es_set 5 O.toOkx.nd (ee_call O.toOkx d_way_between rfl (ea_cons (ee_var 2) (ea_cons (ee_var 4) ea_nil)) ))
    (ess_cons (es_if (et_cmp (od_ne O.toOkx.room.units) (ee_call O.toOkx d_cross rfl (ea_cons (ee_var 5) (ea_cons (ee_var 3) ea_nil)) ) (ee_tup (ea_cons ee_int (ea_cons ee_int (ea_cons ee_int ea_nil)))) (nomark _)) (ess_one (es_raise O.toOkx T.x_CanNot)) ess_nil)
    (ess_cons (es_set 6 O.toOkx.nd (ee_ix (ee_lc [("k", 7)] O.toOkx.calm O.toOkx.nd (ei_range1 rfl T.n_range (ea_cons ee_int ea_nil)) (by first | rfl | kernel_rfl) (fun s H C cl fp => (en_name 7 (okx_blk O.toOkx).nd)) (fun s H C cl fp => (ets_one (et_cmp (od_ne (okx_blk O.toOkx).room.units) (ee_ix (ee_var 3) (ee_var 7)) ee_int (nomark _)))) (fun s H C cl fp => (ee_var 7))) ee_int))
    (ess_one (es_ret (ee_call O.toOkx d_made rfl (ea_cons (ee_ix (ee_var 5) (ee_var 6)) (ea_cons (ee_op od_mul0 (ee_op od_mul0 (ee_ix (ee_var 2) ee_int) (ee_ix (ee_var 4) ee_int)) (ee_ix (ee_var 3) (ee_var 6))) ea_nil)) ))))))))
theorem sc_upright : FnScope ["one", "other", "third"] ["one", "other", "third"] (defScope s_upright) := ⟨rfl, rfl, rfl, by decide +kernel, rfl, by decide +kernel, by decide +kernel⟩
theorem d_upright (T : Tx A fd K mg) (d_cross : Dfn P w K mg base "cross" (A "cross") (fd "cross") ["near", "far"] 1 (F_cross A)) (d_way_between : Dfn P w K mg base "way_between" (A "way_between") (fd "way_between") ["one", "other"] 1 (F_way_between A)) : Dfn P w K mg base "upright" (A "upright") (fd "upright") ["one", "other", "third"] 2 (F_upright A) :=
  fn_e T.u_upright sc_upright T.g_upright (T.u_upright.binds (ps := ["one", "other", "third"]) fun _ _ _ _ _ _ us hl => match us, hl with | [_, _, _], _ => rfl) fun cdv AA outer s H E O =>
    (ess_one (es_ret (ee_call O.toOkx d_cross rfl (ea_cons (ee_call O.toOkx d_way_between rfl (ea_cons (ee_var 0) (ea_cons (ee_var 1) ea_nil)) ) (ea_cons (ee_call O.toOkx d_way_between rfl (ea_cons (ee_var 0) (ea_cons (ee_var 2) ea_nil)) ) ea_nil)) )))
theorem sc_on_one_line : FnScope ["one", "other", "third", "near", "far", "last"] ["one", "other", "third"] (defScope s_on_one_line) := ⟨rfl, rfl, rfl, by decide +kernel, rfl, by decide +kernel, by decide +kernel⟩
theorem d_on_one_line (T : Tx A fd K mg) (d_upright : Dfn P w K mg base "upright" (A "upright") (fd "upright") ["one", "other", "third"] 2 (F_upright A)) (d_sure_point : Dfn P w K mg base "sure_point" (A "sure_point") (fd "sure_point") ["point"] 5 (F_sure_point A)) : Dfn P w K mg base "on_one_line" (A "on_one_line") (fd "on_one_line") ["one", "other", "third"] 6 (F_on_one_line A) :=
  fn_e T.u_on_one_line sc_on_one_line T.g_on_one_line (T.u_on_one_line.binds (ps := ["one", "other", "third"]) fun _ _ _ _ _ _ us hl => match us, hl with | [_, _, _], _ => rfl) fun cdv AA outer s H E O =>
    (ess_cons (es_par3 3 4 5 O.toOkx.calm O.toOkx.nd (ea_cons (ee_call O.toOkx d_sure_point rfl (ea_cons (ee_var 0) ea_nil) ) (ea_cons (ee_call O.toOkx d_sure_point rfl (ea_cons (ee_var 1) ea_nil) ) (ea_cons (ee_call O.toOkx d_sure_point rfl (ea_cons (ee_var 2) ea_nil) ) ea_nil))))
    (ess_one (es_ret (ee_cmp (od_eq O.toOkx.room.units) (ee_call O.toOkx d_upright rfl (ea_cons (ee_var 3) (ea_cons (ee_var 4) (ea_cons (ee_var 5) ea_nil))) ) (ee_tup (ea_cons ee_int (ea_cons ee_int (ea_cons ee_int ea_nil)))) (nomark _)))))
theorem sc_plane_through : FnScope ["one", "other", "third", "near", "far", "last", "up", "number"] ["one", "other", "third"] (defScope s_plane_through) := ⟨rfl, rfl, rfl, by decide +kernel, rfl, by decide +kernel, by decide +kernel⟩
theorem d_plane_through (T : Tx A fd K mg) (d_parted : Dfn P w K mg base "parted" (A "parted") (fd "parted") ["numbers"] 2 (F_parted A)) (d_dot : Dfn P w K mg base "dot" (A "dot") (fd "dot") ["near", "far"] 1 (F_dot A)) (d_upright : Dfn P w K mg base "upright" (A "upright") (fd "upright") ["one", "other", "third"] 2 (F_upright A)) (d_sure_point : Dfn P w K mg base "sure_point" (A "sure_point") (fd "sure_point") ["point"] 5 (F_sure_point A)) : Dfn P w K mg base "plane_through" (A "plane_through") (fd "plane_through") ["one", "other", "third"] 6 (F_plane_through A) :=
  fn_e T.u_plane_through sc_plane_through T.g_plane_through (T.u_plane_through.binds (ps := ["one", "other", "third"]) fun _ _ _ _ _ _ us hl => match us, hl with | [_, _, _], _ => rfl) fun cdv AA outer s H E O =>
    (ess_cons (es_nt (ee_tup (ea_cons (ee_call O.toOkx d_sure_point rfl (ea_cons (ee_var 0) ea_nil) ) (ea_cons (ee_call O.toOkx d_sure_point rfl (ea_cons (ee_var 1) ea_nil) ) (ea_cons (ee_call O.toOkx d_sure_point rfl (ea_cons (ee_var 2) ea_nil) ) ea_nil)))) (en_tup O.toOkx.calm (ens_cons (en_name 3 O.toOkx.nd) (ens_cons (en_name 4 O.toOkx.nd) (ens_cons (en_name 5 O.toOkx.nd) ens_nil)))))
    (ess_cons (es_set 6 O.toOkx.nd (ee_call O.toOkx d_upright rfl (ea_cons (ee_var 3) (ea_cons (ee_var 4) (ea_cons (ee_var 5) ea_nil))) ))
    (ess_cons (es_if (et_cmp (od_eq O.toOkx.room.units) (ee_var 6) (ee_tup (ea_cons ee_int (ea_cons ee_int (ea_cons ee_int ea_nil)))) (nomark _)) (ess_one (es_raise O.toOkx T.x_Flat)) ess_nil)
    (ess_one (es_ret (ee_call O.toOkx d_parted rfl (ea_cons (ee_tup (ea_star (ee_lc [("number", 7)] O.toOkx.calm O.toOkx.nd (ei_of (ee_var 6)) (by first | rfl | kernel_rfl) (fun s H C cl fp => (en_name 7 (okx_blk O.toOkx).nd)) (fun s H C cl fp => ets_nil) (fun s H C cl fp => (ee_op od_mul0 (ee_var 7) (ee_ix (ee_var 3) ee_int)))) (ea_cons (ee_call O.toOkx d_dot rfl (ea_cons (ee_var 6) (ea_cons (ee_sl (ee_var 3) eo_none (eo_some ee_int)) ea_nil)) ) ea_nil))) ea_nil) ))))))
theorem sc_sixfold : FnScope ["one", "other", "third", "fourth", "near", "far", "last", "top", "above"] ["one", "other", "third", "fourth"] (defScope s_sixfold) := ⟨rfl, rfl, rfl, by decide +kernel, rfl, by decide +kernel, by decide +kernel⟩
theorem d_sixfold (T : Tx A fd K mg) (d_made : Dfn P w K mg base "made" (A "made") (fd "made") ["above", "below"] 2 (F_made A)) (d_dot : Dfn P w K mg base "dot" (A "dot") (fd "dot") ["near", "far"] 1 (F_dot A)) (d_way_between : Dfn P w K mg base "way_between" (A "way_between") (fd "way_between") ["one", "other"] 1 (F_way_between A)) (d_upright : Dfn P w K mg base "upright" (A "upright") (fd "upright") ["one", "other", "third"] 2 (F_upright A)) (d_sure_point : Dfn P w K mg base "sure_point" (A "sure_point") (fd "sure_point") ["point"] 5 (F_sure_point A)) : Dfn P w K mg base "sixfold" (A "sixfold") (fd "sixfold") ["one", "other", "third", "fourth"] 6 (F_sixfold A) :=
  fn_e T.u_sixfold sc_sixfold T.g_sixfold (T.u_sixfold.binds (ps := ["one", "other", "third", "fourth"]) fun _ _ _ _ _ _ us hl => match us, hl with | [_, _, _, _], _ => rfl) fun cdv AA outer s H E O =>
    (ess_cons (es_nt (ee_tup (ea_cons (ee_call O.toOkx d_sure_point rfl (ea_cons (ee_var 0) ea_nil) ) (ea_cons (ee_call O.toOkx d_sure_point rfl (ea_cons (ee_var 1) ea_nil) ) (ea_cons (ee_call O.toOkx d_sure_point rfl (ea_cons (ee_var 2) ea_nil) ) (ea_cons (ee_call O.toOkx d_sure_point rfl (ea_cons (ee_var 3) ea_nil) ) ea_nil))))) (en_tup O.toOkx.calm (ens_cons (en_name 4 O.toOkx.nd) (ens_cons (en_name 5 O.toOkx.nd) (ens_cons (en_name 6 O.toOkx.nd) (ens_cons (en_name 7 O.toOkx.nd) ens_nil))))))
    (ess_cons (es_set 8 O.toOkx.nd (ee_call O.toOkx d_dot rfl (ea_cons (ee_call O.toOkx d_upright rfl (ea_cons (ee_var 4) (ea_cons (ee_var 5) (ea_cons (ee_var 6) ea_nil))) ) (ea_cons (ee_call O.toOkx d_way_between rfl (ea_cons (ee_var 4) (ea_cons (ee_var 7) ea_nil)) ) ea_nil)) ))
    (ess_one (es_ret (ee_call O.toOkx d_made rfl (ea_cons (ee_var 8) (ea_cons (ee_op od_mul0 (ee_op od_mul0 (ee_op od_mul0 (ee_op od_pow (ee_ix (ee_var 4) ee_int) ee_int) (ee_ix (ee_var 5) ee_int)) (ee_ix (ee_var 6) ee_int)) (ee_ix (ee_var 7) ee_int)) ea_nil)) )))))
theorem sc_is_wall : FnScope ["thing", "own"] ["thing"] (defScope s_is_wall) := ⟨rfl, rfl, rfl, by decide +kernel, rfl, by decide +kernel, by decide +kernel⟩
theorem d_is_wall (T : Tx A fd K mg) (d_divisor : Dfn P w K mg base "divisor" (A "divisor") (fd "divisor") ["numbers"] 1 (F_divisor A)) (d_is_number : Dfn P w K mg base "is_number" (A "is_number") (fd "is_number") ["thing"] 1 (F_is_number A)) : Dfn P w K mg base "is_wall" (A "is_wall") (fd "is_wall") ["thing"] 2 (F_is_wall A) :=
  fn_e T.u_is_wall sc_is_wall T.g_is_wall (T.u_is_wall.binds (ps := ["thing"]) fun _ _ _ _ _ _ us hl => match us, hl with | [_], _ => rfl) fun cdv AA outer s H E O =>
    (ess_cons (es_if (EW.et (ew_or (et_not (et_truth (ee_callB cd_isi rfl T.n_isinstance (by decide +kernel) (ea_cons (ee_var 0) (ea_cons (ee_ty .tuple rfl T.n_tuple (by decide +kernel)) ea_nil))))) (ew_or (et_cmp od_lt (ee_callB cd_len rfl T.n_len (by decide +kernel) (ea_cons (ee_var 0) ea_nil)) ee_int (nomark _)) (ew_or1 (et_not (et_truth (ee_callB (cd_all O.toOkx.calm) rfl T.n_all (by decide +kernel) (ea_cons (ee_lc [("own", 1)] O.toOkx.calm O.toOkx.nd (ei_of (ee_var 0)) (by first | rfl | kernel_rfl) (fun s H C cl fp => (en_name 1 (okx_blk O.toOkx).nd)) (fun s H C cl fp => ets_nil) (fun s H C cl fp => (ee_call (okx_blk O.toOkx) d_is_number rfl (ea_cons (ee_var 1) ea_nil) ))) ea_nil)))))))) (ess_one (es_ret ee_bl)) ess_nil)
    (ess_one (es_ret (ee_and (ee_callB (cd_any O.toOkx.calm) rfl T.n_any (by decide +kernel) (ea_cons (ee_lc [("own", 1)] O.toOkx.calm O.toOkx.nd (ei_of (ee_sl (ee_var 0) eo_none (eo_some ee_int))) (by first | rfl | kernel_rfl) (fun s H C cl fp => (en_name 1 (okx_blk O.toOkx).nd)) (fun s H C cl fp => ets_nil) (fun s H C cl fp => (ee_cmp (od_ne (okx_blk O.toOkx).room.units) (ee_var 1) ee_int (nomark _)))) ea_nil)) (ee_one (ee_cmp (od_eq O.toOkx.room.units) (ee_call O.toOkx d_divisor rfl (ea_cons (ee_var 0) ea_nil) ) ee_int (nomark _)))))))
theorem sc_sure_wall : FnScope ["wall", "own"] ["wall"] (defScope s_sure_wall) := ⟨rfl, rfl, rfl, by decide +kernel, rfl, by decide +kernel, by decide +kernel⟩
theorem d_sure_wall (T : Tx A fd K mg) (d_is_wall : Dfn P w K mg base "is_wall" (A "is_wall") (fd "is_wall") ["thing"] 2 (F_is_wall A)) (d_tupled : Dfn P w K mg base "tupled" (A "tupled") (fd "tupled") ["value"] 4 (F_tupled A 4)) : Dfn P w K mg base "sure_wall" (A "sure_wall") (fd "sure_wall") ["wall"] 5 (F_sure_wall A) :=
  fn_e T.u_sure_wall sc_sure_wall T.g_sure_wall (T.u_sure_wall.binds (ps := ["wall"]) fun _ _ _ _ _ _ us hl => match us, hl with | [_], _ => rfl) fun cdv AA outer s H E O =>
    (ess_cons (es_set 1 O.toOkx.nd (ee_call O.toOkx d_tupled rfl (ea_cons (ee_var 0) ea_nil) ))
    (ess_cons (es_if (et_not (et_truth (ee_call O.toOkx d_is_wall rfl (ea_cons (ee_var 1) ea_nil) ))) (ess_one (es_raise O.toOkx T.x_Unfit)) ess_nil)
    (ess_one (es_ret (ee_var 1)))))
theorem sc_are_values : FnScope ["thing", "own"] ["thing"] (defScope s_are_values) := ⟨rfl, rfl, rfl, by decide +kernel, rfl, by decide +kernel, by decide +kernel⟩
theorem d_are_values (T : Tx A fd K mg) (d_is_fraction : Dfn P w K mg base "is_fraction" (A "is_fraction") (fd "is_fraction") ["thing"] 3 (F_is_fraction A)) : Dfn P w K mg base "are_values" (A "are_values") (fd "are_values") ["thing"] 4 (F_are_values A) :=
  fn_e T.u_are_values sc_are_values T.g_are_values (T.u_are_values.binds (ps := ["thing"]) fun _ _ _ _ _ _ us hl => match us, hl with | [_], _ => rfl) fun cdv AA outer s H E O =>
    (ess_one (es_ret (ee_and (ee_callB cd_isi rfl T.n_isinstance (by decide +kernel) (ea_cons (ee_var 0) (ea_cons (ee_ty .tuple rfl T.n_tuple (by decide +kernel)) ea_nil))) (ee_one (ee_callB (cd_all O.toOkx.calm) rfl T.n_all (by decide +kernel) (ea_cons (ee_lc [("own", 1)] O.toOkx.calm O.toOkx.nd (ei_of (ee_var 0)) (by first | rfl | kernel_rfl) (fun s H C cl fp => (en_name 1 (okx_blk O.toOkx).nd)) (fun s H C cl fp => ets_nil) (fun s H C cl fp => (ee_call (okx_blk O.toOkx) d_is_fraction rfl (ea_cons (ee_var 1) ea_nil) ))) ea_nil))))))
theorem sc_sure_values : FnScope ["sizes", "many", "own"] ["sizes", "many"] (defScope s_sure_values) := ⟨rfl, rfl, rfl, by decide +kernel, rfl, by decide +kernel, by decide +kernel⟩
theorem d_sure_values (T : Tx A fd K mg) (d_are_values : Dfn P w K mg base "are_values" (A "are_values") (fd "are_values") ["thing"] 4 (F_are_values A)) (d_tupled : Dfn P w K mg base "tupled" (A "tupled") (fd "tupled") ["value"] 4 (F_tupled A 4)) : Dfn P w K mg base "sure_values" (A "sure_values") (fd "sure_values") ["sizes", "many"] 5 (F_sure_values A) :=
  fn_e T.u_sure_values sc_sure_values T.g_sure_values (T.u_sure_values.binds (ps := ["sizes", "many"]) fun _ _ _ _ _ _ us hl => match us, hl with | [_, _], _ => rfl) fun cdv AA outer s H E O =>
    (ess_cons (es_set 2 O.toOkx.nd (ee_call O.toOkx d_tupled rfl (ea_cons (ee_var 0) ea_nil) ))
    (ess_cons (es_if (EW.et (ew_or (et_not (et_truth (ee_call O.toOkx d_are_values rfl (ea_cons (ee_var 2) ea_nil) ))) (ew_or1 (EW.et (ew_and (et_cmp od_isnot (ee_var 1) ee_non (nomark _)) (ew_and1 (et_cmp (od_ne O.toOkx.room.units) (ee_callB cd_len rfl T.n_len (by decide +kernel) (ea_cons (ee_var 2) ea_nil)) (ee_var 1) (nomark _)))))))) (ess_one (es_raise O.toOkx T.x_Unfit)) ess_nil)
    (ess_one (es_ret (ee_var 2)))))
theorem sc_sure_case : FnScope ["case", "many", "own"] ["case", "many"] (defScope s_sure_case) := ⟨rfl, rfl, rfl, by decide +kernel, rfl, by decide +kernel, by decide +kernel⟩
theorem d_sure_case (T : Tx A fd K mg) (d_sure_values : Dfn P w K mg base "sure_values" (A "sure_values") (fd "sure_values") ["sizes", "many"] 5 (F_sure_values A)) (d_is_long : Dfn P w K mg base "is_long" (A "is_long") (fd "is_long") ["thing", "length"] 1 (F_is_long A)) (d_is_point : Dfn P w K mg base "is_point" (A "is_point") (fd "is_point") ["thing"] 3 (F_is_point A)) (d_tupled : Dfn P w K mg base "tupled" (A "tupled") (fd "tupled") ["value"] 4 (F_tupled A 4)) : Dfn P w K mg base "sure_case" (A "sure_case") (fd "sure_case") ["case", "many"] 6 (F_sure_case A) :=
  fn_e T.u_sure_case sc_sure_case T.g_sure_case (T.u_sure_case.binds (ps := ["case", "many"]) fun _ _ _ _ _ _ us hl => match us, hl with | [_, _], _ => rfl) fun cdv AA outer s H E O =>
    (ess_cons (es_set 2 O.toOkx.nd (ee_call O.toOkx d_tupled rfl (ea_cons (ee_var 0) ea_nil) ))
    (ess_cons (es_if (EW.et (ew_or (et_not (et_truth (ee_call O.toOkx d_is_long rfl (ea_cons (ee_var 2) (ea_cons ee_int ea_nil)) ))) (ew_or1 (et_not (et_truth (ee_call O.toOkx d_is_point rfl (ea_cons (ee_ix (ee_var 2) ee_int) ea_nil) )))))) (ess_one (es_raise O.toOkx T.x_Unfit)) ess_nil)
    (ess_cons (es_expr (ee_call O.toOkx d_sure_values rfl (ea_cons (ee_ix (ee_var 2) ee_int) (ea_cons (ee_var 1) ea_nil)) ))
    (ess_one (es_ret (ee_var 2))))))
theorem sc_other_side : FnScope ["wall", "own"] ["wall"] (defScope s_other_side) := ⟨rfl, rfl, rfl, by decide +kernel, rfl, by decide +kernel, by decide +kernel⟩
theorem d_other_side (T : Tx A fd K mg)  : Dfn P w K mg base "other_side" (A "other_side") (fd "other_side") ["wall"] 1 (F_other_side A) :=
  fn_e T.u_other_side sc_other_side T.g_other_side (T.u_other_side.binds (ps := ["wall"]) fun _ _ _ _ _ _ us hl => match us, hl with | [_], _ => rfl) fun cdv AA outer s H E O =>
    (ess_one (es_ret (ee_callTy cd_tuple rfl T.n_tuple (by decide +kernel) (ea_cons (ee_lc [("own", 1)] O.toOkx.calm O.toOkx.nd (ei_of (ee_var 0)) (by first | rfl | kernel_rfl) (fun s H C cl fp => (en_name 1 (okx_blk O.toOkx).nd)) (fun s H C cl fp => ets_nil) (fun s H C cl fp => (ee_neg (ee_var 1)))) ea_nil))))
theorem sc_contrary : FnScope ["wall"] ["wall"] (defScope s_contrary) := ⟨rfl, rfl, rfl, by decide +kernel, rfl, by decide +kernel, by decide +kernel⟩
theorem d_contrary (T : Tx A fd K mg) (d_other_side : Dfn P w K mg base "other_side" (A "other_side") (fd "other_side") ["wall"] 1 (F_other_side A)) (d_sure_wall : Dfn P w K mg base "sure_wall" (A "sure_wall") (fd "sure_wall") ["wall"] 5 (F_sure_wall A)) : Dfn P w K mg base "contrary" (A "contrary") (fd "contrary") ["wall"] 6 (F_contrary A) :=
  fn_e T.u_contrary sc_contrary T.g_contrary (T.u_contrary.binds (ps := ["wall"]) fun _ _ _ _ _ _ us hl => match us, hl with | [_], _ => rfl) fun cdv AA outer s H E O =>
    (ess_one (es_ret (ee_call O.toOkx d_other_side rfl (ea_cons (ee_call O.toOkx d_sure_wall rfl (ea_cons (ee_var 0) ea_nil) ) ea_nil) )))
theorem sc_sum_at : FnScope ["told", "sizes", "above", "below", "factor", "high", "low"] ["told", "sizes"] (defScope s_sum_at) := ⟨rfl, rfl, rfl, by decide +kernel, rfl, by decide +kernel, by decide +kernel⟩
theorem d_sum_at (T : Tx A fd K mg)  : Dfn P w K mg base "sum_at" (A "sum_at") (fd "sum_at") ["told", "sizes"] 1 (F_sum_at A) :=
  fn_e T.u_sum_at sc_sum_at T.g_sum_at (T.u_sum_at.binds (ps := ["told", "sizes"]) fun _ _ _ _ _ _ us hl => match us, hl with | [_, _], _ => rfl) fun cdv AA outer s H E O =>
    (ess_cons (es_par 2 3 O.toOkx.calm O.toOkx.nd (ea_cons (ee_ix (ee_var 0) ee_int) (ea_cons ee_int ea_nil)))
    (ess_cons (es_for O.po O.toOkx.calm (ei_zip rfl T.n_zip (ea_cons (ee_sl (ee_var 0) (eo_some ee_int) eo_none) (ea_cons (ee_var 1) ea_nil))) (en_tup O.toOkx.calm (ens_cons (en_name 4 O.toOkx.nd) (ens_cons (en_tup O.toOkx.calm (ens_cons (en_name 5 O.toOkx.nd) (ens_cons (en_name 6 O.toOkx.nd) ens_nil))) ens_nil))) (ess_one (es_par 2 3 O.toOkx.calm O.toOkx.nd (ea_cons (ee_op od_add (ee_op od_mul0 (ee_var 2) (ee_var 6)) (ee_op od_mul0 (ee_op od_mul0 (ee_var 4) (ee_var 5)) (ee_var 3))) (ea_cons (ee_op od_mul0 (ee_var 3) (ee_var 6)) ea_nil)))))
    (ess_one (es_ret (ee_tup (ea_cons (ee_var 2) (ea_cons (ee_var 3) ea_nil)))))))
theorem sc_beyond : FnScope ["wall", "case", "sizes", "x", "y", "z", "w", "above", "below"] ["wall", "case"] (defScope s_beyond) := ⟨rfl, rfl, rfl, by decide +kernel, rfl, by decide +kernel, by decide +kernel⟩
theorem d_beyond (T : Tx A fd K mg) (d_sum_at : Dfn P w K mg base "sum_at" (A "sum_at") (fd "sum_at") ["told", "sizes"] 1 (F_sum_at A)) : Dfn P w K mg base "beyond" (A "beyond") (fd "beyond") ["wall", "case"] 2 (F_beyond A) :=
  fn_e T.u_beyond sc_beyond T.g_beyond (T.u_beyond.binds (ps := ["wall", "case"]) fun _ _ _ _ _ _ us hl => match us, hl with | [_, _], _ => rfl) fun cdv AA outer s H E O =>
    (ess_cons (es_nt (ee_var 1) (en_tup O.toOkx.calm (ens_cons (en_name 2 O.toOkx.nd) (ens_cons (en_tup O.toOkx.calm (ens_cons (en_name 3 O.toOkx.nd) (ens_cons (en_name 4 O.toOkx.nd) (ens_cons (en_name 5 O.toOkx.nd) (ens_cons (en_name 6 O.toOkx.nd) ens_nil))))) ens_nil))))
    (ess_cons (es_nt (ee_call O.toOkx d_sum_at rfl (ea_cons (ee_sl (ee_var 0) (eo_some ee_int) eo_none) (ea_cons (ee_var 2) ea_nil)) ) (en_tup O.toOkx.calm (ens_cons (en_name 7 O.toOkx.nd) (ens_cons (en_name 8 O.toOkx.nd) ens_nil))))
    (ess_one (es_ret (ee_tup (ea_cons (ee_op od_sub (ee_op od_mul0 (ee_op od_add (ee_op od_add (ee_op od_mul0 (ee_ix (ee_var 0) ee_int) (ee_var 3)) (ee_op od_mul0 (ee_ix (ee_var 0) ee_int) (ee_var 4))) (ee_op od_mul0 (ee_ix (ee_var 0) ee_int) (ee_var 5))) (ee_var 8)) (ee_op od_mul0 (ee_var 7) (ee_var 6))) (ea_cons (ee_op od_mul0 (ee_var 8) (ee_var 6)) ea_nil)))))))
theorem sc_side_in : FnScope ["wall", "case", "above"] ["wall", "case"] (defScope s_side_in) := ⟨rfl, rfl, rfl, by decide +kernel, rfl, by decide +kernel, by decide +kernel⟩
theorem d_side_in (T : Tx A fd K mg) (d_beyond : Dfn P w K mg base "beyond" (A "beyond") (fd "beyond") ["wall", "case"] 2 (F_beyond A)) : Dfn P w K mg base "side_in" (A "side_in") (fd "side_in") ["wall", "case"] 3 (F_side_in A) :=
  fn_e T.u_side_in sc_side_in T.g_side_in (T.u_side_in.binds (ps := ["wall", "case"]) fun _ _ _ _ _ _ us hl => match us, hl with | [_, _], _ => rfl) fun cdv AA outer s H E O =>
    (ess_cons (es_set 2 O.toOkx.nd (ee_ix (ee_call O.toOkx d_beyond rfl (ea_cons (ee_var 0) (ea_cons (ee_var 1) ea_nil)) ) ee_int))
    (ess_one (es_ret (ee_op od_subB (ee_cmp od_gt (ee_var 2) ee_int (nomark _)) (ee_cmp od_lt (ee_var 2) ee_int (nomark _))))))
theorem sc_side : FnScope ["wall", "case", "own"] ["wall", "case"] (defScope s_side) := ⟨rfl, rfl, rfl, by decide +kernel, rfl, by decide +kernel, by decide +kernel⟩
theorem d_side (T : Tx A fd K mg) (d_side_in : Dfn P w K mg base "side_in" (A "side_in") (fd "side_in") ["wall", "case"] 3 (F_side_in A)) (d_sure_case : Dfn P w K mg base "sure_case" (A "sure_case") (fd "sure_case") ["case", "many"] 6 (F_sure_case A)) (d_sure_wall : Dfn P w K mg base "sure_wall" (A "sure_wall") (fd "sure_wall") ["wall"] 5 (F_sure_wall A)) : Dfn P w K mg base "side" (A "side") (fd "side") ["wall", "case"] 7 (F_side A) :=
  fn_e T.u_side sc_side T.g_side (T.u_side.binds (ps := ["wall", "case"]) fun _ _ _ _ _ _ us hl => match us, hl with | [_, _], _ => rfl) fun cdv AA outer s H E O =>
    (ess_cons (es_set 2 O.toOkx.nd (ee_call O.toOkx d_sure_wall rfl (ea_cons (ee_var 0) ea_nil) ))
    (ess_one (es_ret (ee_call O.toOkx d_side_in rfl (ea_cons (ee_var 2) (ea_cons (ee_call O.toOkx d_sure_case rfl (ea_cons (ee_var 1) (ea_cons (ee_op od_sub (ee_callB cd_len rfl T.n_len (by decide +kernel) (ea_cons (ee_var 2) ea_nil)) ee_int) ea_nil)) ) ea_nil)) ))))
theorem sc__law_box : FnScope ["script", "k", "bit_so"] ["script", "k"] (defScope s__law_box) := ⟨rfl, rfl, rfl, by decide +kernel, rfl, by decide +kernel, by decide +kernel⟩
theorem d__law_box (T : Tx A fd K mg)  : Dfn P w K mg base "_law_box" (A "_law_box") (fd "_law_box") ["script", "k"] 1 (F__law_box A) :=
  fn_e T.u__law_box sc__law_box T.g__law_box (T.u__law_box.binds (ps := ["script", "k"]) fun _ _ _ _ _ _ us hl => match us, hl with | [_, _], _ => rfl) fun cdv AA outer s H E O =>
    (ess_cons (es_set 2 O.toOkx.nd (ee_if (et_cmp od_lt (ee_var 1) (ee_callB cd_len rfl T.n_len (by decide +kernel) (ea_cons (ee_var 0) ea_nil)) (nomark _)) (ee_ix (ee_var 0) (ee_var 1)) ee_int))
    (ess_one (es_ret (ee_lst (ea_cons (ee_op od_mul0 (ee_callB cd_abs rfl T.n_abs (by decide +kernel) (ea_cons (ee_var 2) ea_nil)) (ee_callTy cd_int rfl T.n_int (by decide +kernel) (ea_cons (ee_cmp od_ge (ee_callB cd_abs rfl T.n_abs (by decide +kernel) (ea_cons (ee_var 2) ea_nil)) (ee_op od_pow ee_int ee_int) (nomark _)) ea_nil))) (ea_cons (ee_op od_add (ee_op od_add (ee_op od_mod (ee_callTy cd_int rfl T.n_int (by decide +kernel) (ea_cons (ee_var 2) ea_nil)) ee_int) (ee_op od_mul0 ee_int (ee_var 1))) ee_int) (ea_cons ee_int ea_nil)))))))
theorem sc__law_take : FnScope ["tin", "below_so", "drawn", "once_so", "wide_so", "twice_so"] ["tin", "below_so"] (defScope s__law_take) := ⟨rfl, rfl, rfl, by decide +kernel, rfl, by decide +kernel, by decide +kernel⟩
theorem d__law_take (T : Tx A fd K mg)  : Dfn P w K mg base "_law_take" (A "_law_take") (fd "_law_take") ["tin", "below_so"] 1 (F__law_take A) :=
  fn_e T.u__law_take sc__law_take T.g__law_take (T.u__law_take.binds (ps := ["tin", "below_so"]) fun _ _ _ _ _ _ us hl => match us, hl with | [_, _], _ => rfl) fun cdv AA outer s H E O =>
    (ess_cons (es_if (et_cmp od_gt (ee_ix (ee_var 0) ee_int) ee_int (nomark _)) (ess_cons (es_set 2 O.toOkx.nd (ee_op od_mod (ee_callTy cd_int rfl T.n_int (by decide +kernel) (ea_cons (ee_ix (ee_var 0) ee_int) ea_nil)) (ee_var 1)))
     (ess_cons (es_sub (ee_op od_div (ee_ix (ee_var 0) ee_int) (ee_var 1)) (ee_var 0) ee_int)
     (ess_one (es_ret (ee_var 2))))) ess_nil)
    (ess_cons (es_sub (ee_op od_add (ee_ix (ee_var 0) ee_int) ee_int) (ee_var 0) ee_int)
    (ess_cons (es_set 3 O.toOkx.nd (ee_op od_mod (ee_callTy cd_int rfl T.n_int (by decide +kernel) (ea_cons (ee_op od_mul0 (ee_op od_add (ee_ix (ee_var 0) ee_int) (ee_op od_mul0 ee_int (ee_ix (ee_var 0) ee_int))) (ee_op od_add ee_int (ee_ix (ee_var 0) ee_int))) ea_nil)) ee_int))
    (ess_cons (es_set 4 O.toOkx.nd (ee_op od_add (ee_op od_mod (ee_callTy cd_int rfl T.n_int (by decide +kernel) (ea_cons (ee_var 3) ea_nil)) ee_int) ee_int))
    (ess_cons (es_set 5 O.toOkx.nd (ee_op od_mod (ee_callTy cd_int rfl T.n_int (by decide +kernel) (ea_cons (ee_op od_mul0 (ee_op od_add (ee_op od_add (ee_var 3) (ee_ix (ee_var 0) ee_int)) (ee_op od_div (ee_ix (ee_var 0) ee_int) ee_int)) (ee_var 4)) ea_nil)) ee_int))
    (ess_one (es_ret (ee_op od_mod (ee_callTy cd_int rfl T.n_int (by decide +kernel) (ea_cons (ee_op od_div (ee_op od_mod (ee_callTy cd_int rfl T.n_int (by decide +kernel) (ea_cons (ee_op od_add (ee_op od_mul0 (ee_var 5) ee_int) (ee_var 3)) ea_nil)) ee_int) ee_int) ea_nil)) (ee_var 1)))))))))
theorem sc__law_cells : FnScope ["script", "most_so", "cells_so", "k", "bit_so", "at_so"] ["script", "most_so"] (defScope s__law_cells) := ⟨rfl, rfl, rfl, by decide +kernel, rfl, by decide +kernel, by decide +kernel⟩
theorem d__law_cells (T : Tx A fd K mg)  : Dfn P w K mg base "_law_cells" (A "_law_cells") (fd "_law_cells") ["script", "most_so"] 1 (F__law_cells A) :=
  fn_e T.u__law_cells sc__law_cells T.g__law_cells (T.u__law_cells.binds (ps := ["script", "most_so"]) fun _ _ _ _ _ _ us hl => match us, hl with | [_, _], _ => rfl) fun cdv AA outer s H E O =>
    (ess_cons (es_set 2 O.toOkx.nd (ee_or (ee_callTy cd_list rfl T.n_list (by decide +kernel) (ea_cons (ee_sl (ee_var 0) eo_none (eo_some (ee_var 1))) ea_nil)) (ee_one (ee_lst (ea_cons ee_int ea_nil)))))
    (ess_cons (es_for O.po O.toOkx.calm (ei_enum rfl T.n_enumerate (ea_cons (ee_sl (ee_var 0) (eo_some (ee_var 1)) (eo_some ee_int)) ea_nil)) (en_tup O.toOkx.calm (ens_cons (en_name 3 O.toOkx.nd) (ens_cons (en_name 4 O.toOkx.nd) ens_nil))) (ess_cons (es_set 5 O.toOkx.nd (ee_op od_mod (ee_callTy cd_int rfl T.n_int (by decide +kernel) (ea_cons (ee_var 3) ea_nil)) (ee_var 1)))
     (ess_one (es_sub (ee_op od_add (ee_ix (ee_var 2) (ee_var 5)) (ee_op od_mul0 (ee_var 4) (ee_op od_add (ee_var 3) ee_int))) (ee_var 2) (ee_var 5)))))
    (ess_one (es_ret (ee_var 2)))))
theorem sc__law_same : FnScope ["got", "due", "mine", "its"] ["got", "due"] (defScope s__law_same) := ⟨rfl, rfl, rfl, by decide +kernel, rfl, by decide +kernel, by decide +kernel⟩
theorem d__law_same (T : Tx A fd K mg)  : ∀ n, Dfn P w K mg base "_law_same" (A "_law_same") (fd "_law_same") ["got", "due"] (0 + n) (F__law_same A n)
  | 0 => dfn_no T.u__law_same T.g__law_same (T.u__law_same.binds (ps := ["got", "due"]) fun _ _ _ _ _ _ us hl => match us, hl with | [_, _], _ => rfl)
  | n + 1 => by
    have dR := d__law_same T  n
    exact fn_e T.u__law_same sc__law_same T.g__law_same (T.u__law_same.binds (ps := ["got", "due"]) fun _ _ _ _ _ _ us hl => match us, hl with | [_, _], _ => rfl) fun cdv AA outer s H E O =>
    (ess_cons (es_if (et_truth (ee_callB cd_isi rfl T.n_isinstance (by decide +kernel) (ea_cons (ee_var 1) (ea_cons (ee_tup (ea_cons (ee_ty .list rfl T.n_list (by decide +kernel)) (ea_cons (ee_ty .tuple rfl T.n_tuple (by decide +kernel)) ea_nil))) ea_nil)))) (ess_cons (es_if (EW.et (ew_or (et_cmp (od_ne O.toOkx.room.units) (ee_callB cd_isi rfl T.n_isinstance (by decide +kernel) (ea_cons (ee_var 0) (ea_cons (ee_ty .list rfl T.n_list (by decide +kernel)) ea_nil))) (ee_callB cd_isi rfl T.n_isinstance (by decide +kernel) (ea_cons (ee_var 1) (ea_cons (ee_ty .list rfl T.n_list (by decide +kernel)) ea_nil))) (nomark _)) (ew_or1 (et_cmp (od_ne O.toOkx.room.units) (ee_callB cd_isi rfl T.n_isinstance (by decide +kernel) (ea_cons (ee_var 0) (ea_cons (ee_ty .tuple rfl T.n_tuple (by decide +kernel)) ea_nil))) (ee_callB cd_isi rfl T.n_isinstance (by decide +kernel) (ea_cons (ee_var 1) (ea_cons (ee_ty .tuple rfl T.n_tuple (by decide +kernel)) ea_nil))) (nomark _))))) (ess_one (es_ret ee_bl)) ess_nil)
     (ess_one (es_ret (ee_and (ee_cmp (od_eq O.toOkx.room.units) (ee_callB cd_len rfl T.n_len (by decide +kernel) (ea_cons (ee_var 0) ea_nil)) (ee_callB cd_len rfl T.n_len (by decide +kernel) (ea_cons (ee_var 1) ea_nil)) (nomark _)) (ee_one (ee_callB (cd_all O.toOkx.calm) rfl T.n_all (by decide +kernel) (ea_cons (ee_lc [("mine", 2), ("its", 3)] O.toOkx.calm O.toOkx.nd (ei_zip rfl T.n_zip (ea_cons (ee_var 0) (ea_cons (ee_var 1) ea_nil))) (by first | rfl | kernel_rfl) (fun s H C cl fp => (en_tup (okx_blk O.toOkx).calm (ens_cons (en_name 2 (okx_blk O.toOkx).nd) (ens_cons (en_name 3 (okx_blk O.toOkx).nd) ens_nil)))) (fun s H C cl fp => ets_nil) (fun s H C cl fp => (ee_call (okx_blk O.toOkx) dR rfl (ea_cons (ee_var 2) (ea_cons (ee_var 3) ea_nil)) (hj := Nat.le_refl _)))) ea_nil))))))) ess_nil)
    (ess_cons (es_if (EW.et (ew_or (et_cmp od_is (ee_var 1) ee_non (nomark _)) (ew_or1 (et_truth (ee_callB cd_isi rfl T.n_isinstance (by decide +kernel) (ea_cons (ee_var 1) (ea_cons (ee_tup (ea_cons (ee_ty .bool rfl T.n_bool (by decide +kernel)) (ea_cons (ee_ty .str rfl T.n_str (by decide +kernel)) ea_nil))) ea_nil))))))) (ess_one (es_ret (ee_and (ee_cmp (od_eq O.toOkx.room.units) (ee_var 0) (ee_var 1) (nomark _)) (ee_and (ee_cmp (od_eq O.toOkx.room.units) (ee_callB cd_isi rfl T.n_isinstance (by decide +kernel) (ea_cons (ee_var 0) (ea_cons (ee_ty .bool rfl T.n_bool (by decide +kernel)) ea_nil))) (ee_callB cd_isi rfl T.n_isinstance (by decide +kernel) (ea_cons (ee_var 1) (ea_cons (ee_ty .bool rfl T.n_bool (by decide +kernel)) ea_nil))) (nomark _)) (ee_one (ee_cmp (od_eq O.toOkx.room.units) (ee_cmp od_is (ee_var 0) ee_non (nomark _)) (ee_cmp od_is (ee_var 1) ee_non (nomark _)) (nomark _))))))) ess_nil)
    (ess_one (es_ret (ee_and (ee_callB cd_isi rfl T.n_isinstance (by decide +kernel) (ea_cons (ee_var 0) (ea_cons (ee_ty .int rfl T.n_int (by decide +kernel)) ea_nil))) (ee_and (ee_not (ee_callB cd_isi rfl T.n_isinstance (by decide +kernel) (ea_cons (ee_var 0) (ea_cons (ee_ty .bool rfl T.n_bool (by decide +kernel)) ea_nil)))) (ee_one (ee_cmp (od_eq O.toOkx.room.units) (ee_var 0) (ee_var 1) (nomark _)))))))))
theorem sc__law_least : FnScope ["numbers_so", "by_so", "own"] ["numbers_so"] (defScope s__law_least) := ⟨rfl, rfl, rfl, by decide +kernel, rfl, by decide +kernel, by decide +kernel⟩
theorem d__law_least (T : Tx A fd K mg)  : Dfn P w K mg base "_law_least" (A "_law_least") (fd "_law_least") ["numbers_so"] 1 (F__law_least A) :=
  fn_e T.u__law_least sc__law_least T.g__law_least (T.u__law_least.binds (ps := ["numbers_so"]) fun _ _ _ _ _ _ us hl => match us, hl with | [_], _ => rfl) fun cdv AA outer s H E O =>
    (ess_cons (es_set 1 O.toOkx.nd ee_int)
    (ess_cons (es_for O.po O.toOkx.calm (ei_of (ee_var 0)) (en_name 2 O.toOkx.nd) (ess_cons (es_set 2 O.toOkx.nd (ee_callB cd_abs rfl T.n_abs (by decide +kernel) (ea_cons (ee_var 2) ea_nil)))
     (ess_one (es_while O.po (et_cmp (od_ne O.toOkx.room.units) (ee_var 2) ee_int (nomark _)) (ess_one (es_nt (ee_tup (ea_cons (ee_var 2) (ea_cons (ee_op od_mod (ee_var 1) (ee_var 2)) ea_nil))) (en_tup O.toOkx.calm (ens_cons (en_name 1 O.toOkx.nd) (ens_cons (en_name 2 O.toOkx.nd) ens_nil)))))))))
    (ess_one (es_ret (ee_callTy cd_tuple rfl T.n_tuple (by decide +kernel) (ea_cons (ee_lc [("own", 2)] O.toOkx.calm O.toOkx.nd (ei_of (ee_var 0)) (by first | rfl | kernel_rfl) (fun s H C cl fp => (en_name 2 (okx_blk O.toOkx).nd)) (fun s H C cl fp => ets_nil) (fun s H C cl fp => (ee_op od_div (ee_var 2) (ee_var 1)))) ea_nil))))))
theorem sc__law_spot : FnScope ["tin", "most_so"] ["tin", "most_so"] (defScope s__law_spot) := ⟨rfl, rfl, rfl, by decide +kernel, rfl, by decide +kernel, by decide +kernel⟩
theorem d__law_spot (T : Tx A fd K mg) (d__law_least : Dfn P w K mg base "_law_least" (A "_law_least") (fd "_law_least") ["numbers_so"] 1 (F__law_least A)) (d__law_take : Dfn P w K mg base "_law_take" (A "_law_take") (fd "_law_take") ["tin", "below_so"] 1 (F__law_take A)) : Dfn P w K mg base "_law_spot" (A "_law_spot") (fd "_law_spot") ["tin", "most_so"] 2 (F__law_spot A) :=
  fn_e T.u__law_spot sc__law_spot T.g__law_spot (T.u__law_spot.binds (ps := ["tin", "most_so"]) fun _ _ _ _ _ _ us hl => match us, hl with | [_, _], _ => rfl) fun cdv AA outer s H E O =>
    (ess_one (es_ret (ee_call O.toOkx d__law_least rfl (ea_cons (ee_tup (ea_cons (ee_op od_sub (ee_call O.toOkx d__law_take rfl (ea_cons (ee_var 0) (ea_cons (ee_op od_add (ee_op od_mul0 ee_int (ee_var 1)) ee_int) ea_nil)) ) (ee_var 1)) (ea_cons (ee_op od_sub (ee_call O.toOkx d__law_take rfl (ea_cons (ee_var 0) (ea_cons (ee_op od_add (ee_op od_mul0 ee_int (ee_var 1)) ee_int) ea_nil)) ) (ee_var 1)) (ea_cons (ee_op od_sub (ee_call O.toOkx d__law_take rfl (ea_cons (ee_var 0) (ea_cons (ee_op od_add (ee_op od_mul0 ee_int (ee_var 1)) ee_int) ea_nil)) ) (ee_var 1)) (ea_cons (ee_op od_add ee_int (ee_call O.toOkx d__law_take rfl (ea_cons (ee_var 0) (ea_cons ee_int ea_nil)) )) ea_nil))))) ea_nil) )))
theorem sc__law_low : FnScope ["above", "below", "one", "two_v", "sign_so"] ["above", "below"] (defScope s__law_low) := ⟨rfl, rfl, rfl, by decide +kernel, rfl, by decide +kernel, by decide +kernel⟩
theorem d__law_low (T : Tx A fd K mg)  : Dfn P w K mg base "_law_low" (A "_law_low") (fd "_law_low") ["above", "below"] 1 (F__law_low A) :=
  fn_e T.u__law_low sc__law_low T.g__law_low (T.u__law_low.binds (ps := ["above", "below"]) fun _ _ _ _ _ _ us hl => match us, hl with | [_, _], _ => rfl) fun cdv AA outer s H E O =>
    (ess_cons (es_par 2 3 O.toOkx.calm O.toOkx.nd (ea_cons (ee_callB cd_abs rfl T.n_abs (by decide +kernel) (ea_cons (ee_var 0) ea_nil)) (ea_cons (ee_callB cd_abs rfl T.n_abs (by decide +kernel) (ea_cons (ee_var 1) ea_nil)) ea_nil)))
    (ess_cons (es_while O.po (et_cmp od_gt (ee_var 2) ee_int (nomark _)) (ess_one (es_par 2 3 O.toOkx.calm O.toOkx.nd (ea_cons (ee_op od_mod (ee_var 3) (ee_var 2)) (ea_cons (ee_var 2) ea_nil)))))
    (ess_cons (es_set 4 O.toOkx.nd (ee_if (et_cmp od_gt (ee_var 1) ee_int (nomark _)) ee_int (ee_neg ee_int)))
    (ess_one (es_ret (ee_tup (ea_cons (ee_op od_div (ee_op od_mul0 (ee_var 4) (ee_var 0)) (ee_var 3)) (ea_cons (ee_op od_div (ee_op od_mul0 (ee_var 4) (ee_var 1)) (ee_var 3)) ea_nil))))))))
theorem sc__law_times : FnScope ["one_so", "two_v"] ["one_so", "two_v"] (defScope s__law_times) := ⟨rfl, rfl, rfl, by decide +kernel, rfl, by decide +kernel, by decide +kernel⟩
theorem d__law_times (T : Tx A fd K mg) (d__law_low : Dfn P w K mg base "_law_low" (A "_law_low") (fd "_law_low") ["above", "below"] 1 (F__law_low A)) : Dfn P w K mg base "_law_times" (A "_law_times") (fd "_law_times") ["one_so", "two_v"] 2 (F__law_times A) :=
  fn_e T.u__law_times sc__law_times T.g__law_times (T.u__law_times.binds (ps := ["one_so", "two_v"]) fun _ _ _ _ _ _ us hl => match us, hl with | [_, _], _ => rfl) fun cdv AA outer s H E O =>
    (ess_one (es_ret (ee_call O.toOkx d__law_low rfl (ea_cons (ee_op od_mul0 (ee_ix (ee_var 0) ee_int) (ee_ix (ee_var 1) ee_int)) (ea_cons (ee_op od_mul0 (ee_ix (ee_var 0) ee_int) (ee_ix (ee_var 1) ee_int)) ea_nil)) )))
theorem sc__law_call : FnScope ["door", "goods_so"] ["door", "goods_so"] (defScope s__law_call) := ⟨rfl, rfl, rfl, by decide +kernel, rfl, by decide +kernel, by decide +kernel⟩
theorem d__law_call (T : Tx A fd K mg)  (hT : HeldAll P w K mg base 6 (tb A)) : Dfn P w K mg base "_law_call" (A "_law_call") (fd "_law_call") ["door", "goods_so"] 7 (F__law_call A) :=
  fn_e T.u__law_call sc__law_call T.g__law_call (T.u__law_call.binds (ps := ["door", "goods_so"]) fun _ _ _ _ _ _ us hl => match us, hl with | [_, _], _ => rfl) fun cdv AA outer s H E O =>
    (ess_cons (es_if (et_cmp od_lt (ee_callB cd_len rfl T.n_len (by decide +kernel) (ea_cons (ee_var 1) ea_nil)) ee_int (nomark _)) (ess_one (es_ret (ee_if (et_cmp (od_eq O.toOkx.room.units) (ee_callB cd_len rfl T.n_len (by decide +kernel) (ea_cons (ee_var 1) ea_nil)) ee_int (nomark _)) (ee_callL 0 O.toOkx hT (ea_cons (ee_ix (ee_var 1) ee_int) ea_nil)) (ee_callL 0 O.toOkx hT (ea_cons (ee_ix (ee_var 1) ee_int) (ea_cons (ee_ix (ee_var 1) ee_int) ea_nil)))))) ess_nil)
    (ess_cons (es_if (et_cmp (od_eq O.toOkx.room.units) (ee_callB cd_len rfl T.n_len (by decide +kernel) (ea_cons (ee_var 1) ea_nil)) ee_int (nomark _)) (ess_one (es_ret (ee_callL 0 O.toOkx hT (ea_cons (ee_ix (ee_var 1) ee_int) (ea_cons (ee_ix (ee_var 1) ee_int) (ea_cons (ee_ix (ee_var 1) ee_int) ea_nil)))))) ess_nil)
    (ess_one (es_ret (ee_callL 0 O.toOkx hT (ea_cons (ee_ix (ee_var 1) ee_int) (ea_cons (ee_ix (ee_var 1) ee_int) (ea_cons (ee_ix (ee_var 1) ee_int) (ea_cons (ee_ix (ee_var 1) ee_int) ea_nil)))))))))
theorem sc__law_plus : FnScope ["one_so", "two_v"] ["one_so", "two_v"] (defScope s__law_plus) := ⟨rfl, rfl, rfl, by decide +kernel, rfl, by decide +kernel, by decide +kernel⟩
theorem d__law_plus (T : Tx A fd K mg) (d__law_low : Dfn P w K mg base "_law_low" (A "_law_low") (fd "_law_low") ["above", "below"] 1 (F__law_low A)) : Dfn P w K mg base "_law_plus" (A "_law_plus") (fd "_law_plus") ["one_so", "two_v"] 2 (F__law_plus A) :=
  fn_e T.u__law_plus sc__law_plus T.g__law_plus (T.u__law_plus.binds (ps := ["one_so", "two_v"]) fun _ _ _ _ _ _ us hl => match us, hl with | [_, _], _ => rfl) fun cdv AA outer s H E O =>
    (ess_one (es_ret (ee_call O.toOkx d__law_low rfl (ea_cons (ee_op od_add (ee_op od_mul0 (ee_ix (ee_var 0) ee_int) (ee_ix (ee_var 1) ee_int)) (ee_op od_mul0 (ee_ix (ee_var 1) ee_int) (ee_ix (ee_var 0) ee_int))) (ea_cons (ee_op od_mul0 (ee_ix (ee_var 0) ee_int) (ee_ix (ee_var 1) ee_int)) ea_nil)) )))
theorem sc__law_minus : FnScope ["one_so", "two_v"] ["one_so", "two_v"] (defScope s__law_minus) := ⟨rfl, rfl, rfl, by decide +kernel, rfl, by decide +kernel, by decide +kernel⟩
theorem d__law_minus (T : Tx A fd K mg) (d__law_plus : Dfn P w K mg base "_law_plus" (A "_law_plus") (fd "_law_plus") ["one_so", "two_v"] 2 (F__law_plus A)) : Dfn P w K mg base "_law_minus" (A "_law_minus") (fd "_law_minus") ["one_so", "two_v"] 3 (F__law_minus A) :=
  fn_e T.u__law_minus sc__law_minus T.g__law_minus (T.u__law_minus.binds (ps := ["one_so", "two_v"]) fun _ _ _ _ _ _ us hl => match us, hl with | [_, _], _ => rfl) fun cdv AA outer s H E O =>
    (ess_one (es_ret (ee_call O.toOkx d__law_plus rfl (ea_cons (ee_var 0) (ea_cons (ee_tup (ea_cons (ee_op od_sub ee_int (ee_ix (ee_var 1) ee_int)) (ea_cons (ee_ix (ee_var 1) ee_int) ea_nil))) ea_nil)) )))
theorem sc__law_heard : FnScope ["door", "goods_so", "caught", "told_so", "error_a", "error_b"] ["door", "goods_so"] (defScope s__law_heard) := ⟨rfl, rfl, rfl, by decide +kernel, rfl, by decide +kernel, by decide +kernel⟩
theorem d__law_heard (T : Tx A fd K mg) (d__law_call : Dfn P w K mg base "_law_call" (A "_law_call") (fd "_law_call") ["door", "goods_so"] 7 (F__law_call A)) : Dfn P w K mg base "_law_heard" (A "_law_heard") (fd "_law_heard") ["door", "goods_so"] 8 (F__law_heard A) :=
  fn_e T.u__law_heard sc__law_heard T.g__law_heard (T.u__law_heard.binds (ps := ["door", "goods_so"]) fun _ _ _ _ _ _ us hl => match us, hl with | [_, _], _ => rfl) fun cdv AA outer s H E O =>
    (ess_cons (es_nt (ee_tup (ea_cons ee_non (ea_cons ee_non ea_nil))) (en_tup O.toOkx.calm (ens_cons (en_name 2 O.toOkx.nd) (ens_cons (en_name 3 O.toOkx.nd) ens_nil))))
    (ess_cons (es_trys 2 rfl rfl O.toOkx.nd (fun W pn xe tk po =>
     (ess_one (es_set 3 (oks_tr O tk po).toOkx.nd (ee_call (oks_tr O tk po).toOkx d__law_call rfl (ea_cons (ee_var 0) (ea_cons (ee_var 1) ea_nil)) )))) (.cons T.x_Flat T.c_Flat (List.forall_mem_cons.mpr ⟨T.f_Flat_CanNot, (fun _ h => absurd h (List.not_mem_nil))⟩) O.toOkx.nd T.n_isinstance T.n_ValueError (.cons T.x_CanNot T.c_CanNot (fun _ h => absurd h (List.not_mem_nil)) O.toOkx.nd T.n_isinstance T.n_ValueError .nil)))
    (ess_one (es_ret (ee_if (et_cmp od_is (ee_var 2) ee_non (nomark _)) (ee_var 3) (ee_var 2))))))
theorem sc__law_way : FnScope ["one", "duo_so", "k"] ["one", "duo_so"] (defScope s__law_way) := ⟨rfl, rfl, rfl, by decide +kernel, rfl, by decide +kernel, by decide +kernel⟩
theorem d__law_way (T : Tx A fd K mg) (d__law_minus : Dfn P w K mg base "_law_minus" (A "_law_minus") (fd "_law_minus") ["one_so", "two_v"] 3 (F__law_minus A)) (d__law_low : Dfn P w K mg base "_law_low" (A "_law_low") (fd "_law_low") ["above", "below"] 1 (F__law_low A)) : Dfn P w K mg base "_law_way" (A "_law_way") (fd "_law_way") ["one", "duo_so"] 4 (F__law_way A) :=
  fn_e T.u__law_way sc__law_way T.g__law_way (T.u__law_way.binds (ps := ["one", "duo_so"]) fun _ _ _ _ _ _ us hl => match us, hl with | [_, _], _ => rfl) fun cdv AA outer s H E O =>
    (ess_one (es_ret (ee_callTy cd_tuple rfl T.n_tuple (by decide +kernel) (ea_cons (ee_lc [("k", 2)] O.toOkx.calm O.toOkx.nd (ei_range1 rfl T.n_range (ea_cons ee_int ea_nil)) (by first | rfl | kernel_rfl) (fun s H C cl fp => (en_name 2 (okx_blk O.toOkx).nd)) (fun s H C cl fp => ets_nil) (fun s H C cl fp => (ee_call (okx_blk O.toOkx) d__law_minus rfl (ea_cons (ee_call (okx_blk O.toOkx) d__law_low rfl (ea_cons (ee_ix (ee_var 1) (ee_var 2)) (ea_cons (ee_ix (ee_var 1) ee_int) ea_nil)) ) (ea_cons (ee_call (okx_blk O.toOkx) d__law_low rfl (ea_cons (ee_ix (ee_var 0) (ee_var 2)) (ea_cons (ee_ix (ee_var 0) ee_int) ea_nil)) ) ea_nil)) ))) ea_nil))))
theorem sc__law_six : FnScope ["a", "b", "c", "d", "p", "q", "r", "found", "k", "i", "j"] ["a", "b", "c", "d"] (defScope s__law_six) := ⟨rfl, rfl, rfl, by decide +kernel, rfl, by decide +kernel, by decide +kernel⟩
theorem d__law_six (T : Tx A fd K mg) (d__law_plus : Dfn P w K mg base "_law_plus" (A "_law_plus") (fd "_law_plus") ["one_so", "two_v"] 2 (F__law_plus A)) (d__law_times : Dfn P w K mg base "_law_times" (A "_law_times") (fd "_law_times") ["one_so", "two_v"] 2 (F__law_times A)) (d__law_minus : Dfn P w K mg base "_law_minus" (A "_law_minus") (fd "_law_minus") ["one_so", "two_v"] 3 (F__law_minus A)) (d__law_way : Dfn P w K mg base "_law_way" (A "_law_way") (fd "_law_way") ["one", "duo_so"] 4 (F__law_way A)) : Dfn P w K mg base "_law_six" (A "_law_six") (fd "_law_six") ["a", "b", "c", "d"] 5 (F__law_six A) :=
  fn_e T.u__law_six sc__law_six T.g__law_six (T.u__law_six.binds (ps := ["a", "b", "c", "d"]) fun _ _ _ _ _ _ us hl => match us, hl with | [_, _, _, _], _ => rfl) fun cdv AA outer s H E O =>
    (ess_cons (es_par3 4 5 6 O.toOkx.calm O.toOkx.nd (ea_cons (ee_call O.toOkx d__law_way rfl (ea_cons (ee_var 0) (ea_cons (ee_var 1) ea_nil)) ) (ea_cons (ee_call O.toOkx d__law_way rfl (ea_cons (ee_var 0) (ea_cons (ee_var 2) ea_nil)) ) (ea_cons (ee_call O.toOkx d__law_way rfl (ea_cons (ee_var 0) (ea_cons (ee_var 3) ea_nil)) ) ea_nil))))
    (ess_cons (es_set 7 O.toOkx.nd (ee_tup (ea_cons ee_int (ea_cons ee_int ea_nil))))
    (ess_cons (es_for O.po O.toOkx.calm (ei_range1 rfl T.n_range (ea_cons ee_int ea_nil)) (en_name 8 O.toOkx.nd) (ess_cons (es_par 9 10 O.toOkx.calm O.toOkx.nd (ea_cons (ee_op od_mod (ee_op od_add (ee_var 8) ee_int) ee_int) (ea_cons (ee_op od_mod (ee_op od_add (ee_var 8) ee_int) ee_int) ea_nil)))
     (ess_one (es_set 7 O.toOkx.nd (ee_call O.toOkx d__law_plus rfl (ea_cons (ee_var 7) (ea_cons (ee_call O.toOkx d__law_times rfl (ea_cons (ee_ix (ee_var 6) (ee_var 8)) (ea_cons (ee_call O.toOkx d__law_minus rfl (ea_cons (ee_call O.toOkx d__law_times rfl (ea_cons (ee_ix (ee_var 4) (ee_var 9)) (ea_cons (ee_ix (ee_var 5) (ee_var 10)) ea_nil)) ) (ea_cons (ee_call O.toOkx d__law_times rfl (ea_cons (ee_ix (ee_var 4) (ee_var 10)) (ea_cons (ee_ix (ee_var 5) (ee_var 9)) ea_nil)) ) ea_nil)) ) ea_nil)) ) ea_nil)) )))))
    (ess_one (es_ret (ee_var 7))))))
theorem sc_law : FnScope ["script", "tin", "lap", "a", "b", "c", "d", "way_so", "got", "mid_so", "square_so", "own", "told_so", "t", "due", "p", "q", "line_so", "wall_so", "near", "far", "its", "k"] ["script"] (defScope s_law) := ⟨rfl, rfl, rfl, by decide +kernel, rfl, by decide +kernel, by decide +kernel⟩
theorem d_law (T : Tx A fd K mg) (d_less : Dfn P w K mg base "less" (A "less") (fd "less") ["one", "other"] 7 (F_less A)) (d_added : Dfn P w K mg base "added" (A "added") (fd "added") ["one", "other"] 7 (F_added A)) (d__law_same : Dfn P w K mg base "_law_same" (A "_law_same") (fd "_law_same") ["got", "due"] 5 (F__law_same A 5)) (d_dot : Dfn P w K mg base "dot" (A "dot") (fd "dot") ["near", "far"] 1 (F_dot A)) (d_cross : Dfn P w K mg base "cross" (A "cross") (fd "cross") ["near", "far"] 1 (F_cross A)) (d__law_take : Dfn P w K mg base "_law_take" (A "_law_take") (fd "_law_take") ["tin", "below_so"] 1 (F__law_take A)) (d_compared : Dfn P w K mg base "compared" (A "compared") (fd "compared") ["one", "other"] 7 (F_compared A)) (d_contrary : Dfn P w K mg base "contrary" (A "contrary") (fd "contrary") ["wall"] 6 (F_contrary A)) (d_side : Dfn P w K mg base "side" (A "side") (fd "side") ["wall", "case"] 7 (F_side A)) (d_plane_through : Dfn P w K mg base "plane_through" (A "plane_through") (fd "plane_through") ["one", "other", "third"] 6 (F_plane_through A)) (d_on_one_line : Dfn P w K mg base "on_one_line" (A "on_one_line") (fd "on_one_line") ["one", "other", "third"] 6 (F_on_one_line A)) (d__law_heard : Dfn P w K mg base "_law_heard" (A "_law_heard") (fd "_law_heard") ["door", "goods_so"] 8 (F__law_heard A)) (d__law_minus : Dfn P w K mg base "_law_minus" (A "_law_minus") (fd "_law_minus") ["one_so", "two_v"] 3 (F__law_minus A)) (d__law_times : Dfn P w K mg base "_law_times" (A "_law_times") (fd "_law_times") ["one_so", "two_v"] 2 (F__law_times A)) (d__law_way : Dfn P w K mg base "_law_way" (A "_law_way") (fd "_law_way") ["one", "duo_so"] 4 (F__law_way A)) (d_sixfold : Dfn P w K mg base "sixfold" (A "sixfold") (fd "sixfold") ["one", "other", "third", "fourth"] 6 (F_sixfold A)) (d__law_six : Dfn P w K mg base "_law_six" (A "_law_six") (fd "_law_six") ["a", "b", "c", "d"] 5 (F__law_six A)) (d_place_at : Dfn P w K mg base "place_at" (A "place_at") (fd "place_at") ["ray", "t"] 6 (F_place_at A)) (d_time_of : Dfn P w K mg base "time_of" (A "time_of") (fd "time_of") ["ray", "point"] 6 (F_time_of A)) (d_direction_between : Dfn P w K mg base "direction_between" (A "direction_between") (fd "direction_between") ["one", "other"] 6 (F_direction_between A)) (d_least_direction : Dfn P w K mg base "least_direction" (A "least_direction") (fd "least_direction") ["direction"] 6 (F_least_direction A)) (d_square_between : Dfn P w K mg base "square_between" (A "square_between") (fd "square_between") ["one", "other"] 6 (F_square_between A)) (d_times : Dfn P w K mg base "times" (A "times") (fd "times") ["one", "other"] 7 (F_times A)) (d__law_low : Dfn P w K mg base "_law_low" (A "_law_low") (fd "_law_low") ["above", "below"] 1 (F__law_low A)) (d_moved_by : Dfn P w K mg base "moved_by" (A "moved_by") (fd "moved_by") ["point", "way"] 6 (F_moved_by A)) (d_point : Dfn P w K mg base "point" (A "point") (fd "point") ["x", "y", "z"] 6 (F_point A)) (d_place : Dfn P w K mg base "place" (A "place") (fd "place") ["point"] 6 (F_place A)) (d_half_way : Dfn P w K mg base "half_way" (A "half_way") (fd "half_way") ["one", "other"] 6 (F_half_way A)) (d__law_spot : Dfn P w K mg base "_law_spot" (A "_law_spot") (fd "_law_spot") ["tin", "most_so"] 2 (F__law_spot A)) (d__law_box : Dfn P w K mg base "_law_box" (A "_law_box") (fd "_law_box") ["script", "k"] 1 (F__law_box A)) (d__law_cells : Dfn P w K mg base "_law_cells" (A "_law_cells") (fd "_law_cells") ["script", "most_so"] 1 (F__law_cells A)) : Dfn P w K mg base "law" (A "law") (fd "law") ["script"] 9 (F_law A) :=
  fn_e T.u_law sc_law T.g_law (T.u_law.binds (ps := ["script"]) fun _ _ _ _ _ _ us hl => match us, hl with | [_], _ => rfl) fun cdv AA outer s H E O =>
    (ess_cons (es_set 1 O.toOkx.nd (ee_call O.toOkx d__law_box rfl (ea_cons (ee_call O.toOkx d__law_cells rfl (ea_cons (ee_var 0) (ea_cons ee_int ea_nil)) ) (ea_cons ee_int ea_nil)) ))
    (ess_cons (es_for O.po O.toOkx.calm (ei_range1 rfl T.n_range (ea_cons ee_int ea_nil)) (en_name 2 O.toOkx.nd) (ess_cons (es_unl O.toOkx.calm (ee_lc [("k", 22)] O.toOkx.calm O.toOkx.nd (ei_range1 rfl T.n_range (ea_cons ee_int ea_nil)) (by first | rfl | kernel_rfl) (fun s H C cl fp => (en_name 22 (okx_blk O.toOkx).nd)) (fun s H C cl fp => ets_nil) (fun s H C cl fp => (ee_call (okx_blk O.toOkx) d__law_spot rfl (ea_cons (ee_var 1) (ea_cons ee_int ea_nil)) ))) (ens_cons (en_name 3 O.toOkx.nd) (ens_cons (en_name 4 O.toOkx.nd) (ens_cons (en_name 5 O.toOkx.nd) (ens_cons (en_name 6 O.toOkx.nd) ens_nil)))))
     (ess_cons (es_set 7 O.toOkx.nd (ee_call O.toOkx d__law_way rfl (ea_cons (ee_var 3) (ea_cons (ee_var 4) ea_nil)) ))
     (ess_cons (es_set 8 O.toOkx.nd (ee_lst (ea_cons (ee_callK0 O.toOkx d_place rfl (by exact (ek_cons (ee_var 3) ek_nil)) (kb_place_0_point T.u_place) ) (ea_cons (ee_callK0 O.toOkx d_moved_by rfl (by exact (ek_cons (ee_var 3) (ek_cons (ee_var 7) ek_nil))) (kb_moved_by_0_point_way T.u_moved_by) ) (ea_cons (ee_callK0 O.toOkx d_half_way rfl (by exact (ek_cons (ee_var 3) (ek_cons (ee_var 4) ek_nil))) (kb_half_way_0_one_other T.u_half_way) ) (ea_cons (ee_call O.toOkx d_half_way rfl (ea_cons (ee_var 4) (ea_cons (ee_var 3) ea_nil)) ) (ea_cons (ee_call O.toOkx d_point rfl (ea_cons (ee_ix (ee_call O.toOkx d_place rfl (ea_cons (ee_var 5) ea_nil) ) ee_int) (ea_cons (ee_ix (ee_call O.toOkx d_place rfl (ea_cons (ee_var 5) ea_nil) ) ee_int) (ea_cons (ee_ix (ee_call O.toOkx d_place rfl (ea_cons (ee_var 5) ea_nil) ) ee_int) ea_nil))) ) ea_nil)))))))
     (ess_cons (es_set 9 O.toOkx.nd (ee_call O.toOkx d_moved_by rfl (ea_cons (ee_var 3) (ea_cons (ee_callTy cd_tuple rfl T.n_tuple (by decide +kernel) (ea_cons (ee_lc [("own", 11)] O.toOkx.calm O.toOkx.nd (ei_of (ee_var 7)) (by first | rfl | kernel_rfl) (fun s H C cl fp => (en_name 11 (okx_blk O.toOkx).nd)) (fun s H C cl fp => ets_nil) (fun s H C cl fp => (ee_call (okx_blk O.toOkx) d__law_times rfl (ea_cons (ee_var 11) (ea_cons (ee_tup (ea_cons ee_int (ea_cons ee_int ea_nil))) ea_nil)) ))) ea_nil)) ea_nil)) ))
     (ess_cons (es_if (et_not (et_truth (ee_call O.toOkx d__law_same rfl (ea_cons (ee_var 8) (ea_cons (ee_lst (ea_cons (ee_callTy cd_tuple rfl T.n_tuple (by decide +kernel) (ea_cons (ee_lc [("own", 11)] O.toOkx.calm O.toOkx.nd (ei_of (ee_sl (ee_var 3) eo_none (eo_some ee_int))) (by first | rfl | kernel_rfl) (fun s H C cl fp => (en_name 11 (okx_blk O.toOkx).nd)) (fun s H C cl fp => ets_nil) (fun s H C cl fp => (ee_call (okx_blk O.toOkx) d__law_low rfl (ea_cons (ee_var 11) (ea_cons (ee_ix (ee_var 3) ee_int) ea_nil)) ))) ea_nil)) (ea_cons (ee_var 4) (ea_cons (ee_var 9) (ea_cons (ee_var 9) (ea_cons (ee_var 5) ea_nil)))))) ea_nil)) ))) (ess_one (es_ret ee_bl)) ess_nil)
     (ess_cons (es_set 10 O.toOkx.nd (ee_tup (ea_cons ee_int (ea_cons ee_int ea_nil))))
     (ess_cons (es_for O.po O.toOkx.calm (ei_of (ee_var 7)) (en_name 11 O.toOkx.nd) (ess_one (es_set 10 O.toOkx.nd (ee_callK0 O.toOkx d_added rfl (by exact (ek_cons (ee_var 10) (ek_cons (ee_call O.toOkx d_times rfl (ea_cons (ee_var 11) (ea_cons (ee_var 11) ea_nil)) ) ek_nil))) (kb_added_0_one_other T.u_added) ))))
     (ess_cons (es_if (et_not (et_truth (ee_call O.toOkx d__law_same rfl (ea_cons (ee_lst (ea_cons (ee_callK0 O.toOkx d_square_between rfl (by exact (ek_cons (ee_var 3) (ek_cons (ee_var 4) ek_nil))) (kb_square_between_0_one_other T.u_square_between) ) (ea_cons (ee_call O.toOkx d_square_between rfl (ea_cons (ee_var 4) (ea_cons (ee_var 3) ea_nil)) ) (ea_cons (ee_call O.toOkx d_square_between rfl (ea_cons (ee_var 3) (ea_cons (ee_var 9) ea_nil)) ) ea_nil)))) (ea_cons (ee_lst (ea_cons (ee_var 10) (ea_cons (ee_var 10) (ea_cons (ee_call O.toOkx d__law_times rfl (ea_cons (ee_var 10) (ea_cons (ee_tup (ea_cons ee_int (ea_cons ee_int ea_nil))) ea_nil)) ) ea_nil)))) ea_nil)) ))) (ess_one (es_ret ee_bl)) ess_nil)
     (ess_cons (es_set 12 O.toOkx.nd (ee_call O.toOkx d__law_heard rfl (ea_cons (ee_obj rfl T.g_direction_between) (ea_cons (ee_tup (ea_cons (ee_var 3) (ea_cons (ee_var 4) ea_nil))) ea_nil)) ))
     (ess_cons (es_if (et_cmp (od_eq O.toOkx.room.units) (ee_var 3) (ee_var 4) (nomark _)) (ess_one (es_if (et_cmp (od_ne O.toOkx.room.units) (ee_var 12) (ee_lst (ea_cons ee_str (ea_cons ee_bl ea_nil))) (nomark _)) (ess_one (es_ret ee_bl)) ess_nil)) (ess_cons (es_set 13 O.toOkx.nd (ee_callK0 O.toOkx d_time_of rfl (by exact (ek_cons (ee_tup (ea_cons (ee_var 3) (ea_cons (ee_var 12) ea_nil))) (ek_cons (ee_var 4) ek_nil))) (kb_time_of_0_ray_point T.u_time_of) ))
      (ess_cons (es_if (EW.et (ew_or (et_cmp (od_ne O.toOkx.room.units) (ee_call O.toOkx d_place_at rfl (ea_cons (ee_tup (ea_cons (ee_var 3) (ea_cons (ee_var 12) ea_nil))) (ea_cons (ee_var 13) ea_nil)) ) (ee_var 4) (nomark _)) (ew_or (et_cmp od_le (ee_ix (ee_var 13) ee_int) ee_int (nomark _)) (ew_or1 (et_cmp (od_ne O.toOkx.room.units) (ee_callK0 O.toOkx d_least_direction rfl (by exact (ek_cons (ee_callTy cd_tuple rfl T.n_tuple (by decide +kernel) (ea_cons (ee_lc [("own", 11)] O.toOkx.calm O.toOkx.nd (ei_of (ee_var 12)) (by first | rfl | kernel_rfl) (fun s H C cl fp => (en_name 11 (okx_blk O.toOkx).nd)) (fun s H C cl fp => ets_nil) (fun s H C cl fp => (ee_op od_mul0 ee_int (ee_var 11)))) ea_nil)) ek_nil)) (kb_least_direction_0_direction T.u_least_direction) ) (ee_var 12) (nomark _)))))) (ess_one (es_ret ee_bl)) ess_nil)
      (ess_cons (es_if (et_cmp (od_ne O.toOkx.room.units) (ee_call O.toOkx d_direction_between rfl (ea_cons (ee_var 4) (ea_cons (ee_var 3) ea_nil)) ) (ee_callTy cd_tuple rfl T.n_tuple (by decide +kernel) (ea_cons (ee_lc [("own", 11)] O.toOkx.calm O.toOkx.nd (ei_of (ee_var 12)) (by first | rfl | kernel_rfl) (fun s H C cl fp => (en_name 11 (okx_blk O.toOkx).nd)) (fun s H C cl fp => ets_nil) (fun s H C cl fp => (ee_op od_sub ee_int (ee_var 11)))) ea_nil)) (nomark _)) (ess_one (es_ret ee_bl)) ess_nil)
      (ess_one (es_if (EW.et (ew_or (et_cmp (od_ne O.toOkx.room.units) (ee_callK0 O.toOkx d_place_at rfl (by exact (ek_cons (ee_tup (ea_cons (ee_var 3) (ea_cons (ee_var 12) ea_nil))) (ek_cons (ee_call O.toOkx d__law_times rfl (ea_cons (ee_var 13) (ea_cons (ee_tup (ea_cons ee_int (ea_cons ee_int ea_nil))) ea_nil)) ) ek_nil))) (kb_place_at_0_ray_t T.u_place_at) ) (ee_var 9) (nomark _)) (ew_or1 (et_cmp (od_ne O.toOkx.room.units) (ee_call O.toOkx d_time_of rfl (ea_cons (ee_tup (ea_cons (ee_var 4) (ea_cons (ee_var 12) ea_nil))) (ea_cons (ee_var 3) ea_nil)) ) (ee_call O.toOkx d__law_minus rfl (ea_cons (ee_tup (ea_cons ee_int (ea_cons ee_int ea_nil))) (ea_cons (ee_var 13) ea_nil)) ) (nomark _))))) (ess_one (es_ret ee_bl)) ess_nil))))))
     (ess_cons (es_set 14 O.toOkx.nd (ee_call O.toOkx d__law_six rfl (ea_cons (ee_var 3) (ea_cons (ee_var 4) (ea_cons (ee_var 5) (ea_cons (ee_var 6) ea_nil)))) ))
     (ess_cons (es_set 8 O.toOkx.nd (ee_lst (ea_cons (ee_callK0 O.toOkx d_sixfold rfl (by exact (ek_cons (ee_var 3) (ek_cons (ee_var 4) (ek_cons (ee_var 5) (ek_cons (ee_var 6) ek_nil))))) (kb_sixfold_0_one_other_third_fourth T.u_sixfold) ) (ea_cons (ee_call O.toOkx d_sixfold rfl (ea_cons (ee_var 4) (ea_cons (ee_var 3) (ea_cons (ee_var 5) (ea_cons (ee_var 6) ea_nil)))) ) (ea_cons (ee_call O.toOkx d_sixfold rfl (ea_cons (ee_var 4) (ea_cons (ee_var 5) (ea_cons (ee_var 3) (ea_cons (ee_var 6) ea_nil)))) ) (ea_cons (ee_call O.toOkx d_sixfold rfl (ea_cons (ee_var 3) (ea_cons (ee_var 4) (ea_cons (ee_var 6) (ea_cons (ee_var 5) ea_nil)))) ) (ea_cons (ee_call O.toOkx d_sixfold rfl (ea_cons (ee_var 3) (ea_cons (ee_var 3) (ea_cons (ee_var 5) (ea_cons (ee_var 6) ea_nil)))) ) ea_nil)))))))
     (ess_cons (es_if (et_not (et_truth (ee_call O.toOkx d__law_same rfl (ea_cons (ee_var 8) (ea_cons (ee_lst (ea_cons (ee_var 14) (ea_cons (ee_call O.toOkx d__law_minus rfl (ea_cons (ee_tup (ea_cons ee_int (ea_cons ee_int ea_nil))) (ea_cons (ee_var 14) ea_nil)) ) (ea_cons (ee_var 14) (ea_cons (ee_call O.toOkx d__law_minus rfl (ea_cons (ee_tup (ea_cons ee_int (ea_cons ee_int ea_nil))) (ea_cons (ee_var 14) ea_nil)) ) (ea_cons (ee_tup (ea_cons ee_int (ea_cons ee_int ea_nil))) ea_nil)))))) ea_nil)) ))) (ess_one (es_ret ee_bl)) ess_nil)
     (ess_cons (es_nt (ee_tup (ea_cons (ee_call O.toOkx d__law_way rfl (ea_cons (ee_var 3) (ea_cons (ee_var 4) ea_nil)) ) (ea_cons (ee_call O.toOkx d__law_way rfl (ea_cons (ee_var 3) (ea_cons (ee_var 5) ea_nil)) ) ea_nil))) (en_tup O.toOkx.calm (ens_cons (en_name 15 O.toOkx.nd) (ens_cons (en_name 16 O.toOkx.nd) ens_nil))))
     (ess_cons (es_set 17 O.toOkx.nd (ee_cmp (od_eq O.toOkx.room.units) (ee_lc [("k", 22)] O.toOkx.calm O.toOkx.nd (ei_range1 rfl T.n_range (ea_cons ee_int ea_nil)) (by first | rfl | kernel_rfl) (fun s H C cl fp => (en_name 22 (okx_blk O.toOkx).nd)) (fun s H C cl fp => (ets_one (et_cmp (od_ne (okx_blk O.toOkx).room.units) (ee_ix (ee_call (okx_blk O.toOkx) d__law_minus rfl (ea_cons (ee_call (okx_blk O.toOkx) d__law_times rfl (ea_cons (ee_ix (ee_var 15) (ee_op od_sub (ee_var 22) ee_int)) (ea_cons (ee_ix (ee_var 16) (ee_op od_sub (ee_var 22) ee_int)) ea_nil)) ) (ea_cons (ee_call (okx_blk O.toOkx) d__law_times rfl (ea_cons (ee_ix (ee_var 15) (ee_op od_sub (ee_var 22) ee_int)) (ea_cons (ee_ix (ee_var 16) (ee_op od_sub (ee_var 22) ee_int)) ea_nil)) ) ea_nil)) ) ee_int) ee_int (nomark _)))) (fun s H C cl fp => ee_int)) (ee_lst ea_nil) (nomark _)))
     (ess_cons (es_set 18 O.toOkx.nd (ee_call O.toOkx d__law_heard rfl (ea_cons (ee_obj rfl T.g_plane_through) (ea_cons (ee_tup (ea_cons (ee_var 3) (ea_cons (ee_var 4) (ea_cons (ee_var 5) ea_nil)))) ea_nil)) ))
     (ess_cons (es_if (EW.et (ew_or (et_cmp (od_ne O.toOkx.room.units) (ee_callK0 O.toOkx d_on_one_line rfl (by exact (ek_cons (ee_var 3) (ek_cons (ee_var 4) (ek_cons (ee_var 5) ek_nil)))) (kb_on_one_line_0_one_other_third T.u_on_one_line) ) (ee_var 17) (nomark _)) (ew_or1 (et_cmp (od_ne O.toOkx.room.units) (ee_cmp (od_eq O.toOkx.room.units) (ee_var 18) (ee_lst (ea_cons ee_str (ea_cons ee_bl ea_nil))) (nomark _)) (ee_var 17) (nomark _))))) (ess_one (es_ret ee_bl)) ess_nil)
     (ess_cons (es_if (et_not (et_truth (ee_var 17))) (ess_cons (es_set 8 O.toOkx.nd (ee_lst (ea_cons (ee_call O.toOkx d_plane_through rfl (ea_cons (ee_var 4) (ea_cons (ee_var 5) (ea_cons (ee_var 3) ea_nil))) ) (ea_cons (ee_callK0 O.toOkx d_plane_through rfl (by exact (ek_cons (ee_var 4) (ek_cons (ee_var 3) (ek_cons (ee_var 5) ek_nil)))) (kb_plane_through_0_one_other_third T.u_plane_through) ) (ea_cons (ee_lc [("own", 11)] O.toOkx.calm O.toOkx.nd (ei_of (ee_tup (ea_cons (ee_var 3) (ea_cons (ee_var 4) (ea_cons (ee_var 5) ea_nil))))) (by first | rfl | kernel_rfl) (fun s H C cl fp => (en_name 11 (okx_blk O.toOkx).nd)) (fun s H C cl fp => ets_nil) (fun s H C cl fp => (ee_call (okx_blk O.toOkx) d_side rfl (ea_cons (ee_var 18) (ea_cons (ee_tup (ea_cons (ee_tup ea_nil) (ea_cons (ee_var 11) ea_nil))) ea_nil)) ))) (ea_cons (ee_call O.toOkx d_side rfl (ea_cons (ee_var 18) (ea_cons (ee_tup (ea_cons (ee_tup ea_nil) (ea_cons (ee_var 6) ea_nil))) ea_nil)) ) ea_nil))))))
      (ess_one (es_if (et_not (et_truth (ee_call O.toOkx d__law_same rfl (ea_cons (ee_var 8) (ea_cons (ee_lst (ea_cons (ee_var 18) (ea_cons (ee_call O.toOkx d_contrary rfl (ea_cons (ee_var 18) ea_nil) ) (ea_cons (ee_lst (ea_cons ee_int (ea_cons ee_int (ea_cons ee_int ea_nil)))) (ea_cons (ee_call O.toOkx d_compared rfl (ea_cons (ee_var 14) (ea_cons (ee_tup (ea_cons ee_int (ea_cons ee_int ea_nil))) ea_nil)) ) ea_nil))))) ea_nil)) ))) (ess_one (es_ret ee_bl)) ess_nil))) ess_nil)
     (ess_cons (es_par 19 20 O.toOkx.calm O.toOkx.nd (ea_cons (ee_callTy cd_tuple rfl T.n_tuple (by decide +kernel) (ea_cons (ee_lc [("k", 22)] O.toOkx.calm O.toOkx.nd (ei_range1 rfl T.n_range (ea_cons ee_int ea_nil)) (by first | rfl | kernel_rfl) (fun s H C cl fp => (en_name 22 (okx_blk O.toOkx).nd)) (fun s H C cl fp => ets_nil) (fun s H C cl fp => (ee_op od_sub (ee_call (okx_blk O.toOkx) d__law_take rfl (ea_cons (ee_var 1) (ea_cons ee_int ea_nil)) ) ee_int))) ea_nil)) (ea_cons (ee_callTy cd_tuple rfl T.n_tuple (by decide +kernel) (ea_cons (ee_lc [("k", 22)] O.toOkx.calm O.toOkx.nd (ei_range1 rfl T.n_range (ea_cons ee_int ea_nil)) (by first | rfl | kernel_rfl) (fun s H C cl fp => (en_name 22 (okx_blk O.toOkx).nd)) (fun s H C cl fp => ets_nil) (fun s H C cl fp => (ee_op od_sub (ee_call (okx_blk O.toOkx) d__law_take rfl (ea_cons (ee_var 1) (ea_cons ee_int ea_nil)) ) ee_int))) ea_nil)) ea_nil)))
     (ess_cons (es_set 21 O.toOkx.nd (ee_callK0 O.toOkx d_cross rfl (by exact (ek_cons (ee_var 19) (ek_cons (ee_var 20) ek_nil))) (kb_cross_0_near_far T.u_cross) ))
     (ess_cons (es_if (et_not (et_truth (ee_call O.toOkx d__law_same rfl (ea_cons (ee_lst (ea_cons (ee_callK0 O.toOkx d_dot rfl (by exact (ek_cons (ee_var 19) (ek_cons (ee_var 21) ek_nil))) (kb_dot_0_near_far T.u_dot) ) (ea_cons (ee_call O.toOkx d_dot rfl (ea_cons (ee_var 21) (ea_cons (ee_var 20) ea_nil)) ) (ea_cons (ee_call O.toOkx d_cross rfl (ea_cons (ee_var 20) (ea_cons (ee_var 19) ea_nil)) ) (ea_cons (ee_call O.toOkx d_dot rfl (ea_cons (ee_var 21) (ea_cons (ee_var 21) ea_nil)) ) ea_nil))))) (ea_cons (ee_lst (ea_cons ee_int (ea_cons ee_int (ea_cons (ee_callTy cd_tuple rfl T.n_tuple (by decide +kernel) (ea_cons (ee_lc [("own", 11)] O.toOkx.calm O.toOkx.nd (ei_of (ee_var 21)) (by first | rfl | kernel_rfl) (fun s H C cl fp => (en_name 11 (okx_blk O.toOkx).nd)) (fun s H C cl fp => ets_nil) (fun s H C cl fp => (ee_op od_sub ee_int (ee_var 11)))) ea_nil)) (ea_cons (ee_op od_sub (ee_op od_mul0 (ee_call O.toOkx d_dot rfl (ea_cons (ee_var 19) (ea_cons (ee_var 19) ea_nil)) ) (ee_call O.toOkx d_dot rfl (ea_cons (ee_var 20) (ea_cons (ee_var 20) ea_nil)) )) (ee_op od_mul0 (ee_call O.toOkx d_dot rfl (ea_cons (ee_var 19) (ea_cons (ee_var 20) ea_nil)) ) (ee_call O.toOkx d_dot rfl (ea_cons (ee_var 19) (ea_cons (ee_var 20) ea_nil)) ))) ea_nil))))) ea_nil)) ))) (ess_one (es_ret ee_bl)) ess_nil)
     (ess_one (es_if (et_cmp (od_ne O.toOkx.room.units) (ee_call O.toOkx d_less rfl (ea_cons (ee_call O.toOkx d_added rfl (ea_cons (ee_var 14) (ea_cons (ee_var 10) ea_nil)) ) (ea_cons (ee_var 10) ea_nil)) ) (ee_var 14) (nomark _)) (ess_one (es_ret ee_bl)) ess_nil))))))))))))))))))))))))
    (ess_one (es_ret ee_bl))))
theorem held (T : Tx A fd K mg) (d_direction_between : Dfn P w K mg base "direction_between" (A "direction_between") (fd "direction_between") ["one", "other"] 6 (F_direction_between A)) (d_plane_through : Dfn P w K mg base "plane_through" (A "plane_through") (fd "plane_through") ["one", "other", "third"] 6 (F_plane_through A)) : HeldAll P w K mg base 6 (tb A) := by
  intro p hp
  simp only [tb, List.mem_cons, List.not_mem_nil, or_false] at hp
  rcases hp with rfl | rfl
  · exact ⟨⟨_, _, _, _, by decide, d_direction_between⟩⟩
  · exact ⟨⟨_, _, _, _, by decide, d_plane_through⟩⟩
theorem d_all (T : Tx A fd K mg) : Dfn P w K mg base "law" (A "law") (fd "law") ["script"] 9 (F_law A) := by
  have d_is_number := d_is_number (P := P) (w := w) (base := base) T 
  have d_is_from := d_is_from (P := P) (w := w) (base := base) T d_is_number
  have d_is_long := d_is_long (P := P) (w := w) (base := base) T 
  have d_tupled := d_tupled (P := P) (w := w) (base := base) T  4
  have d_is_row := d_is_row (P := P) (w := w) (base := base) T d_is_long d_is_number
  have d_divisor := d_divisor (P := P) (w := w) (base := base) T 
  have d_is_fraction := d_is_fraction (P := P) (w := w) (base := base) T d_divisor d_is_long d_is_number d_is_from
  have d_sure_fraction := d_sure_fraction (P := P) (w := w) (base := base) T d_is_fraction d_tupled
  have d_made := d_made (P := P) (w := w) (base := base) T d_divisor
  have d_two := d_two (P := P) (w := w) (base := base) T d_sure_fraction
  have d_added := d_added (P := P) (w := w) (base := base) T d_made d_two
  have d_less := d_less (P := P) (w := w) (base := base) T d_made d_two
  have d_times := d_times (P := P) (w := w) (base := base) T d_made d_two
  have d_compared := d_compared (P := P) (w := w) (base := base) T d_two
  have d_is_point := d_is_point (P := P) (w := w) (base := base) T d_is_row d_is_from d_divisor
  have d_is_direction := d_is_direction (P := P) (w := w) (base := base) T d_is_row
  have d_is_ray := d_is_ray (P := P) (w := w) (base := base) T d_is_long d_is_point d_is_direction
  have d_sure_point := d_sure_point (P := P) (w := w) (base := base) T d_is_point d_tupled
  have d_sure_direction := d_sure_direction (P := P) (w := w) (base := base) T d_is_direction d_tupled
  have d_sure_ray := d_sure_ray (P := P) (w := w) (base := base) T d_is_ray d_tupled
  have d_parted := d_parted (P := P) (w := w) (base := base) T d_divisor
  have d_spot := d_spot (P := P) (w := w) (base := base) T d_parted
  have d_point := d_point (P := P) (w := w) (base := base) T d_spot d_sure_fraction
  have d_place := d_place (P := P) (w := w) (base := base) T d_made d_sure_point
  have d_cross := d_cross (P := P) (w := w) (base := base) T 
  have d_dot := d_dot (P := P) (w := w) (base := base) T 
  have d_least_direction := d_least_direction (P := P) (w := w) (base := base) T d_parted d_sure_direction
  have d_way_between := d_way_between (P := P) (w := w) (base := base) T 
  have d_direction_between := d_direction_between (P := P) (w := w) (base := base) T d_parted d_way_between d_sure_point
  have d_moved_by := d_moved_by (P := P) (w := w) (base := base) T d_spot d_sure_fraction d_is_long d_tupled d_sure_point
  have d_half_way := d_half_way (P := P) (w := w) (base := base) T d_spot d_sure_point
  have d_square_between := d_square_between (P := P) (w := w) (base := base) T d_made d_dot d_way_between d_sure_point
  have d_place_at := d_place_at (P := P) (w := w) (base := base) T d_spot d_sure_fraction d_sure_ray
  have d_time_of := d_time_of (P := P) (w := w) (base := base) T d_made d_cross d_way_between d_sure_point d_sure_ray
  have d_upright := d_upright (P := P) (w := w) (base := base) T d_cross d_way_between
  have d_on_one_line := d_on_one_line (P := P) (w := w) (base := base) T d_upright d_sure_point
  have d_plane_through := d_plane_through (P := P) (w := w) (base := base) T d_parted d_dot d_upright d_sure_point
  have d_sixfold := d_sixfold (P := P) (w := w) (base := base) T d_made d_dot d_way_between d_upright d_sure_point
  have d_is_wall := d_is_wall (P := P) (w := w) (base := base) T d_divisor d_is_number
  have d_sure_wall := d_sure_wall (P := P) (w := w) (base := base) T d_is_wall d_tupled
  have d_are_values := d_are_values (P := P) (w := w) (base := base) T d_is_fraction
  have d_sure_values := d_sure_values (P := P) (w := w) (base := base) T d_are_values d_tupled
  have d_sure_case := d_sure_case (P := P) (w := w) (base := base) T d_sure_values d_is_long d_is_point d_tupled
  have d_other_side := d_other_side (P := P) (w := w) (base := base) T 
  have d_contrary := d_contrary (P := P) (w := w) (base := base) T d_other_side d_sure_wall
  have d_sum_at := d_sum_at (P := P) (w := w) (base := base) T 
  have d_beyond := d_beyond (P := P) (w := w) (base := base) T d_sum_at
  have d_side_in := d_side_in (P := P) (w := w) (base := base) T d_beyond
  have d_side := d_side (P := P) (w := w) (base := base) T d_side_in d_sure_case d_sure_wall
  have d__law_box := d__law_box (P := P) (w := w) (base := base) T 
  have d__law_take := d__law_take (P := P) (w := w) (base := base) T 
  have d__law_cells := d__law_cells (P := P) (w := w) (base := base) T 
  have d__law_same := d__law_same (P := P) (w := w) (base := base) T  5
  have d__law_least := d__law_least (P := P) (w := w) (base := base) T 
  have d__law_spot := d__law_spot (P := P) (w := w) (base := base) T d__law_least d__law_take
  have d__law_low := d__law_low (P := P) (w := w) (base := base) T 
  have d__law_times := d__law_times (P := P) (w := w) (base := base) T d__law_low
  have d__law_call := d__law_call (P := P) (w := w) (base := base) T  (held T d_direction_between d_plane_through)
  have d__law_plus := d__law_plus (P := P) (w := w) (base := base) T d__law_low
  have d__law_minus := d__law_minus (P := P) (w := w) (base := base) T d__law_plus
  have d__law_heard := d__law_heard (P := P) (w := w) (base := base) T d__law_call
  have d__law_way := d__law_way (P := P) (w := w) (base := base) T d__law_minus d__law_low
  have d__law_six := d__law_six (P := P) (w := w) (base := base) T d__law_plus d__law_times d__law_minus d__law_way
  have d_law := d_law (P := P) (w := w) (base := base) T d_less d_added d__law_same d_dot d_cross d__law_take d_compared d_contrary d_side d_plane_through d_on_one_line d__law_heard d__law_minus d__law_times d__law_way d_sixfold d__law_six d_place_at d_time_of d_direction_between d_least_direction d_square_between d_times d__law_low d_moved_by d_point d_place d_half_way d__law_spot d__law_box d__law_cells
  exact d_law
end
/-! the head -/
def adr (mg : Str → Option Value) (x : Str) : Addr := match mg x with | some (.ref a) => a | _ => 0
def fdo (K : PySem.W.Frag) (mg : Str → Option Value) (x : Str) : FuncData := match K.lookup (adr mg x) with | some ⟨_, _, .func f, _⟩ => f | _ => PySem.W.fnOf x x (defArgs (.Pass ⟨0, 0, 0, 0⟩)) [] (defScope (.Pass ⟨0, 0, 0, 0⟩)) .none .none .none .none none .none .none
theorem fun_of {K : PySem.W.Frag} {h : Heap} {mg : Str → Option Value} {x : Str} {st : Stmt} {f : Addr} {oc : Value} {od an : Option Addr} {osl : Array (Option Value)} {kV doc pm cdv ct : Value} (X : K.In h) (G : h.Ns mainGlobals mg) (a : PySem.W.nsIn K mainGlobals x = some (some (.ref f)))
    (l : K.lookup f = some ⟨oc, od, .func (PySem.W.fnOf x x (defArgs st) (defBody st) (defScope st) .none kV doc pm an cdv ct), osl⟩) (c : PySem.W.codeIn K cdv x = true) (k : PySem.W.keepIn K (.ref f) = true) : mg x = some (.ref (adr mg x)) ∧ Fun K x x st (adr mg x) (fdo K mg x) := by
  have e := PySem.W.mg_of X G a
  have ea : adr mg x = f := by unfold adr; rw [e]
  have ef : fdo K mg x = PySem.W.fnOf x x (defArgs st) (defBody st) (defScope st) .none kV doc pm an cdv ct := by unfold fdo; rw [ea, l]
  rw [ea, ef]
  exact ⟨e, fun_mk l c k⟩
theorem tx_mk {K : PySem.W.Frag} {h : Heap} {mg : Str → Option Value} (X : K.In h) (G : h.Ns mainGlobals mg)
  {oc_is_number : Value} {od_is_number an_is_number : Option Addr} {sl_is_number : Array (Option Value)} {kV_is_number dc_is_number pm_is_number cd_is_number ct_is_number : Value} {f_is_number : Addr}
  {oc_is_from : Value} {od_is_from an_is_from : Option Addr} {sl_is_from : Array (Option Value)} {kV_is_from dc_is_from pm_is_from cd_is_from ct_is_from : Value} {f_is_from : Addr}
  {oc_is_long : Value} {od_is_long an_is_long : Option Addr} {sl_is_long : Array (Option Value)} {kV_is_long dc_is_long pm_is_long cd_is_long ct_is_long : Value} {f_is_long : Addr}
  {oc_tupled : Value} {od_tupled an_tupled : Option Addr} {sl_tupled : Array (Option Value)} {kV_tupled dc_tupled pm_tupled cd_tupled ct_tupled : Value} {f_tupled : Addr}
  {oc_is_row : Value} {od_is_row an_is_row : Option Addr} {sl_is_row : Array (Option Value)} {kV_is_row dc_is_row pm_is_row cd_is_row ct_is_row : Value} {f_is_row : Addr}
  {oc_divisor : Value} {od_divisor an_divisor : Option Addr} {sl_divisor : Array (Option Value)} {kV_divisor dc_divisor pm_divisor cd_divisor ct_divisor : Value} {f_divisor : Addr}
  {oc_is_fraction : Value} {od_is_fraction an_is_fraction : Option Addr} {sl_is_fraction : Array (Option Value)} {kV_is_fraction dc_is_fraction pm_is_fraction cd_is_fraction ct_is_fraction : Value} {f_is_fraction : Addr}
  {oc_sure_fraction : Value} {od_sure_fraction an_sure_fraction : Option Addr} {sl_sure_fraction : Array (Option Value)} {kV_sure_fraction dc_sure_fraction pm_sure_fraction cd_sure_fraction ct_sure_fraction : Value} {f_sure_fraction : Addr}
  {oc_made : Value} {od_made an_made : Option Addr} {sl_made : Array (Option Value)} {kV_made dc_made pm_made cd_made ct_made : Value} {f_made : Addr}
  {oc_two : Value} {od_two an_two : Option Addr} {sl_two : Array (Option Value)} {kV_two dc_two pm_two cd_two ct_two : Value} {f_two : Addr}
  {oc_added : Value} {od_added an_added : Option Addr} {sl_added : Array (Option Value)} {kV_added dc_added pm_added cd_added ct_added : Value} {f_added : Addr}
  {oc_less : Value} {od_less an_less : Option Addr} {sl_less : Array (Option Value)} {kV_less dc_less pm_less cd_less ct_less : Value} {f_less : Addr}
  {oc_times : Value} {od_times an_times : Option Addr} {sl_times : Array (Option Value)} {kV_times dc_times pm_times cd_times ct_times : Value} {f_times : Addr}
  {oc_compared : Value} {od_compared an_compared : Option Addr} {sl_compared : Array (Option Value)} {kV_compared dc_compared pm_compared cd_compared ct_compared : Value} {f_compared : Addr}
  {oc_is_point : Value} {od_is_point an_is_point : Option Addr} {sl_is_point : Array (Option Value)} {kV_is_point dc_is_point pm_is_point cd_is_point ct_is_point : Value} {f_is_point : Addr}
  {oc_is_direction : Value} {od_is_direction an_is_direction : Option Addr} {sl_is_direction : Array (Option Value)} {kV_is_direction dc_is_direction pm_is_direction cd_is_direction ct_is_direction : Value} {f_is_direction : Addr}
  {oc_is_ray : Value} {od_is_ray an_is_ray : Option Addr} {sl_is_ray : Array (Option Value)} {kV_is_ray dc_is_ray pm_is_ray cd_is_ray ct_is_ray : Value} {f_is_ray : Addr}
  {oc_sure_point : Value} {od_sure_point an_sure_point : Option Addr} {sl_sure_point : Array (Option Value)} {kV_sure_point dc_sure_point pm_sure_point cd_sure_point ct_sure_point : Value} {f_sure_point : Addr}
  {oc_sure_direction : Value} {od_sure_direction an_sure_direction : Option Addr} {sl_sure_direction : Array (Option Value)} {kV_sure_direction dc_sure_direction pm_sure_direction cd_sure_direction ct_sure_direction : Value} {f_sure_direction : Addr}
  {oc_sure_ray : Value} {od_sure_ray an_sure_ray : Option Addr} {sl_sure_ray : Array (Option Value)} {kV_sure_ray dc_sure_ray pm_sure_ray cd_sure_ray ct_sure_ray : Value} {f_sure_ray : Addr}
  {oc_parted : Value} {od_parted an_parted : Option Addr} {sl_parted : Array (Option Value)} {kV_parted dc_parted pm_parted cd_parted ct_parted : Value} {f_parted : Addr}
  {oc_spot : Value} {od_spot an_spot : Option Addr} {sl_spot : Array (Option Value)} {kV_spot dc_spot pm_spot cd_spot ct_spot : Value} {f_spot : Addr}
  {oc_point : Value} {od_point an_point : Option Addr} {sl_point : Array (Option Value)} {kV_point dc_point pm_point cd_point ct_point : Value} {f_point : Addr}
  {oc_place : Value} {od_place an_place : Option Addr} {sl_place : Array (Option Value)} {kV_place dc_place pm_place cd_place ct_place : Value} {f_place : Addr}
  {oc_cross : Value} {od_cross an_cross : Option Addr} {sl_cross : Array (Option Value)} {kV_cross dc_cross pm_cross cd_cross ct_cross : Value} {f_cross : Addr}
  {oc_dot : Value} {od_dot an_dot : Option Addr} {sl_dot : Array (Option Value)} {kV_dot dc_dot pm_dot cd_dot ct_dot : Value} {f_dot : Addr}
  {oc_least_direction : Value} {od_least_direction an_least_direction : Option Addr} {sl_least_direction : Array (Option Value)} {kV_least_direction dc_least_direction pm_least_direction cd_least_direction ct_least_direction : Value} {f_least_direction : Addr}
  {oc_way_between : Value} {od_way_between an_way_between : Option Addr} {sl_way_between : Array (Option Value)} {kV_way_between dc_way_between pm_way_between cd_way_between ct_way_between : Value} {f_way_between : Addr}
  {oc_direction_between : Value} {od_direction_between an_direction_between : Option Addr} {sl_direction_between : Array (Option Value)} {kV_direction_between dc_direction_between pm_direction_between cd_direction_between ct_direction_between : Value} {f_direction_between : Addr}
  {oc_moved_by : Value} {od_moved_by an_moved_by : Option Addr} {sl_moved_by : Array (Option Value)} {kV_moved_by dc_moved_by pm_moved_by cd_moved_by ct_moved_by : Value} {f_moved_by : Addr}
  {oc_half_way : Value} {od_half_way an_half_way : Option Addr} {sl_half_way : Array (Option Value)} {kV_half_way dc_half_way pm_half_way cd_half_way ct_half_way : Value} {f_half_way : Addr}
  {oc_square_between : Value} {od_square_between an_square_between : Option Addr} {sl_square_between : Array (Option Value)} {kV_square_between dc_square_between pm_square_between cd_square_between ct_square_between : Value} {f_square_between : Addr}
  {oc_place_at : Value} {od_place_at an_place_at : Option Addr} {sl_place_at : Array (Option Value)} {kV_place_at dc_place_at pm_place_at cd_place_at ct_place_at : Value} {f_place_at : Addr}
  {oc_time_of : Value} {od_time_of an_time_of : Option Addr} {sl_time_of : Array (Option Value)} {kV_time_of dc_time_of pm_time_of cd_time_of ct_time_of : Value} {f_time_of : Addr}
  {oc_upright : Value} {od_upright an_upright : Option Addr} {sl_upright : Array (Option Value)} {kV_upright dc_upright pm_upright cd_upright ct_upright : Value} {f_upright : Addr}
  {oc_on_one_line : Value} {od_on_one_line an_on_one_line : Option Addr} {sl_on_one_line : Array (Option Value)} {kV_on_one_line dc_on_one_line pm_on_one_line cd_on_one_line ct_on_one_line : Value} {f_on_one_line : Addr}
  {oc_plane_through : Value} {od_plane_through an_plane_through : Option Addr} {sl_plane_through : Array (Option Value)} {kV_plane_through dc_plane_through pm_plane_through cd_plane_through ct_plane_through : Value} {f_plane_through : Addr}
  {oc_sixfold : Value} {od_sixfold an_sixfold : Option Addr} {sl_sixfold : Array (Option Value)} {kV_sixfold dc_sixfold pm_sixfold cd_sixfold ct_sixfold : Value} {f_sixfold : Addr}
  {oc_is_wall : Value} {od_is_wall an_is_wall : Option Addr} {sl_is_wall : Array (Option Value)} {kV_is_wall dc_is_wall pm_is_wall cd_is_wall ct_is_wall : Value} {f_is_wall : Addr}
  {oc_sure_wall : Value} {od_sure_wall an_sure_wall : Option Addr} {sl_sure_wall : Array (Option Value)} {kV_sure_wall dc_sure_wall pm_sure_wall cd_sure_wall ct_sure_wall : Value} {f_sure_wall : Addr}
  {oc_are_values : Value} {od_are_values an_are_values : Option Addr} {sl_are_values : Array (Option Value)} {kV_are_values dc_are_values pm_are_values cd_are_values ct_are_values : Value} {f_are_values : Addr}
  {oc_sure_values : Value} {od_sure_values an_sure_values : Option Addr} {sl_sure_values : Array (Option Value)} {kV_sure_values dc_sure_values pm_sure_values cd_sure_values ct_sure_values : Value} {f_sure_values : Addr}
  {oc_sure_case : Value} {od_sure_case an_sure_case : Option Addr} {sl_sure_case : Array (Option Value)} {kV_sure_case dc_sure_case pm_sure_case cd_sure_case ct_sure_case : Value} {f_sure_case : Addr}
  {oc_other_side : Value} {od_other_side an_other_side : Option Addr} {sl_other_side : Array (Option Value)} {kV_other_side dc_other_side pm_other_side cd_other_side ct_other_side : Value} {f_other_side : Addr}
  {oc_contrary : Value} {od_contrary an_contrary : Option Addr} {sl_contrary : Array (Option Value)} {kV_contrary dc_contrary pm_contrary cd_contrary ct_contrary : Value} {f_contrary : Addr}
  {oc_sum_at : Value} {od_sum_at an_sum_at : Option Addr} {sl_sum_at : Array (Option Value)} {kV_sum_at dc_sum_at pm_sum_at cd_sum_at ct_sum_at : Value} {f_sum_at : Addr}
  {oc_beyond : Value} {od_beyond an_beyond : Option Addr} {sl_beyond : Array (Option Value)} {kV_beyond dc_beyond pm_beyond cd_beyond ct_beyond : Value} {f_beyond : Addr}
  {oc_side_in : Value} {od_side_in an_side_in : Option Addr} {sl_side_in : Array (Option Value)} {kV_side_in dc_side_in pm_side_in cd_side_in ct_side_in : Value} {f_side_in : Addr}
  {oc_side : Value} {od_side an_side : Option Addr} {sl_side : Array (Option Value)} {kV_side dc_side pm_side cd_side ct_side : Value} {f_side : Addr}
  {oc__law_box : Value} {od__law_box an__law_box : Option Addr} {sl__law_box : Array (Option Value)} {kV__law_box dc__law_box pm__law_box cd__law_box ct__law_box : Value} {f__law_box : Addr}
  {oc__law_take : Value} {od__law_take an__law_take : Option Addr} {sl__law_take : Array (Option Value)} {kV__law_take dc__law_take pm__law_take cd__law_take ct__law_take : Value} {f__law_take : Addr}
  {oc__law_cells : Value} {od__law_cells an__law_cells : Option Addr} {sl__law_cells : Array (Option Value)} {kV__law_cells dc__law_cells pm__law_cells cd__law_cells ct__law_cells : Value} {f__law_cells : Addr}
  {oc__law_same : Value} {od__law_same an__law_same : Option Addr} {sl__law_same : Array (Option Value)} {kV__law_same dc__law_same pm__law_same cd__law_same ct__law_same : Value} {f__law_same : Addr}
  {oc__law_least : Value} {od__law_least an__law_least : Option Addr} {sl__law_least : Array (Option Value)} {kV__law_least dc__law_least pm__law_least cd__law_least ct__law_least : Value} {f__law_least : Addr}
  {oc__law_spot : Value} {od__law_spot an__law_spot : Option Addr} {sl__law_spot : Array (Option Value)} {kV__law_spot dc__law_spot pm__law_spot cd__law_spot ct__law_spot : Value} {f__law_spot : Addr}
  {oc__law_low : Value} {od__law_low an__law_low : Option Addr} {sl__law_low : Array (Option Value)} {kV__law_low dc__law_low pm__law_low cd__law_low ct__law_low : Value} {f__law_low : Addr}
  {oc__law_times : Value} {od__law_times an__law_times : Option Addr} {sl__law_times : Array (Option Value)} {kV__law_times dc__law_times pm__law_times cd__law_times ct__law_times : Value} {f__law_times : Addr}
  {oc__law_call : Value} {od__law_call an__law_call : Option Addr} {sl__law_call : Array (Option Value)} {kV__law_call dc__law_call pm__law_call cd__law_call ct__law_call : Value} {f__law_call : Addr}
  {oc__law_plus : Value} {od__law_plus an__law_plus : Option Addr} {sl__law_plus : Array (Option Value)} {kV__law_plus dc__law_plus pm__law_plus cd__law_plus ct__law_plus : Value} {f__law_plus : Addr}
  {oc__law_minus : Value} {od__law_minus an__law_minus : Option Addr} {sl__law_minus : Array (Option Value)} {kV__law_minus dc__law_minus pm__law_minus cd__law_minus ct__law_minus : Value} {f__law_minus : Addr}
  {oc__law_heard : Value} {od__law_heard an__law_heard : Option Addr} {sl__law_heard : Array (Option Value)} {kV__law_heard dc__law_heard pm__law_heard cd__law_heard ct__law_heard : Value} {f__law_heard : Addr}
  {oc__law_way : Value} {od__law_way an__law_way : Option Addr} {sl__law_way : Array (Option Value)} {kV__law_way dc__law_way pm__law_way cd__law_way ct__law_way : Value} {f__law_way : Addr}
  {oc__law_six : Value} {od__law_six an__law_six : Option Addr} {sl__law_six : Array (Option Value)} {kV__law_six dc__law_six pm__law_six cd__law_six ct__law_six : Value} {f__law_six : Addr}
  {oc_law : Value} {od_law an_law : Option Addr} {sl_law : Array (Option Value)} {kV_law dc_law pm_law cd_law ct_law : Value} {f_law : Addr}
  (a_is_number : PySem.W.nsIn K mainGlobals "is_number" = some (some (.ref f_is_number))) (l_is_number : K.lookup f_is_number = some ⟨oc_is_number, od_is_number, .func (PySem.W.fnOf "is_number" "is_number" (defArgs s_is_number) (defBody s_is_number) (defScope s_is_number) .none kV_is_number dc_is_number pm_is_number an_is_number cd_is_number ct_is_number), sl_is_number⟩) (c_is_number : PySem.W.codeIn K cd_is_number "is_number" = true) (k_is_number : PySem.W.keepIn K (.ref f_is_number) = true)
  (a_is_from : PySem.W.nsIn K mainGlobals "is_from" = some (some (.ref f_is_from))) (l_is_from : K.lookup f_is_from = some ⟨oc_is_from, od_is_from, .func (PySem.W.fnOf "is_from" "is_from" (defArgs s_is_from) (defBody s_is_from) (defScope s_is_from) .none kV_is_from dc_is_from pm_is_from an_is_from cd_is_from ct_is_from), sl_is_from⟩) (c_is_from : PySem.W.codeIn K cd_is_from "is_from" = true) (k_is_from : PySem.W.keepIn K (.ref f_is_from) = true)
  (a_is_long : PySem.W.nsIn K mainGlobals "is_long" = some (some (.ref f_is_long))) (l_is_long : K.lookup f_is_long = some ⟨oc_is_long, od_is_long, .func (PySem.W.fnOf "is_long" "is_long" (defArgs s_is_long) (defBody s_is_long) (defScope s_is_long) .none kV_is_long dc_is_long pm_is_long an_is_long cd_is_long ct_is_long), sl_is_long⟩) (c_is_long : PySem.W.codeIn K cd_is_long "is_long" = true) (k_is_long : PySem.W.keepIn K (.ref f_is_long) = true)
  (a_tupled : PySem.W.nsIn K mainGlobals "tupled" = some (some (.ref f_tupled))) (l_tupled : K.lookup f_tupled = some ⟨oc_tupled, od_tupled, .func (PySem.W.fnOf "tupled" "tupled" (defArgs s_tupled) (defBody s_tupled) (defScope s_tupled) .none kV_tupled dc_tupled pm_tupled an_tupled cd_tupled ct_tupled), sl_tupled⟩) (c_tupled : PySem.W.codeIn K cd_tupled "tupled" = true) (k_tupled : PySem.W.keepIn K (.ref f_tupled) = true)
  (a_is_row : PySem.W.nsIn K mainGlobals "is_row" = some (some (.ref f_is_row))) (l_is_row : K.lookup f_is_row = some ⟨oc_is_row, od_is_row, .func (PySem.W.fnOf "is_row" "is_row" (defArgs s_is_row) (defBody s_is_row) (defScope s_is_row) .none kV_is_row dc_is_row pm_is_row an_is_row cd_is_row ct_is_row), sl_is_row⟩) (c_is_row : PySem.W.codeIn K cd_is_row "is_row" = true) (k_is_row : PySem.W.keepIn K (.ref f_is_row) = true)
  (a_divisor : PySem.W.nsIn K mainGlobals "divisor" = some (some (.ref f_divisor))) (l_divisor : K.lookup f_divisor = some ⟨oc_divisor, od_divisor, .func (PySem.W.fnOf "divisor" "divisor" (defArgs s_divisor) (defBody s_divisor) (defScope s_divisor) .none kV_divisor dc_divisor pm_divisor an_divisor cd_divisor ct_divisor), sl_divisor⟩) (c_divisor : PySem.W.codeIn K cd_divisor "divisor" = true) (k_divisor : PySem.W.keepIn K (.ref f_divisor) = true)
  (a_is_fraction : PySem.W.nsIn K mainGlobals "is_fraction" = some (some (.ref f_is_fraction))) (l_is_fraction : K.lookup f_is_fraction = some ⟨oc_is_fraction, od_is_fraction, .func (PySem.W.fnOf "is_fraction" "is_fraction" (defArgs s_is_fraction) (defBody s_is_fraction) (defScope s_is_fraction) .none kV_is_fraction dc_is_fraction pm_is_fraction an_is_fraction cd_is_fraction ct_is_fraction), sl_is_fraction⟩) (c_is_fraction : PySem.W.codeIn K cd_is_fraction "is_fraction" = true) (k_is_fraction : PySem.W.keepIn K (.ref f_is_fraction) = true)
  (a_sure_fraction : PySem.W.nsIn K mainGlobals "sure_fraction" = some (some (.ref f_sure_fraction))) (l_sure_fraction : K.lookup f_sure_fraction = some ⟨oc_sure_fraction, od_sure_fraction, .func (PySem.W.fnOf "sure_fraction" "sure_fraction" (defArgs s_sure_fraction) (defBody s_sure_fraction) (defScope s_sure_fraction) .none kV_sure_fraction dc_sure_fraction pm_sure_fraction an_sure_fraction cd_sure_fraction ct_sure_fraction), sl_sure_fraction⟩) (c_sure_fraction : PySem.W.codeIn K cd_sure_fraction "sure_fraction" = true) (k_sure_fraction : PySem.W.keepIn K (.ref f_sure_fraction) = true)
  (a_made : PySem.W.nsIn K mainGlobals "made" = some (some (.ref f_made))) (l_made : K.lookup f_made = some ⟨oc_made, od_made, .func (PySem.W.fnOf "made" "made" (defArgs s_made) (defBody s_made) (defScope s_made) .none kV_made dc_made pm_made an_made cd_made ct_made), sl_made⟩) (c_made : PySem.W.codeIn K cd_made "made" = true) (k_made : PySem.W.keepIn K (.ref f_made) = true)
  (a_two : PySem.W.nsIn K mainGlobals "two" = some (some (.ref f_two))) (l_two : K.lookup f_two = some ⟨oc_two, od_two, .func (PySem.W.fnOf "two" "two" (defArgs s_two) (defBody s_two) (defScope s_two) .none kV_two dc_two pm_two an_two cd_two ct_two), sl_two⟩) (c_two : PySem.W.codeIn K cd_two "two" = true) (k_two : PySem.W.keepIn K (.ref f_two) = true)
  (a_added : PySem.W.nsIn K mainGlobals "added" = some (some (.ref f_added))) (l_added : K.lookup f_added = some ⟨oc_added, od_added, .func (PySem.W.fnOf "added" "added" (defArgs s_added) (defBody s_added) (defScope s_added) .none kV_added dc_added pm_added an_added cd_added ct_added), sl_added⟩) (c_added : PySem.W.codeIn K cd_added "added" = true) (k_added : PySem.W.keepIn K (.ref f_added) = true)
  (a_less : PySem.W.nsIn K mainGlobals "less" = some (some (.ref f_less))) (l_less : K.lookup f_less = some ⟨oc_less, od_less, .func (PySem.W.fnOf "less" "less" (defArgs s_less) (defBody s_less) (defScope s_less) .none kV_less dc_less pm_less an_less cd_less ct_less), sl_less⟩) (c_less : PySem.W.codeIn K cd_less "less" = true) (k_less : PySem.W.keepIn K (.ref f_less) = true)
  (a_times : PySem.W.nsIn K mainGlobals "times" = some (some (.ref f_times))) (l_times : K.lookup f_times = some ⟨oc_times, od_times, .func (PySem.W.fnOf "times" "times" (defArgs s_times) (defBody s_times) (defScope s_times) .none kV_times dc_times pm_times an_times cd_times ct_times), sl_times⟩) (c_times : PySem.W.codeIn K cd_times "times" = true) (k_times : PySem.W.keepIn K (.ref f_times) = true)
  (a_compared : PySem.W.nsIn K mainGlobals "compared" = some (some (.ref f_compared))) (l_compared : K.lookup f_compared = some ⟨oc_compared, od_compared, .func (PySem.W.fnOf "compared" "compared" (defArgs s_compared) (defBody s_compared) (defScope s_compared) .none kV_compared dc_compared pm_compared an_compared cd_compared ct_compared), sl_compared⟩) (c_compared : PySem.W.codeIn K cd_compared "compared" = true) (k_compared : PySem.W.keepIn K (.ref f_compared) = true)
  (a_is_point : PySem.W.nsIn K mainGlobals "is_point" = some (some (.ref f_is_point))) (l_is_point : K.lookup f_is_point = some ⟨oc_is_point, od_is_point, .func (PySem.W.fnOf "is_point" "is_point" (defArgs s_is_point) (defBody s_is_point) (defScope s_is_point) .none kV_is_point dc_is_point pm_is_point an_is_point cd_is_point ct_is_point), sl_is_point⟩) (c_is_point : PySem.W.codeIn K cd_is_point "is_point" = true) (k_is_point : PySem.W.keepIn K (.ref f_is_point) = true)
  (a_is_direction : PySem.W.nsIn K mainGlobals "is_direction" = some (some (.ref f_is_direction))) (l_is_direction : K.lookup f_is_direction = some ⟨oc_is_direction, od_is_direction, .func (PySem.W.fnOf "is_direction" "is_direction" (defArgs s_is_direction) (defBody s_is_direction) (defScope s_is_direction) .none kV_is_direction dc_is_direction pm_is_direction an_is_direction cd_is_direction ct_is_direction), sl_is_direction⟩) (c_is_direction : PySem.W.codeIn K cd_is_direction "is_direction" = true) (k_is_direction : PySem.W.keepIn K (.ref f_is_direction) = true)
  (a_is_ray : PySem.W.nsIn K mainGlobals "is_ray" = some (some (.ref f_is_ray))) (l_is_ray : K.lookup f_is_ray = some ⟨oc_is_ray, od_is_ray, .func (PySem.W.fnOf "is_ray" "is_ray" (defArgs s_is_ray) (defBody s_is_ray) (defScope s_is_ray) .none kV_is_ray dc_is_ray pm_is_ray an_is_ray cd_is_ray ct_is_ray), sl_is_ray⟩) (c_is_ray : PySem.W.codeIn K cd_is_ray "is_ray" = true) (k_is_ray : PySem.W.keepIn K (.ref f_is_ray) = true)
  (a_sure_point : PySem.W.nsIn K mainGlobals "sure_point" = some (some (.ref f_sure_point))) (l_sure_point : K.lookup f_sure_point = some ⟨oc_sure_point, od_sure_point, .func (PySem.W.fnOf "sure_point" "sure_point" (defArgs s_sure_point) (defBody s_sure_point) (defScope s_sure_point) .none kV_sure_point dc_sure_point pm_sure_point an_sure_point cd_sure_point ct_sure_point), sl_sure_point⟩) (c_sure_point : PySem.W.codeIn K cd_sure_point "sure_point" = true) (k_sure_point : PySem.W.keepIn K (.ref f_sure_point) = true)
  (a_sure_direction : PySem.W.nsIn K mainGlobals "sure_direction" = some (some (.ref f_sure_direction))) (l_sure_direction : K.lookup f_sure_direction = some ⟨oc_sure_direction, od_sure_direction, .func (PySem.W.fnOf "sure_direction" "sure_direction" (defArgs s_sure_direction) (defBody s_sure_direction) (defScope s_sure_direction) .none kV_sure_direction dc_sure_direction pm_sure_direction an_sure_direction cd_sure_direction ct_sure_direction), sl_sure_direction⟩) (c_sure_direction : PySem.W.codeIn K cd_sure_direction "sure_direction" = true) (k_sure_direction : PySem.W.keepIn K (.ref f_sure_direction) = true)
  (a_sure_ray : PySem.W.nsIn K mainGlobals "sure_ray" = some (some (.ref f_sure_ray))) (l_sure_ray : K.lookup f_sure_ray = some ⟨oc_sure_ray, od_sure_ray, .func (PySem.W.fnOf "sure_ray" "sure_ray" (defArgs s_sure_ray) (defBody s_sure_ray) (defScope s_sure_ray) .none kV_sure_ray dc_sure_ray pm_sure_ray an_sure_ray cd_sure_ray ct_sure_ray), sl_sure_ray⟩) (c_sure_ray : PySem.W.codeIn K cd_sure_ray "sure_ray" = true) (k_sure_ray : PySem.W.keepIn K (.ref f_sure_ray) = true)
  (a_parted : PySem.W.nsIn K mainGlobals "parted" = some (some (.ref f_parted))) (l_parted : K.lookup f_parted = some ⟨oc_parted, od_parted, .func (PySem.W.fnOf "parted" "parted" (defArgs s_parted) (defBody s_parted) (defScope s_parted) .none kV_parted dc_parted pm_parted an_parted cd_parted ct_parted), sl_parted⟩) (c_parted : PySem.W.codeIn K cd_parted "parted" = true) (k_parted : PySem.W.keepIn K (.ref f_parted) = true)
  (a_spot : PySem.W.nsIn K mainGlobals "spot" = some (some (.ref f_spot))) (l_spot : K.lookup f_spot = some ⟨oc_spot, od_spot, .func (PySem.W.fnOf "spot" "spot" (defArgs s_spot) (defBody s_spot) (defScope s_spot) .none kV_spot dc_spot pm_spot an_spot cd_spot ct_spot), sl_spot⟩) (c_spot : PySem.W.codeIn K cd_spot "spot" = true) (k_spot : PySem.W.keepIn K (.ref f_spot) = true)
  (a_point : PySem.W.nsIn K mainGlobals "point" = some (some (.ref f_point))) (l_point : K.lookup f_point = some ⟨oc_point, od_point, .func (PySem.W.fnOf "point" "point" (defArgs s_point) (defBody s_point) (defScope s_point) .none kV_point dc_point pm_point an_point cd_point ct_point), sl_point⟩) (c_point : PySem.W.codeIn K cd_point "point" = true) (k_point : PySem.W.keepIn K (.ref f_point) = true)
  (a_place : PySem.W.nsIn K mainGlobals "place" = some (some (.ref f_place))) (l_place : K.lookup f_place = some ⟨oc_place, od_place, .func (PySem.W.fnOf "place" "place" (defArgs s_place) (defBody s_place) (defScope s_place) .none kV_place dc_place pm_place an_place cd_place ct_place), sl_place⟩) (c_place : PySem.W.codeIn K cd_place "place" = true) (k_place : PySem.W.keepIn K (.ref f_place) = true)
  (a_cross : PySem.W.nsIn K mainGlobals "cross" = some (some (.ref f_cross))) (l_cross : K.lookup f_cross = some ⟨oc_cross, od_cross, .func (PySem.W.fnOf "cross" "cross" (defArgs s_cross) (defBody s_cross) (defScope s_cross) .none kV_cross dc_cross pm_cross an_cross cd_cross ct_cross), sl_cross⟩) (c_cross : PySem.W.codeIn K cd_cross "cross" = true) (k_cross : PySem.W.keepIn K (.ref f_cross) = true)
  (a_dot : PySem.W.nsIn K mainGlobals "dot" = some (some (.ref f_dot))) (l_dot : K.lookup f_dot = some ⟨oc_dot, od_dot, .func (PySem.W.fnOf "dot" "dot" (defArgs s_dot) (defBody s_dot) (defScope s_dot) .none kV_dot dc_dot pm_dot an_dot cd_dot ct_dot), sl_dot⟩) (c_dot : PySem.W.codeIn K cd_dot "dot" = true) (k_dot : PySem.W.keepIn K (.ref f_dot) = true)
  (a_least_direction : PySem.W.nsIn K mainGlobals "least_direction" = some (some (.ref f_least_direction))) (l_least_direction : K.lookup f_least_direction = some ⟨oc_least_direction, od_least_direction, .func (PySem.W.fnOf "least_direction" "least_direction" (defArgs s_least_direction) (defBody s_least_direction) (defScope s_least_direction) .none kV_least_direction dc_least_direction pm_least_direction an_least_direction cd_least_direction ct_least_direction), sl_least_direction⟩) (c_least_direction : PySem.W.codeIn K cd_least_direction "least_direction" = true) (k_least_direction : PySem.W.keepIn K (.ref f_least_direction) = true)
  (a_way_between : PySem.W.nsIn K mainGlobals "way_between" = some (some (.ref f_way_between))) (l_way_between : K.lookup f_way_between = some ⟨oc_way_between, od_way_between, .func (PySem.W.fnOf "way_between" "way_between" (defArgs s_way_between) (defBody s_way_between) (defScope s_way_between) .none kV_way_between dc_way_between pm_way_between an_way_between cd_way_between ct_way_between), sl_way_between⟩) (c_way_between : PySem.W.codeIn K cd_way_between "way_between" = true) (k_way_between : PySem.W.keepIn K (.ref f_way_between) = true)
  (a_direction_between : PySem.W.nsIn K mainGlobals "direction_between" = some (some (.ref f_direction_between))) (l_direction_between : K.lookup f_direction_between = some ⟨oc_direction_between, od_direction_between, .func (PySem.W.fnOf "direction_between" "direction_between" (defArgs s_direction_between) (defBody s_direction_between) (defScope s_direction_between) .none kV_direction_between dc_direction_between pm_direction_between an_direction_between cd_direction_between ct_direction_between), sl_direction_between⟩) (c_direction_between : PySem.W.codeIn K cd_direction_between "direction_between" = true) (k_direction_between : PySem.W.keepIn K (.ref f_direction_between) = true)
  (a_moved_by : PySem.W.nsIn K mainGlobals "moved_by" = some (some (.ref f_moved_by))) (l_moved_by : K.lookup f_moved_by = some ⟨oc_moved_by, od_moved_by, .func (PySem.W.fnOf "moved_by" "moved_by" (defArgs s_moved_by) (defBody s_moved_by) (defScope s_moved_by) .none kV_moved_by dc_moved_by pm_moved_by an_moved_by cd_moved_by ct_moved_by), sl_moved_by⟩) (c_moved_by : PySem.W.codeIn K cd_moved_by "moved_by" = true) (k_moved_by : PySem.W.keepIn K (.ref f_moved_by) = true)
  (a_half_way : PySem.W.nsIn K mainGlobals "half_way" = some (some (.ref f_half_way))) (l_half_way : K.lookup f_half_way = some ⟨oc_half_way, od_half_way, .func (PySem.W.fnOf "half_way" "half_way" (defArgs s_half_way) (defBody s_half_way) (defScope s_half_way) .none kV_half_way dc_half_way pm_half_way an_half_way cd_half_way ct_half_way), sl_half_way⟩) (c_half_way : PySem.W.codeIn K cd_half_way "half_way" = true) (k_half_way : PySem.W.keepIn K (.ref f_half_way) = true)
  (a_square_between : PySem.W.nsIn K mainGlobals "square_between" = some (some (.ref f_square_between))) (l_square_between : K.lookup f_square_between = some ⟨oc_square_between, od_square_between, .func (PySem.W.fnOf "square_between" "square_between" (defArgs s_square_between) (defBody s_square_between) (defScope s_square_between) .none kV_square_between dc_square_between pm_square_between an_square_between cd_square_between ct_square_between), sl_square_between⟩) (c_square_between : PySem.W.codeIn K cd_square_between "square_between" = true) (k_square_between : PySem.W.keepIn K (.ref f_square_between) = true)
  (a_place_at : PySem.W.nsIn K mainGlobals "place_at" = some (some (.ref f_place_at))) (l_place_at : K.lookup f_place_at = some ⟨oc_place_at, od_place_at, .func (PySem.W.fnOf "place_at" "place_at" (defArgs s_place_at) (defBody s_place_at) (defScope s_place_at) .none kV_place_at dc_place_at pm_place_at an_place_at cd_place_at ct_place_at), sl_place_at⟩) (c_place_at : PySem.W.codeIn K cd_place_at "place_at" = true) (k_place_at : PySem.W.keepIn K (.ref f_place_at) = true)
  (a_time_of : PySem.W.nsIn K mainGlobals "time_of" = some (some (.ref f_time_of))) (l_time_of : K.lookup f_time_of = some ⟨oc_time_of, od_time_of, .func (PySem.W.fnOf "time_of" "time_of" (defArgs s_time_of) (defBody s_time_of) (defScope s_time_of) .none kV_time_of dc_time_of pm_time_of an_time_of cd_time_of ct_time_of), sl_time_of⟩) (c_time_of : PySem.W.codeIn K cd_time_of "time_of" = true) (k_time_of : PySem.W.keepIn K (.ref f_time_of) = true)
  (a_upright : PySem.W.nsIn K mainGlobals "upright" = some (some (.ref f_upright))) (l_upright : K.lookup f_upright = some ⟨oc_upright, od_upright, .func (PySem.W.fnOf "upright" "upright" (defArgs s_upright) (defBody s_upright) (defScope s_upright) .none kV_upright dc_upright pm_upright an_upright cd_upright ct_upright), sl_upright⟩) (c_upright : PySem.W.codeIn K cd_upright "upright" = true) (k_upright : PySem.W.keepIn K (.ref f_upright) = true)
  (a_on_one_line : PySem.W.nsIn K mainGlobals "on_one_line" = some (some (.ref f_on_one_line))) (l_on_one_line : K.lookup f_on_one_line = some ⟨oc_on_one_line, od_on_one_line, .func (PySem.W.fnOf "on_one_line" "on_one_line" (defArgs s_on_one_line) (defBody s_on_one_line) (defScope s_on_one_line) .none kV_on_one_line dc_on_one_line pm_on_one_line an_on_one_line cd_on_one_line ct_on_one_line), sl_on_one_line⟩) (c_on_one_line : PySem.W.codeIn K cd_on_one_line "on_one_line" = true) (k_on_one_line : PySem.W.keepIn K (.ref f_on_one_line) = true)
  (a_plane_through : PySem.W.nsIn K mainGlobals "plane_through" = some (some (.ref f_plane_through))) (l_plane_through : K.lookup f_plane_through = some ⟨oc_plane_through, od_plane_through, .func (PySem.W.fnOf "plane_through" "plane_through" (defArgs s_plane_through) (defBody s_plane_through) (defScope s_plane_through) .none kV_plane_through dc_plane_through pm_plane_through an_plane_through cd_plane_through ct_plane_through), sl_plane_through⟩) (c_plane_through : PySem.W.codeIn K cd_plane_through "plane_through" = true) (k_plane_through : PySem.W.keepIn K (.ref f_plane_through) = true)
  (a_sixfold : PySem.W.nsIn K mainGlobals "sixfold" = some (some (.ref f_sixfold))) (l_sixfold : K.lookup f_sixfold = some ⟨oc_sixfold, od_sixfold, .func (PySem.W.fnOf "sixfold" "sixfold" (defArgs s_sixfold) (defBody s_sixfold) (defScope s_sixfold) .none kV_sixfold dc_sixfold pm_sixfold an_sixfold cd_sixfold ct_sixfold), sl_sixfold⟩) (c_sixfold : PySem.W.codeIn K cd_sixfold "sixfold" = true) (k_sixfold : PySem.W.keepIn K (.ref f_sixfold) = true)
  (a_is_wall : PySem.W.nsIn K mainGlobals "is_wall" = some (some (.ref f_is_wall))) (l_is_wall : K.lookup f_is_wall = some ⟨oc_is_wall, od_is_wall, .func (PySem.W.fnOf "is_wall" "is_wall" (defArgs s_is_wall) (defBody s_is_wall) (defScope s_is_wall) .none kV_is_wall dc_is_wall pm_is_wall an_is_wall cd_is_wall ct_is_wall), sl_is_wall⟩) (c_is_wall : PySem.W.codeIn K cd_is_wall "is_wall" = true) (k_is_wall : PySem.W.keepIn K (.ref f_is_wall) = true)
  (a_sure_wall : PySem.W.nsIn K mainGlobals "sure_wall" = some (some (.ref f_sure_wall))) (l_sure_wall : K.lookup f_sure_wall = some ⟨oc_sure_wall, od_sure_wall, .func (PySem.W.fnOf "sure_wall" "sure_wall" (defArgs s_sure_wall) (defBody s_sure_wall) (defScope s_sure_wall) .none kV_sure_wall dc_sure_wall pm_sure_wall an_sure_wall cd_sure_wall ct_sure_wall), sl_sure_wall⟩) (c_sure_wall : PySem.W.codeIn K cd_sure_wall "sure_wall" = true) (k_sure_wall : PySem.W.keepIn K (.ref f_sure_wall) = true)
  (a_are_values : PySem.W.nsIn K mainGlobals "are_values" = some (some (.ref f_are_values))) (l_are_values : K.lookup f_are_values = some ⟨oc_are_values, od_are_values, .func (PySem.W.fnOf "are_values" "are_values" (defArgs s_are_values) (defBody s_are_values) (defScope s_are_values) .none kV_are_values dc_are_values pm_are_values an_are_values cd_are_values ct_are_values), sl_are_values⟩) (c_are_values : PySem.W.codeIn K cd_are_values "are_values" = true) (k_are_values : PySem.W.keepIn K (.ref f_are_values) = true)
  (a_sure_values : PySem.W.nsIn K mainGlobals "sure_values" = some (some (.ref f_sure_values))) (l_sure_values : K.lookup f_sure_values = some ⟨oc_sure_values, od_sure_values, .func (PySem.W.fnOf "sure_values" "sure_values" (defArgs s_sure_values) (defBody s_sure_values) (defScope s_sure_values) .none kV_sure_values dc_sure_values pm_sure_values an_sure_values cd_sure_values ct_sure_values), sl_sure_values⟩) (c_sure_values : PySem.W.codeIn K cd_sure_values "sure_values" = true) (k_sure_values : PySem.W.keepIn K (.ref f_sure_values) = true)
  (a_sure_case : PySem.W.nsIn K mainGlobals "sure_case" = some (some (.ref f_sure_case))) (l_sure_case : K.lookup f_sure_case = some ⟨oc_sure_case, od_sure_case, .func (PySem.W.fnOf "sure_case" "sure_case" (defArgs s_sure_case) (defBody s_sure_case) (defScope s_sure_case) .none kV_sure_case dc_sure_case pm_sure_case an_sure_case cd_sure_case ct_sure_case), sl_sure_case⟩) (c_sure_case : PySem.W.codeIn K cd_sure_case "sure_case" = true) (k_sure_case : PySem.W.keepIn K (.ref f_sure_case) = true)
  (a_other_side : PySem.W.nsIn K mainGlobals "other_side" = some (some (.ref f_other_side))) (l_other_side : K.lookup f_other_side = some ⟨oc_other_side, od_other_side, .func (PySem.W.fnOf "other_side" "other_side" (defArgs s_other_side) (defBody s_other_side) (defScope s_other_side) .none kV_other_side dc_other_side pm_other_side an_other_side cd_other_side ct_other_side), sl_other_side⟩) (c_other_side : PySem.W.codeIn K cd_other_side "other_side" = true) (k_other_side : PySem.W.keepIn K (.ref f_other_side) = true)
  (a_contrary : PySem.W.nsIn K mainGlobals "contrary" = some (some (.ref f_contrary))) (l_contrary : K.lookup f_contrary = some ⟨oc_contrary, od_contrary, .func (PySem.W.fnOf "contrary" "contrary" (defArgs s_contrary) (defBody s_contrary) (defScope s_contrary) .none kV_contrary dc_contrary pm_contrary an_contrary cd_contrary ct_contrary), sl_contrary⟩) (c_contrary : PySem.W.codeIn K cd_contrary "contrary" = true) (k_contrary : PySem.W.keepIn K (.ref f_contrary) = true)
  (a_sum_at : PySem.W.nsIn K mainGlobals "sum_at" = some (some (.ref f_sum_at))) (l_sum_at : K.lookup f_sum_at = some ⟨oc_sum_at, od_sum_at, .func (PySem.W.fnOf "sum_at" "sum_at" (defArgs s_sum_at) (defBody s_sum_at) (defScope s_sum_at) .none kV_sum_at dc_sum_at pm_sum_at an_sum_at cd_sum_at ct_sum_at), sl_sum_at⟩) (c_sum_at : PySem.W.codeIn K cd_sum_at "sum_at" = true) (k_sum_at : PySem.W.keepIn K (.ref f_sum_at) = true)
  (a_beyond : PySem.W.nsIn K mainGlobals "beyond" = some (some (.ref f_beyond))) (l_beyond : K.lookup f_beyond = some ⟨oc_beyond, od_beyond, .func (PySem.W.fnOf "beyond" "beyond" (defArgs s_beyond) (defBody s_beyond) (defScope s_beyond) .none kV_beyond dc_beyond pm_beyond an_beyond cd_beyond ct_beyond), sl_beyond⟩) (c_beyond : PySem.W.codeIn K cd_beyond "beyond" = true) (k_beyond : PySem.W.keepIn K (.ref f_beyond) = true)
  (a_side_in : PySem.W.nsIn K mainGlobals "side_in" = some (some (.ref f_side_in))) (l_side_in : K.lookup f_side_in = some ⟨oc_side_in, od_side_in, .func (PySem.W.fnOf "side_in" "side_in" (defArgs s_side_in) (defBody s_side_in) (defScope s_side_in) .none kV_side_in dc_side_in pm_side_in an_side_in cd_side_in ct_side_in), sl_side_in⟩) (c_side_in : PySem.W.codeIn K cd_side_in "side_in" = true) (k_side_in : PySem.W.keepIn K (.ref f_side_in) = true)
  (a_side : PySem.W.nsIn K mainGlobals "side" = some (some (.ref f_side))) (l_side : K.lookup f_side = some ⟨oc_side, od_side, .func (PySem.W.fnOf "side" "side" (defArgs s_side) (defBody s_side) (defScope s_side) .none kV_side dc_side pm_side an_side cd_side ct_side), sl_side⟩) (c_side : PySem.W.codeIn K cd_side "side" = true) (k_side : PySem.W.keepIn K (.ref f_side) = true)
  (a__law_box : PySem.W.nsIn K mainGlobals "_law_box" = some (some (.ref f__law_box))) (l__law_box : K.lookup f__law_box = some ⟨oc__law_box, od__law_box, .func (PySem.W.fnOf "_law_box" "_law_box" (defArgs s__law_box) (defBody s__law_box) (defScope s__law_box) .none kV__law_box dc__law_box pm__law_box an__law_box cd__law_box ct__law_box), sl__law_box⟩) (c__law_box : PySem.W.codeIn K cd__law_box "_law_box" = true) (k__law_box : PySem.W.keepIn K (.ref f__law_box) = true)
  (a__law_take : PySem.W.nsIn K mainGlobals "_law_take" = some (some (.ref f__law_take))) (l__law_take : K.lookup f__law_take = some ⟨oc__law_take, od__law_take, .func (PySem.W.fnOf "_law_take" "_law_take" (defArgs s__law_take) (defBody s__law_take) (defScope s__law_take) .none kV__law_take dc__law_take pm__law_take an__law_take cd__law_take ct__law_take), sl__law_take⟩) (c__law_take : PySem.W.codeIn K cd__law_take "_law_take" = true) (k__law_take : PySem.W.keepIn K (.ref f__law_take) = true)
  (a__law_cells : PySem.W.nsIn K mainGlobals "_law_cells" = some (some (.ref f__law_cells))) (l__law_cells : K.lookup f__law_cells = some ⟨oc__law_cells, od__law_cells, .func (PySem.W.fnOf "_law_cells" "_law_cells" (defArgs s__law_cells) (defBody s__law_cells) (defScope s__law_cells) .none kV__law_cells dc__law_cells pm__law_cells an__law_cells cd__law_cells ct__law_cells), sl__law_cells⟩) (c__law_cells : PySem.W.codeIn K cd__law_cells "_law_cells" = true) (k__law_cells : PySem.W.keepIn K (.ref f__law_cells) = true)
  (a__law_same : PySem.W.nsIn K mainGlobals "_law_same" = some (some (.ref f__law_same))) (l__law_same : K.lookup f__law_same = some ⟨oc__law_same, od__law_same, .func (PySem.W.fnOf "_law_same" "_law_same" (defArgs s__law_same) (defBody s__law_same) (defScope s__law_same) .none kV__law_same dc__law_same pm__law_same an__law_same cd__law_same ct__law_same), sl__law_same⟩) (c__law_same : PySem.W.codeIn K cd__law_same "_law_same" = true) (k__law_same : PySem.W.keepIn K (.ref f__law_same) = true)
  (a__law_least : PySem.W.nsIn K mainGlobals "_law_least" = some (some (.ref f__law_least))) (l__law_least : K.lookup f__law_least = some ⟨oc__law_least, od__law_least, .func (PySem.W.fnOf "_law_least" "_law_least" (defArgs s__law_least) (defBody s__law_least) (defScope s__law_least) .none kV__law_least dc__law_least pm__law_least an__law_least cd__law_least ct__law_least), sl__law_least⟩) (c__law_least : PySem.W.codeIn K cd__law_least "_law_least" = true) (k__law_least : PySem.W.keepIn K (.ref f__law_least) = true)
  (a__law_spot : PySem.W.nsIn K mainGlobals "_law_spot" = some (some (.ref f__law_spot))) (l__law_spot : K.lookup f__law_spot = some ⟨oc__law_spot, od__law_spot, .func (PySem.W.fnOf "_law_spot" "_law_spot" (defArgs s__law_spot) (defBody s__law_spot) (defScope s__law_spot) .none kV__law_spot dc__law_spot pm__law_spot an__law_spot cd__law_spot ct__law_spot), sl__law_spot⟩) (c__law_spot : PySem.W.codeIn K cd__law_spot "_law_spot" = true) (k__law_spot : PySem.W.keepIn K (.ref f__law_spot) = true)
  (a__law_low : PySem.W.nsIn K mainGlobals "_law_low" = some (some (.ref f__law_low))) (l__law_low : K.lookup f__law_low = some ⟨oc__law_low, od__law_low, .func (PySem.W.fnOf "_law_low" "_law_low" (defArgs s__law_low) (defBody s__law_low) (defScope s__law_low) .none kV__law_low dc__law_low pm__law_low an__law_low cd__law_low ct__law_low), sl__law_low⟩) (c__law_low : PySem.W.codeIn K cd__law_low "_law_low" = true) (k__law_low : PySem.W.keepIn K (.ref f__law_low) = true)
  (a__law_times : PySem.W.nsIn K mainGlobals "_law_times" = some (some (.ref f__law_times))) (l__law_times : K.lookup f__law_times = some ⟨oc__law_times, od__law_times, .func (PySem.W.fnOf "_law_times" "_law_times" (defArgs s__law_times) (defBody s__law_times) (defScope s__law_times) .none kV__law_times dc__law_times pm__law_times an__law_times cd__law_times ct__law_times), sl__law_times⟩) (c__law_times : PySem.W.codeIn K cd__law_times "_law_times" = true) (k__law_times : PySem.W.keepIn K (.ref f__law_times) = true)
  (a__law_call : PySem.W.nsIn K mainGlobals "_law_call" = some (some (.ref f__law_call))) (l__law_call : K.lookup f__law_call = some ⟨oc__law_call, od__law_call, .func (PySem.W.fnOf "_law_call" "_law_call" (defArgs s__law_call) (defBody s__law_call) (defScope s__law_call) .none kV__law_call dc__law_call pm__law_call an__law_call cd__law_call ct__law_call), sl__law_call⟩) (c__law_call : PySem.W.codeIn K cd__law_call "_law_call" = true) (k__law_call : PySem.W.keepIn K (.ref f__law_call) = true)
  (a__law_plus : PySem.W.nsIn K mainGlobals "_law_plus" = some (some (.ref f__law_plus))) (l__law_plus : K.lookup f__law_plus = some ⟨oc__law_plus, od__law_plus, .func (PySem.W.fnOf "_law_plus" "_law_plus" (defArgs s__law_plus) (defBody s__law_plus) (defScope s__law_plus) .none kV__law_plus dc__law_plus pm__law_plus an__law_plus cd__law_plus ct__law_plus), sl__law_plus⟩) (c__law_plus : PySem.W.codeIn K cd__law_plus "_law_plus" = true) (k__law_plus : PySem.W.keepIn K (.ref f__law_plus) = true)
  (a__law_minus : PySem.W.nsIn K mainGlobals "_law_minus" = some (some (.ref f__law_minus))) (l__law_minus : K.lookup f__law_minus = some ⟨oc__law_minus, od__law_minus, .func (PySem.W.fnOf "_law_minus" "_law_minus" (defArgs s__law_minus) (defBody s__law_minus) (defScope s__law_minus) .none kV__law_minus dc__law_minus pm__law_minus an__law_minus cd__law_minus ct__law_minus), sl__law_minus⟩) (c__law_minus : PySem.W.codeIn K cd__law_minus "_law_minus" = true) (k__law_minus : PySem.W.keepIn K (.ref f__law_minus) = true)
  (a__law_heard : PySem.W.nsIn K mainGlobals "_law_heard" = some (some (.ref f__law_heard))) (l__law_heard : K.lookup f__law_heard = some ⟨oc__law_heard, od__law_heard, .func (PySem.W.fnOf "_law_heard" "_law_heard" (defArgs s__law_heard) (defBody s__law_heard) (defScope s__law_heard) .none kV__law_heard dc__law_heard pm__law_heard an__law_heard cd__law_heard ct__law_heard), sl__law_heard⟩) (c__law_heard : PySem.W.codeIn K cd__law_heard "_law_heard" = true) (k__law_heard : PySem.W.keepIn K (.ref f__law_heard) = true)
  (a__law_way : PySem.W.nsIn K mainGlobals "_law_way" = some (some (.ref f__law_way))) (l__law_way : K.lookup f__law_way = some ⟨oc__law_way, od__law_way, .func (PySem.W.fnOf "_law_way" "_law_way" (defArgs s__law_way) (defBody s__law_way) (defScope s__law_way) .none kV__law_way dc__law_way pm__law_way an__law_way cd__law_way ct__law_way), sl__law_way⟩) (c__law_way : PySem.W.codeIn K cd__law_way "_law_way" = true) (k__law_way : PySem.W.keepIn K (.ref f__law_way) = true)
  (a__law_six : PySem.W.nsIn K mainGlobals "_law_six" = some (some (.ref f__law_six))) (l__law_six : K.lookup f__law_six = some ⟨oc__law_six, od__law_six, .func (PySem.W.fnOf "_law_six" "_law_six" (defArgs s__law_six) (defBody s__law_six) (defScope s__law_six) .none kV__law_six dc__law_six pm__law_six an__law_six cd__law_six ct__law_six), sl__law_six⟩) (c__law_six : PySem.W.codeIn K cd__law_six "_law_six" = true) (k__law_six : PySem.W.keepIn K (.ref f__law_six) = true)
  (a_law : PySem.W.nsIn K mainGlobals "law" = some (some (.ref f_law))) (l_law : K.lookup f_law = some ⟨oc_law, od_law, .func (PySem.W.fnOf "law" "law" (defArgs s_law) (defBody s_law) (defScope s_law) .none kV_law dc_law pm_law an_law cd_law ct_law), sl_law⟩) (c_law : PySem.W.codeIn K cd_law "law" = true) (k_law : PySem.W.keepIn K (.ref f_law) = true)
  {C_CanNot : Addr} (a_CanNot : PySem.W.nsIn K mainGlobals "CanNot" = some (some (.ref C_CanNot))) (e_CanNot : PySem.W.excIn K C_CanNot [.type "ValueError", .type "Exception", .type "BaseException", .type "object"] "ValueError.__new__" = true) (k_CanNot : PySem.W.keepIn K (.ref C_CanNot) = true) (b_CanNot : PySem.W.subIn K (.ref C_CanNot) (.type "BaseException") = some true) (t_CanNot : PySem.W.typeIn K (.ref C_CanNot) = some (.type "type"))
  {C_Flat : Addr} (a_Flat : PySem.W.nsIn K mainGlobals "Flat" = some (some (.ref C_Flat))) (e_Flat : PySem.W.excIn K C_Flat [.type "ValueError", .type "Exception", .type "BaseException", .type "object"] "ValueError.__new__" = true) (k_Flat : PySem.W.keepIn K (.ref C_Flat) = true) (b_Flat : PySem.W.subIn K (.ref C_Flat) (.type "BaseException") = some true) (t_Flat : PySem.W.typeIn K (.ref C_Flat) = some (.type "type"))
  {C_Unfit : Addr} (a_Unfit : PySem.W.nsIn K mainGlobals "Unfit" = some (some (.ref C_Unfit))) (e_Unfit : PySem.W.excIn K C_Unfit [.type "ValueError", .type "Exception", .type "BaseException", .type "object"] "ValueError.__new__" = true) (k_Unfit : PySem.W.keepIn K (.ref C_Unfit) = true) (b_Unfit : PySem.W.subIn K (.ref C_Unfit) (.type "BaseException") = some true) (t_Unfit : PySem.W.typeIn K (.ref C_Unfit) = some (.type "type"))
  (m_CanNot : PySem.W.subIn K (.ref C_CanNot) (.ref C_CanNot) = some true) (v_CanNot : PySem.W.subIn K (.ref C_CanNot) (.type "ValueError") = some true)
  (p1_CanNot : PySem.W.findIn K (.ref C_CanNot) "__getattribute__" = some (some (.builtin "BaseException.__getattribute__"))) (p2_CanNot : PySem.W.findIn K (.ref C_CanNot) "__getattr__" = some none) (p3_CanNot : PySem.W.hasDictIn K C_CanNot = true) (p4_CanNot : PySem.W.findIn K (.ref C_CanNot) "__class__" = some (some (.builtin "object.__class__"))) (p5_CanNot : PySem.W.mroIn K C_CanNot (.type "object") = some true)
  (p6 : PySem.W.specialIn K (.builtin "object.__class__") "__get__" = some (some (.builtin "getset_descriptor.__get__"))) (p7 : PySem.W.takesIn K (.builtin "object.__class__") = some true)
  (m_Flat : PySem.W.subIn K (.ref C_Flat) (.ref C_Flat) = some true) (v_Flat : PySem.W.subIn K (.ref C_Flat) (.type "ValueError") = some true)
  (p1_Flat : PySem.W.findIn K (.ref C_Flat) "__getattribute__" = some (some (.builtin "BaseException.__getattribute__"))) (p2_Flat : PySem.W.findIn K (.ref C_Flat) "__getattr__" = some none) (p3_Flat : PySem.W.hasDictIn K C_Flat = true) (p4_Flat : PySem.W.findIn K (.ref C_Flat) "__class__" = some (some (.builtin "object.__class__"))) (p5_Flat : PySem.W.mroIn K C_Flat (.type "object") = some true)
  (m_Flat_CanNot : PySem.W.subIn K (.ref C_CanNot) (.ref C_Flat) = some false) (ne_Flat_CanNot : C_Flat ≠ C_CanNot)
  (z_ValueError : PySem.W.nsIn K mainGlobals "ValueError" = some none)
  (z_abs : PySem.W.nsIn K mainGlobals "abs" = some none)
  (z_all : PySem.W.nsIn K mainGlobals "all" = some none)
  (z_any : PySem.W.nsIn K mainGlobals "any" = some none)
  (z_bool : PySem.W.nsIn K mainGlobals "bool" = some none)
  (z_enumerate : PySem.W.nsIn K mainGlobals "enumerate" = some none)
  (z_int : PySem.W.nsIn K mainGlobals "int" = some none)
  (z_isinstance : PySem.W.nsIn K mainGlobals "isinstance" = some none)
  (z_len : PySem.W.nsIn K mainGlobals "len" = some none)
  (z_list : PySem.W.nsIn K mainGlobals "list" = some none)
  (z_range : PySem.W.nsIn K mainGlobals "range" = some none)
  (z_str : PySem.W.nsIn K mainGlobals "str" = some none)
  (z_tuple : PySem.W.nsIn K mainGlobals "tuple" = some none)
  (z_zip : PySem.W.nsIn K mainGlobals "zip" = some none)
  (z_gcd : PySem.W.nsIn K mainGlobals "gcd" = some (some (.builtin "math.gcd"))) : Tx (adr mg) (fdo K mg) K mg := by
  have h_CanNot : adr mg "CanNot" = C_CanNot := by unfold adr; rw [PySem.W.mg_of X G a_CanNot]
  have h_Flat : adr mg "Flat" = C_Flat := by unfold adr; rw [PySem.W.mg_of X G a_Flat]
  have h_Unfit : adr mg "Unfit" = C_Unfit := by unfold adr; rw [PySem.W.mg_of X G a_Unfit]
  exact {
    n_ValueError := PySem.W.mg_none_of X G z_ValueError
    n_abs := PySem.W.mg_none_of X G z_abs
    n_all := PySem.W.mg_none_of X G z_all
    n_any := PySem.W.mg_none_of X G z_any
    n_bool := PySem.W.mg_none_of X G z_bool
    n_enumerate := PySem.W.mg_none_of X G z_enumerate
    n_int := PySem.W.mg_none_of X G z_int
    n_isinstance := PySem.W.mg_none_of X G z_isinstance
    n_len := PySem.W.mg_none_of X G z_len
    n_list := PySem.W.mg_none_of X G z_list
    n_range := PySem.W.mg_none_of X G z_range
    n_str := PySem.W.mg_none_of X G z_str
    n_tuple := PySem.W.mg_none_of X G z_tuple
    n_zip := PySem.W.mg_none_of X G z_zip
    b_gcd := PySem.W.mg_of X G z_gcd
    x_CanNot := by rw [h_CanNot]; exact ⟨PySem.W.mg_of X G a_CanNot, e_CanNot, k_CanNot, b_CanNot, t_CanNot⟩
    x_Flat := by rw [h_Flat]; exact ⟨PySem.W.mg_of X G a_Flat, e_Flat, k_Flat, b_Flat, t_Flat⟩
    x_Unfit := by rw [h_Unfit]; exact ⟨PySem.W.mg_of X G a_Unfit, e_Unfit, k_Unfit, b_Unfit, t_Unfit⟩
    c_CanNot := by rw [h_CanNot]; exact ⟨⟨p1_CanNot, p2_CanNot, b_CanNot, p3_CanNot, p4_CanNot, p6, p7, p5_CanNot⟩, PySem.W.exm_ref b_CanNot p3_CanNot t_CanNot m_CanNot, kit_ve v_CanNot⟩
    c_Flat := by rw [h_Flat]; exact ⟨⟨p1_Flat, p2_Flat, b_Flat, p3_Flat, p4_Flat, p6, p7, p5_Flat⟩, PySem.W.exm_ref b_Flat p3_Flat t_Flat m_Flat, kit_ve v_Flat⟩
    f_Flat_CanNot := by rw [h_Flat, h_CanNot]; exact ⟨PySem.W.exm_ref b_Flat p3_Flat t_Flat m_Flat_CanNot, ne_Flat_CanNot⟩
    g_is_number := (fun_of X G a_is_number l_is_number c_is_number k_is_number).1
    u_is_number := (fun_of X G a_is_number l_is_number c_is_number k_is_number).2
    g_is_from := (fun_of X G a_is_from l_is_from c_is_from k_is_from).1
    u_is_from := (fun_of X G a_is_from l_is_from c_is_from k_is_from).2
    g_is_long := (fun_of X G a_is_long l_is_long c_is_long k_is_long).1
    u_is_long := (fun_of X G a_is_long l_is_long c_is_long k_is_long).2
    g_tupled := (fun_of X G a_tupled l_tupled c_tupled k_tupled).1
    u_tupled := (fun_of X G a_tupled l_tupled c_tupled k_tupled).2
    g_is_row := (fun_of X G a_is_row l_is_row c_is_row k_is_row).1
    u_is_row := (fun_of X G a_is_row l_is_row c_is_row k_is_row).2
    g_divisor := (fun_of X G a_divisor l_divisor c_divisor k_divisor).1
    u_divisor := (fun_of X G a_divisor l_divisor c_divisor k_divisor).2
    g_is_fraction := (fun_of X G a_is_fraction l_is_fraction c_is_fraction k_is_fraction).1
    u_is_fraction := (fun_of X G a_is_fraction l_is_fraction c_is_fraction k_is_fraction).2
    g_sure_fraction := (fun_of X G a_sure_fraction l_sure_fraction c_sure_fraction k_sure_fraction).1
    u_sure_fraction := (fun_of X G a_sure_fraction l_sure_fraction c_sure_fraction k_sure_fraction).2
    g_made := (fun_of X G a_made l_made c_made k_made).1
    u_made := (fun_of X G a_made l_made c_made k_made).2
    g_two := (fun_of X G a_two l_two c_two k_two).1
    u_two := (fun_of X G a_two l_two c_two k_two).2
    g_added := (fun_of X G a_added l_added c_added k_added).1
    u_added := (fun_of X G a_added l_added c_added k_added).2
    g_less := (fun_of X G a_less l_less c_less k_less).1
    u_less := (fun_of X G a_less l_less c_less k_less).2
    g_times := (fun_of X G a_times l_times c_times k_times).1
    u_times := (fun_of X G a_times l_times c_times k_times).2
    g_compared := (fun_of X G a_compared l_compared c_compared k_compared).1
    u_compared := (fun_of X G a_compared l_compared c_compared k_compared).2
    g_is_point := (fun_of X G a_is_point l_is_point c_is_point k_is_point).1
    u_is_point := (fun_of X G a_is_point l_is_point c_is_point k_is_point).2
    g_is_direction := (fun_of X G a_is_direction l_is_direction c_is_direction k_is_direction).1
    u_is_direction := (fun_of X G a_is_direction l_is_direction c_is_direction k_is_direction).2
    g_is_ray := (fun_of X G a_is_ray l_is_ray c_is_ray k_is_ray).1
    u_is_ray := (fun_of X G a_is_ray l_is_ray c_is_ray k_is_ray).2
    g_sure_point := (fun_of X G a_sure_point l_sure_point c_sure_point k_sure_point).1
    u_sure_point := (fun_of X G a_sure_point l_sure_point c_sure_point k_sure_point).2
    g_sure_direction := (fun_of X G a_sure_direction l_sure_direction c_sure_direction k_sure_direction).1
    u_sure_direction := (fun_of X G a_sure_direction l_sure_direction c_sure_direction k_sure_direction).2
    g_sure_ray := (fun_of X G a_sure_ray l_sure_ray c_sure_ray k_sure_ray).1
    u_sure_ray := (fun_of X G a_sure_ray l_sure_ray c_sure_ray k_sure_ray).2
    g_parted := (fun_of X G a_parted l_parted c_parted k_parted).1
    u_parted := (fun_of X G a_parted l_parted c_parted k_parted).2
    g_spot := (fun_of X G a_spot l_spot c_spot k_spot).1
    u_spot := (fun_of X G a_spot l_spot c_spot k_spot).2
    g_point := (fun_of X G a_point l_point c_point k_point).1
    u_point := (fun_of X G a_point l_point c_point k_point).2
    g_place := (fun_of X G a_place l_place c_place k_place).1
    u_place := (fun_of X G a_place l_place c_place k_place).2
    g_cross := (fun_of X G a_cross l_cross c_cross k_cross).1
    u_cross := (fun_of X G a_cross l_cross c_cross k_cross).2
    g_dot := (fun_of X G a_dot l_dot c_dot k_dot).1
    u_dot := (fun_of X G a_dot l_dot c_dot k_dot).2
    g_least_direction := (fun_of X G a_least_direction l_least_direction c_least_direction k_least_direction).1
    u_least_direction := (fun_of X G a_least_direction l_least_direction c_least_direction k_least_direction).2
    g_way_between := (fun_of X G a_way_between l_way_between c_way_between k_way_between).1
    u_way_between := (fun_of X G a_way_between l_way_between c_way_between k_way_between).2
    g_direction_between := (fun_of X G a_direction_between l_direction_between c_direction_between k_direction_between).1
    u_direction_between := (fun_of X G a_direction_between l_direction_between c_direction_between k_direction_between).2
    g_moved_by := (fun_of X G a_moved_by l_moved_by c_moved_by k_moved_by).1
    u_moved_by := (fun_of X G a_moved_by l_moved_by c_moved_by k_moved_by).2
    g_half_way := (fun_of X G a_half_way l_half_way c_half_way k_half_way).1
    u_half_way := (fun_of X G a_half_way l_half_way c_half_way k_half_way).2
    g_square_between := (fun_of X G a_square_between l_square_between c_square_between k_square_between).1
    u_square_between := (fun_of X G a_square_between l_square_between c_square_between k_square_between).2
    g_place_at := (fun_of X G a_place_at l_place_at c_place_at k_place_at).1
    u_place_at := (fun_of X G a_place_at l_place_at c_place_at k_place_at).2
    g_time_of := (fun_of X G a_time_of l_time_of c_time_of k_time_of).1
    u_time_of := (fun_of X G a_time_of l_time_of c_time_of k_time_of).2
    g_upright := (fun_of X G a_upright l_upright c_upright k_upright).1
    u_upright := (fun_of X G a_upright l_upright c_upright k_upright).2
    g_on_one_line := (fun_of X G a_on_one_line l_on_one_line c_on_one_line k_on_one_line).1
    u_on_one_line := (fun_of X G a_on_one_line l_on_one_line c_on_one_line k_on_one_line).2
    g_plane_through := (fun_of X G a_plane_through l_plane_through c_plane_through k_plane_through).1
    u_plane_through := (fun_of X G a_plane_through l_plane_through c_plane_through k_plane_through).2
    g_sixfold := (fun_of X G a_sixfold l_sixfold c_sixfold k_sixfold).1
    u_sixfold := (fun_of X G a_sixfold l_sixfold c_sixfold k_sixfold).2
    g_is_wall := (fun_of X G a_is_wall l_is_wall c_is_wall k_is_wall).1
    u_is_wall := (fun_of X G a_is_wall l_is_wall c_is_wall k_is_wall).2
    g_sure_wall := (fun_of X G a_sure_wall l_sure_wall c_sure_wall k_sure_wall).1
    u_sure_wall := (fun_of X G a_sure_wall l_sure_wall c_sure_wall k_sure_wall).2
    g_are_values := (fun_of X G a_are_values l_are_values c_are_values k_are_values).1
    u_are_values := (fun_of X G a_are_values l_are_values c_are_values k_are_values).2
    g_sure_values := (fun_of X G a_sure_values l_sure_values c_sure_values k_sure_values).1
    u_sure_values := (fun_of X G a_sure_values l_sure_values c_sure_values k_sure_values).2
    g_sure_case := (fun_of X G a_sure_case l_sure_case c_sure_case k_sure_case).1
    u_sure_case := (fun_of X G a_sure_case l_sure_case c_sure_case k_sure_case).2
    g_other_side := (fun_of X G a_other_side l_other_side c_other_side k_other_side).1
    u_other_side := (fun_of X G a_other_side l_other_side c_other_side k_other_side).2
    g_contrary := (fun_of X G a_contrary l_contrary c_contrary k_contrary).1
    u_contrary := (fun_of X G a_contrary l_contrary c_contrary k_contrary).2
    g_sum_at := (fun_of X G a_sum_at l_sum_at c_sum_at k_sum_at).1
    u_sum_at := (fun_of X G a_sum_at l_sum_at c_sum_at k_sum_at).2
    g_beyond := (fun_of X G a_beyond l_beyond c_beyond k_beyond).1
    u_beyond := (fun_of X G a_beyond l_beyond c_beyond k_beyond).2
    g_side_in := (fun_of X G a_side_in l_side_in c_side_in k_side_in).1
    u_side_in := (fun_of X G a_side_in l_side_in c_side_in k_side_in).2
    g_side := (fun_of X G a_side l_side c_side k_side).1
    u_side := (fun_of X G a_side l_side c_side k_side).2
    g__law_box := (fun_of X G a__law_box l__law_box c__law_box k__law_box).1
    u__law_box := (fun_of X G a__law_box l__law_box c__law_box k__law_box).2
    g__law_take := (fun_of X G a__law_take l__law_take c__law_take k__law_take).1
    u__law_take := (fun_of X G a__law_take l__law_take c__law_take k__law_take).2
    g__law_cells := (fun_of X G a__law_cells l__law_cells c__law_cells k__law_cells).1
    u__law_cells := (fun_of X G a__law_cells l__law_cells c__law_cells k__law_cells).2
    g__law_same := (fun_of X G a__law_same l__law_same c__law_same k__law_same).1
    u__law_same := (fun_of X G a__law_same l__law_same c__law_same k__law_same).2
    g__law_least := (fun_of X G a__law_least l__law_least c__law_least k__law_least).1
    u__law_least := (fun_of X G a__law_least l__law_least c__law_least k__law_least).2
    g__law_spot := (fun_of X G a__law_spot l__law_spot c__law_spot k__law_spot).1
    u__law_spot := (fun_of X G a__law_spot l__law_spot c__law_spot k__law_spot).2
    g__law_low := (fun_of X G a__law_low l__law_low c__law_low k__law_low).1
    u__law_low := (fun_of X G a__law_low l__law_low c__law_low k__law_low).2
    g__law_times := (fun_of X G a__law_times l__law_times c__law_times k__law_times).1
    u__law_times := (fun_of X G a__law_times l__law_times c__law_times k__law_times).2
    g__law_call := (fun_of X G a__law_call l__law_call c__law_call k__law_call).1
    u__law_call := (fun_of X G a__law_call l__law_call c__law_call k__law_call).2
    g__law_plus := (fun_of X G a__law_plus l__law_plus c__law_plus k__law_plus).1
    u__law_plus := (fun_of X G a__law_plus l__law_plus c__law_plus k__law_plus).2
    g__law_minus := (fun_of X G a__law_minus l__law_minus c__law_minus k__law_minus).1
    u__law_minus := (fun_of X G a__law_minus l__law_minus c__law_minus k__law_minus).2
    g__law_heard := (fun_of X G a__law_heard l__law_heard c__law_heard k__law_heard).1
    u__law_heard := (fun_of X G a__law_heard l__law_heard c__law_heard k__law_heard).2
    g__law_way := (fun_of X G a__law_way l__law_way c__law_way k__law_way).1
    u__law_way := (fun_of X G a__law_way l__law_way c__law_way k__law_way).2
    g__law_six := (fun_of X G a__law_six l__law_six c__law_six k__law_six).1
    u__law_six := (fun_of X G a__law_six l__law_six c__law_six k__law_six).2
    g_law := (fun_of X G a_law l_law c_law k_law).1
    u_law := (fun_of X G a_law l_law c_law k_law).2 }
abbrev Good (A : Str → Addr) : Prop := [A "direction_between", A "plane_through"].Nodup
theorem all_mk {K : PySem.W.Frag} {h : Heap} {mg : Str → Option Value} {fa : Addr} (X : K.In h) (G : h.Ns mainGlobals mg) (hmg : mg "law" = some (.ref fa))
  (hp : ∀ A : Str → Addr, Good A → ∀ ns : List Int, ns.length ≤ 63 → (∀ z ∈ ns, Builtin.Int.intBits z ≤ 1048576) → ∃ S, F_law A [.fz (ns.map .int)] [] = .ok (.bl true) S)
  {oc_is_number : Value} {od_is_number an_is_number : Option Addr} {sl_is_number : Array (Option Value)} {kV_is_number dc_is_number pm_is_number cd_is_number ct_is_number : Value} {f_is_number : Addr}
  {oc_is_from : Value} {od_is_from an_is_from : Option Addr} {sl_is_from : Array (Option Value)} {kV_is_from dc_is_from pm_is_from cd_is_from ct_is_from : Value} {f_is_from : Addr}
  {oc_is_long : Value} {od_is_long an_is_long : Option Addr} {sl_is_long : Array (Option Value)} {kV_is_long dc_is_long pm_is_long cd_is_long ct_is_long : Value} {f_is_long : Addr}
  {oc_tupled : Value} {od_tupled an_tupled : Option Addr} {sl_tupled : Array (Option Value)} {kV_tupled dc_tupled pm_tupled cd_tupled ct_tupled : Value} {f_tupled : Addr}
  {oc_is_row : Value} {od_is_row an_is_row : Option Addr} {sl_is_row : Array (Option Value)} {kV_is_row dc_is_row pm_is_row cd_is_row ct_is_row : Value} {f_is_row : Addr}
  {oc_divisor : Value} {od_divisor an_divisor : Option Addr} {sl_divisor : Array (Option Value)} {kV_divisor dc_divisor pm_divisor cd_divisor ct_divisor : Value} {f_divisor : Addr}
  {oc_is_fraction : Value} {od_is_fraction an_is_fraction : Option Addr} {sl_is_fraction : Array (Option Value)} {kV_is_fraction dc_is_fraction pm_is_fraction cd_is_fraction ct_is_fraction : Value} {f_is_fraction : Addr}
  {oc_sure_fraction : Value} {od_sure_fraction an_sure_fraction : Option Addr} {sl_sure_fraction : Array (Option Value)} {kV_sure_fraction dc_sure_fraction pm_sure_fraction cd_sure_fraction ct_sure_fraction : Value} {f_sure_fraction : Addr}
  {oc_made : Value} {od_made an_made : Option Addr} {sl_made : Array (Option Value)} {kV_made dc_made pm_made cd_made ct_made : Value} {f_made : Addr}
  {oc_two : Value} {od_two an_two : Option Addr} {sl_two : Array (Option Value)} {kV_two dc_two pm_two cd_two ct_two : Value} {f_two : Addr}
  {oc_added : Value} {od_added an_added : Option Addr} {sl_added : Array (Option Value)} {kV_added dc_added pm_added cd_added ct_added : Value} {f_added : Addr}
  {oc_less : Value} {od_less an_less : Option Addr} {sl_less : Array (Option Value)} {kV_less dc_less pm_less cd_less ct_less : Value} {f_less : Addr}
  {oc_times : Value} {od_times an_times : Option Addr} {sl_times : Array (Option Value)} {kV_times dc_times pm_times cd_times ct_times : Value} {f_times : Addr}
  {oc_compared : Value} {od_compared an_compared : Option Addr} {sl_compared : Array (Option Value)} {kV_compared dc_compared pm_compared cd_compared ct_compared : Value} {f_compared : Addr}
  {oc_is_point : Value} {od_is_point an_is_point : Option Addr} {sl_is_point : Array (Option Value)} {kV_is_point dc_is_point pm_is_point cd_is_point ct_is_point : Value} {f_is_point : Addr}
  {oc_is_direction : Value} {od_is_direction an_is_direction : Option Addr} {sl_is_direction : Array (Option Value)} {kV_is_direction dc_is_direction pm_is_direction cd_is_direction ct_is_direction : Value} {f_is_direction : Addr}
  {oc_is_ray : Value} {od_is_ray an_is_ray : Option Addr} {sl_is_ray : Array (Option Value)} {kV_is_ray dc_is_ray pm_is_ray cd_is_ray ct_is_ray : Value} {f_is_ray : Addr}
  {oc_sure_point : Value} {od_sure_point an_sure_point : Option Addr} {sl_sure_point : Array (Option Value)} {kV_sure_point dc_sure_point pm_sure_point cd_sure_point ct_sure_point : Value} {f_sure_point : Addr}
  {oc_sure_direction : Value} {od_sure_direction an_sure_direction : Option Addr} {sl_sure_direction : Array (Option Value)} {kV_sure_direction dc_sure_direction pm_sure_direction cd_sure_direction ct_sure_direction : Value} {f_sure_direction : Addr}
  {oc_sure_ray : Value} {od_sure_ray an_sure_ray : Option Addr} {sl_sure_ray : Array (Option Value)} {kV_sure_ray dc_sure_ray pm_sure_ray cd_sure_ray ct_sure_ray : Value} {f_sure_ray : Addr}
  {oc_parted : Value} {od_parted an_parted : Option Addr} {sl_parted : Array (Option Value)} {kV_parted dc_parted pm_parted cd_parted ct_parted : Value} {f_parted : Addr}
  {oc_spot : Value} {od_spot an_spot : Option Addr} {sl_spot : Array (Option Value)} {kV_spot dc_spot pm_spot cd_spot ct_spot : Value} {f_spot : Addr}
  {oc_point : Value} {od_point an_point : Option Addr} {sl_point : Array (Option Value)} {kV_point dc_point pm_point cd_point ct_point : Value} {f_point : Addr}
  {oc_place : Value} {od_place an_place : Option Addr} {sl_place : Array (Option Value)} {kV_place dc_place pm_place cd_place ct_place : Value} {f_place : Addr}
  {oc_cross : Value} {od_cross an_cross : Option Addr} {sl_cross : Array (Option Value)} {kV_cross dc_cross pm_cross cd_cross ct_cross : Value} {f_cross : Addr}
  {oc_dot : Value} {od_dot an_dot : Option Addr} {sl_dot : Array (Option Value)} {kV_dot dc_dot pm_dot cd_dot ct_dot : Value} {f_dot : Addr}
  {oc_least_direction : Value} {od_least_direction an_least_direction : Option Addr} {sl_least_direction : Array (Option Value)} {kV_least_direction dc_least_direction pm_least_direction cd_least_direction ct_least_direction : Value} {f_least_direction : Addr}
  {oc_way_between : Value} {od_way_between an_way_between : Option Addr} {sl_way_between : Array (Option Value)} {kV_way_between dc_way_between pm_way_between cd_way_between ct_way_between : Value} {f_way_between : Addr}
  {oc_direction_between : Value} {od_direction_between an_direction_between : Option Addr} {sl_direction_between : Array (Option Value)} {kV_direction_between dc_direction_between pm_direction_between cd_direction_between ct_direction_between : Value} {f_direction_between : Addr}
  {oc_moved_by : Value} {od_moved_by an_moved_by : Option Addr} {sl_moved_by : Array (Option Value)} {kV_moved_by dc_moved_by pm_moved_by cd_moved_by ct_moved_by : Value} {f_moved_by : Addr}
  {oc_half_way : Value} {od_half_way an_half_way : Option Addr} {sl_half_way : Array (Option Value)} {kV_half_way dc_half_way pm_half_way cd_half_way ct_half_way : Value} {f_half_way : Addr}
  {oc_square_between : Value} {od_square_between an_square_between : Option Addr} {sl_square_between : Array (Option Value)} {kV_square_between dc_square_between pm_square_between cd_square_between ct_square_between : Value} {f_square_between : Addr}
  {oc_place_at : Value} {od_place_at an_place_at : Option Addr} {sl_place_at : Array (Option Value)} {kV_place_at dc_place_at pm_place_at cd_place_at ct_place_at : Value} {f_place_at : Addr}
  {oc_time_of : Value} {od_time_of an_time_of : Option Addr} {sl_time_of : Array (Option Value)} {kV_time_of dc_time_of pm_time_of cd_time_of ct_time_of : Value} {f_time_of : Addr}
  {oc_upright : Value} {od_upright an_upright : Option Addr} {sl_upright : Array (Option Value)} {kV_upright dc_upright pm_upright cd_upright ct_upright : Value} {f_upright : Addr}
  {oc_on_one_line : Value} {od_on_one_line an_on_one_line : Option Addr} {sl_on_one_line : Array (Option Value)} {kV_on_one_line dc_on_one_line pm_on_one_line cd_on_one_line ct_on_one_line : Value} {f_on_one_line : Addr}
  {oc_plane_through : Value} {od_plane_through an_plane_through : Option Addr} {sl_plane_through : Array (Option Value)} {kV_plane_through dc_plane_through pm_plane_through cd_plane_through ct_plane_through : Value} {f_plane_through : Addr}
  {oc_sixfold : Value} {od_sixfold an_sixfold : Option Addr} {sl_sixfold : Array (Option Value)} {kV_sixfold dc_sixfold pm_sixfold cd_sixfold ct_sixfold : Value} {f_sixfold : Addr}
  {oc_is_wall : Value} {od_is_wall an_is_wall : Option Addr} {sl_is_wall : Array (Option Value)} {kV_is_wall dc_is_wall pm_is_wall cd_is_wall ct_is_wall : Value} {f_is_wall : Addr}
  {oc_sure_wall : Value} {od_sure_wall an_sure_wall : Option Addr} {sl_sure_wall : Array (Option Value)} {kV_sure_wall dc_sure_wall pm_sure_wall cd_sure_wall ct_sure_wall : Value} {f_sure_wall : Addr}
  {oc_are_values : Value} {od_are_values an_are_values : Option Addr} {sl_are_values : Array (Option Value)} {kV_are_values dc_are_values pm_are_values cd_are_values ct_are_values : Value} {f_are_values : Addr}
  {oc_sure_values : Value} {od_sure_values an_sure_values : Option Addr} {sl_sure_values : Array (Option Value)} {kV_sure_values dc_sure_values pm_sure_values cd_sure_values ct_sure_values : Value} {f_sure_values : Addr}
  {oc_sure_case : Value} {od_sure_case an_sure_case : Option Addr} {sl_sure_case : Array (Option Value)} {kV_sure_case dc_sure_case pm_sure_case cd_sure_case ct_sure_case : Value} {f_sure_case : Addr}
  {oc_other_side : Value} {od_other_side an_other_side : Option Addr} {sl_other_side : Array (Option Value)} {kV_other_side dc_other_side pm_other_side cd_other_side ct_other_side : Value} {f_other_side : Addr}
  {oc_contrary : Value} {od_contrary an_contrary : Option Addr} {sl_contrary : Array (Option Value)} {kV_contrary dc_contrary pm_contrary cd_contrary ct_contrary : Value} {f_contrary : Addr}
  {oc_sum_at : Value} {od_sum_at an_sum_at : Option Addr} {sl_sum_at : Array (Option Value)} {kV_sum_at dc_sum_at pm_sum_at cd_sum_at ct_sum_at : Value} {f_sum_at : Addr}
  {oc_beyond : Value} {od_beyond an_beyond : Option Addr} {sl_beyond : Array (Option Value)} {kV_beyond dc_beyond pm_beyond cd_beyond ct_beyond : Value} {f_beyond : Addr}
  {oc_side_in : Value} {od_side_in an_side_in : Option Addr} {sl_side_in : Array (Option Value)} {kV_side_in dc_side_in pm_side_in cd_side_in ct_side_in : Value} {f_side_in : Addr}
  {oc_side : Value} {od_side an_side : Option Addr} {sl_side : Array (Option Value)} {kV_side dc_side pm_side cd_side ct_side : Value} {f_side : Addr}
  {oc__law_box : Value} {od__law_box an__law_box : Option Addr} {sl__law_box : Array (Option Value)} {kV__law_box dc__law_box pm__law_box cd__law_box ct__law_box : Value} {f__law_box : Addr}
  {oc__law_take : Value} {od__law_take an__law_take : Option Addr} {sl__law_take : Array (Option Value)} {kV__law_take dc__law_take pm__law_take cd__law_take ct__law_take : Value} {f__law_take : Addr}
  {oc__law_cells : Value} {od__law_cells an__law_cells : Option Addr} {sl__law_cells : Array (Option Value)} {kV__law_cells dc__law_cells pm__law_cells cd__law_cells ct__law_cells : Value} {f__law_cells : Addr}
  {oc__law_same : Value} {od__law_same an__law_same : Option Addr} {sl__law_same : Array (Option Value)} {kV__law_same dc__law_same pm__law_same cd__law_same ct__law_same : Value} {f__law_same : Addr}
  {oc__law_least : Value} {od__law_least an__law_least : Option Addr} {sl__law_least : Array (Option Value)} {kV__law_least dc__law_least pm__law_least cd__law_least ct__law_least : Value} {f__law_least : Addr}
  {oc__law_spot : Value} {od__law_spot an__law_spot : Option Addr} {sl__law_spot : Array (Option Value)} {kV__law_spot dc__law_spot pm__law_spot cd__law_spot ct__law_spot : Value} {f__law_spot : Addr}
  {oc__law_low : Value} {od__law_low an__law_low : Option Addr} {sl__law_low : Array (Option Value)} {kV__law_low dc__law_low pm__law_low cd__law_low ct__law_low : Value} {f__law_low : Addr}
  {oc__law_times : Value} {od__law_times an__law_times : Option Addr} {sl__law_times : Array (Option Value)} {kV__law_times dc__law_times pm__law_times cd__law_times ct__law_times : Value} {f__law_times : Addr}
  {oc__law_call : Value} {od__law_call an__law_call : Option Addr} {sl__law_call : Array (Option Value)} {kV__law_call dc__law_call pm__law_call cd__law_call ct__law_call : Value} {f__law_call : Addr}
  {oc__law_plus : Value} {od__law_plus an__law_plus : Option Addr} {sl__law_plus : Array (Option Value)} {kV__law_plus dc__law_plus pm__law_plus cd__law_plus ct__law_plus : Value} {f__law_plus : Addr}
  {oc__law_minus : Value} {od__law_minus an__law_minus : Option Addr} {sl__law_minus : Array (Option Value)} {kV__law_minus dc__law_minus pm__law_minus cd__law_minus ct__law_minus : Value} {f__law_minus : Addr}
  {oc__law_heard : Value} {od__law_heard an__law_heard : Option Addr} {sl__law_heard : Array (Option Value)} {kV__law_heard dc__law_heard pm__law_heard cd__law_heard ct__law_heard : Value} {f__law_heard : Addr}
  {oc__law_way : Value} {od__law_way an__law_way : Option Addr} {sl__law_way : Array (Option Value)} {kV__law_way dc__law_way pm__law_way cd__law_way ct__law_way : Value} {f__law_way : Addr}
  {oc__law_six : Value} {od__law_six an__law_six : Option Addr} {sl__law_six : Array (Option Value)} {kV__law_six dc__law_six pm__law_six cd__law_six ct__law_six : Value} {f__law_six : Addr}
  {oc_law : Value} {od_law an_law : Option Addr} {sl_law : Array (Option Value)} {kV_law dc_law pm_law cd_law ct_law : Value} {f_law : Addr}
  (a_is_number : PySem.W.nsIn K mainGlobals "is_number" = some (some (.ref f_is_number))) (l_is_number : K.lookup f_is_number = some ⟨oc_is_number, od_is_number, .func (PySem.W.fnOf "is_number" "is_number" (defArgs s_is_number) (defBody s_is_number) (defScope s_is_number) .none kV_is_number dc_is_number pm_is_number an_is_number cd_is_number ct_is_number), sl_is_number⟩) (c_is_number : PySem.W.codeIn K cd_is_number "is_number" = true) (k_is_number : PySem.W.keepIn K (.ref f_is_number) = true)
  (a_is_from : PySem.W.nsIn K mainGlobals "is_from" = some (some (.ref f_is_from))) (l_is_from : K.lookup f_is_from = some ⟨oc_is_from, od_is_from, .func (PySem.W.fnOf "is_from" "is_from" (defArgs s_is_from) (defBody s_is_from) (defScope s_is_from) .none kV_is_from dc_is_from pm_is_from an_is_from cd_is_from ct_is_from), sl_is_from⟩) (c_is_from : PySem.W.codeIn K cd_is_from "is_from" = true) (k_is_from : PySem.W.keepIn K (.ref f_is_from) = true)
  (a_is_long : PySem.W.nsIn K mainGlobals "is_long" = some (some (.ref f_is_long))) (l_is_long : K.lookup f_is_long = some ⟨oc_is_long, od_is_long, .func (PySem.W.fnOf "is_long" "is_long" (defArgs s_is_long) (defBody s_is_long) (defScope s_is_long) .none kV_is_long dc_is_long pm_is_long an_is_long cd_is_long ct_is_long), sl_is_long⟩) (c_is_long : PySem.W.codeIn K cd_is_long "is_long" = true) (k_is_long : PySem.W.keepIn K (.ref f_is_long) = true)
  (a_tupled : PySem.W.nsIn K mainGlobals "tupled" = some (some (.ref f_tupled))) (l_tupled : K.lookup f_tupled = some ⟨oc_tupled, od_tupled, .func (PySem.W.fnOf "tupled" "tupled" (defArgs s_tupled) (defBody s_tupled) (defScope s_tupled) .none kV_tupled dc_tupled pm_tupled an_tupled cd_tupled ct_tupled), sl_tupled⟩) (c_tupled : PySem.W.codeIn K cd_tupled "tupled" = true) (k_tupled : PySem.W.keepIn K (.ref f_tupled) = true)
  (a_is_row : PySem.W.nsIn K mainGlobals "is_row" = some (some (.ref f_is_row))) (l_is_row : K.lookup f_is_row = some ⟨oc_is_row, od_is_row, .func (PySem.W.fnOf "is_row" "is_row" (defArgs s_is_row) (defBody s_is_row) (defScope s_is_row) .none kV_is_row dc_is_row pm_is_row an_is_row cd_is_row ct_is_row), sl_is_row⟩) (c_is_row : PySem.W.codeIn K cd_is_row "is_row" = true) (k_is_row : PySem.W.keepIn K (.ref f_is_row) = true)
  (a_divisor : PySem.W.nsIn K mainGlobals "divisor" = some (some (.ref f_divisor))) (l_divisor : K.lookup f_divisor = some ⟨oc_divisor, od_divisor, .func (PySem.W.fnOf "divisor" "divisor" (defArgs s_divisor) (defBody s_divisor) (defScope s_divisor) .none kV_divisor dc_divisor pm_divisor an_divisor cd_divisor ct_divisor), sl_divisor⟩) (c_divisor : PySem.W.codeIn K cd_divisor "divisor" = true) (k_divisor : PySem.W.keepIn K (.ref f_divisor) = true)
  (a_is_fraction : PySem.W.nsIn K mainGlobals "is_fraction" = some (some (.ref f_is_fraction))) (l_is_fraction : K.lookup f_is_fraction = some ⟨oc_is_fraction, od_is_fraction, .func (PySem.W.fnOf "is_fraction" "is_fraction" (defArgs s_is_fraction) (defBody s_is_fraction) (defScope s_is_fraction) .none kV_is_fraction dc_is_fraction pm_is_fraction an_is_fraction cd_is_fraction ct_is_fraction), sl_is_fraction⟩) (c_is_fraction : PySem.W.codeIn K cd_is_fraction "is_fraction" = true) (k_is_fraction : PySem.W.keepIn K (.ref f_is_fraction) = true)
  (a_sure_fraction : PySem.W.nsIn K mainGlobals "sure_fraction" = some (some (.ref f_sure_fraction))) (l_sure_fraction : K.lookup f_sure_fraction = some ⟨oc_sure_fraction, od_sure_fraction, .func (PySem.W.fnOf "sure_fraction" "sure_fraction" (defArgs s_sure_fraction) (defBody s_sure_fraction) (defScope s_sure_fraction) .none kV_sure_fraction dc_sure_fraction pm_sure_fraction an_sure_fraction cd_sure_fraction ct_sure_fraction), sl_sure_fraction⟩) (c_sure_fraction : PySem.W.codeIn K cd_sure_fraction "sure_fraction" = true) (k_sure_fraction : PySem.W.keepIn K (.ref f_sure_fraction) = true)
  (a_made : PySem.W.nsIn K mainGlobals "made" = some (some (.ref f_made))) (l_made : K.lookup f_made = some ⟨oc_made, od_made, .func (PySem.W.fnOf "made" "made" (defArgs s_made) (defBody s_made) (defScope s_made) .none kV_made dc_made pm_made an_made cd_made ct_made), sl_made⟩) (c_made : PySem.W.codeIn K cd_made "made" = true) (k_made : PySem.W.keepIn K (.ref f_made) = true)
  (a_two : PySem.W.nsIn K mainGlobals "two" = some (some (.ref f_two))) (l_two : K.lookup f_two = some ⟨oc_two, od_two, .func (PySem.W.fnOf "two" "two" (defArgs s_two) (defBody s_two) (defScope s_two) .none kV_two dc_two pm_two an_two cd_two ct_two), sl_two⟩) (c_two : PySem.W.codeIn K cd_two "two" = true) (k_two : PySem.W.keepIn K (.ref f_two) = true)
  (a_added : PySem.W.nsIn K mainGlobals "added" = some (some (.ref f_added))) (l_added : K.lookup f_added = some ⟨oc_added, od_added, .func (PySem.W.fnOf "added" "added" (defArgs s_added) (defBody s_added) (defScope s_added) .none kV_added dc_added pm_added an_added cd_added ct_added), sl_added⟩) (c_added : PySem.W.codeIn K cd_added "added" = true) (k_added : PySem.W.keepIn K (.ref f_added) = true)
  (a_less : PySem.W.nsIn K mainGlobals "less" = some (some (.ref f_less))) (l_less : K.lookup f_less = some ⟨oc_less, od_less, .func (PySem.W.fnOf "less" "less" (defArgs s_less) (defBody s_less) (defScope s_less) .none kV_less dc_less pm_less an_less cd_less ct_less), sl_less⟩) (c_less : PySem.W.codeIn K cd_less "less" = true) (k_less : PySem.W.keepIn K (.ref f_less) = true)
  (a_times : PySem.W.nsIn K mainGlobals "times" = some (some (.ref f_times))) (l_times : K.lookup f_times = some ⟨oc_times, od_times, .func (PySem.W.fnOf "times" "times" (defArgs s_times) (defBody s_times) (defScope s_times) .none kV_times dc_times pm_times an_times cd_times ct_times), sl_times⟩) (c_times : PySem.W.codeIn K cd_times "times" = true) (k_times : PySem.W.keepIn K (.ref f_times) = true)
  (a_compared : PySem.W.nsIn K mainGlobals "compared" = some (some (.ref f_compared))) (l_compared : K.lookup f_compared = some ⟨oc_compared, od_compared, .func (PySem.W.fnOf "compared" "compared" (defArgs s_compared) (defBody s_compared) (defScope s_compared) .none kV_compared dc_compared pm_compared an_compared cd_compared ct_compared), sl_compared⟩) (c_compared : PySem.W.codeIn K cd_compared "compared" = true) (k_compared : PySem.W.keepIn K (.ref f_compared) = true)
  (a_is_point : PySem.W.nsIn K mainGlobals "is_point" = some (some (.ref f_is_point))) (l_is_point : K.lookup f_is_point = some ⟨oc_is_point, od_is_point, .func (PySem.W.fnOf "is_point" "is_point" (defArgs s_is_point) (defBody s_is_point) (defScope s_is_point) .none kV_is_point dc_is_point pm_is_point an_is_point cd_is_point ct_is_point), sl_is_point⟩) (c_is_point : PySem.W.codeIn K cd_is_point "is_point" = true) (k_is_point : PySem.W.keepIn K (.ref f_is_point) = true)
  (a_is_direction : PySem.W.nsIn K mainGlobals "is_direction" = some (some (.ref f_is_direction))) (l_is_direction : K.lookup f_is_direction = some ⟨oc_is_direction, od_is_direction, .func (PySem.W.fnOf "is_direction" "is_direction" (defArgs s_is_direction) (defBody s_is_direction) (defScope s_is_direction) .none kV_is_direction dc_is_direction pm_is_direction an_is_direction cd_is_direction ct_is_direction), sl_is_direction⟩) (c_is_direction : PySem.W.codeIn K cd_is_direction "is_direction" = true) (k_is_direction : PySem.W.keepIn K (.ref f_is_direction) = true)
  (a_is_ray : PySem.W.nsIn K mainGlobals "is_ray" = some (some (.ref f_is_ray))) (l_is_ray : K.lookup f_is_ray = some ⟨oc_is_ray, od_is_ray, .func (PySem.W.fnOf "is_ray" "is_ray" (defArgs s_is_ray) (defBody s_is_ray) (defScope s_is_ray) .none kV_is_ray dc_is_ray pm_is_ray an_is_ray cd_is_ray ct_is_ray), sl_is_ray⟩) (c_is_ray : PySem.W.codeIn K cd_is_ray "is_ray" = true) (k_is_ray : PySem.W.keepIn K (.ref f_is_ray) = true)
  (a_sure_point : PySem.W.nsIn K mainGlobals "sure_point" = some (some (.ref f_sure_point))) (l_sure_point : K.lookup f_sure_point = some ⟨oc_sure_point, od_sure_point, .func (PySem.W.fnOf "sure_point" "sure_point" (defArgs s_sure_point) (defBody s_sure_point) (defScope s_sure_point) .none kV_sure_point dc_sure_point pm_sure_point an_sure_point cd_sure_point ct_sure_point), sl_sure_point⟩) (c_sure_point : PySem.W.codeIn K cd_sure_point "sure_point" = true) (k_sure_point : PySem.W.keepIn K (.ref f_sure_point) = true)
  (a_sure_direction : PySem.W.nsIn K mainGlobals "sure_direction" = some (some (.ref f_sure_direction))) (l_sure_direction : K.lookup f_sure_direction = some ⟨oc_sure_direction, od_sure_direction, .func (PySem.W.fnOf "sure_direction" "sure_direction" (defArgs s_sure_direction) (defBody s_sure_direction) (defScope s_sure_direction) .none kV_sure_direction dc_sure_direction pm_sure_direction an_sure_direction cd_sure_direction ct_sure_direction), sl_sure_direction⟩) (c_sure_direction : PySem.W.codeIn K cd_sure_direction "sure_direction" = true) (k_sure_direction : PySem.W.keepIn K (.ref f_sure_direction) = true)
  (a_sure_ray : PySem.W.nsIn K mainGlobals "sure_ray" = some (some (.ref f_sure_ray))) (l_sure_ray : K.lookup f_sure_ray = some ⟨oc_sure_ray, od_sure_ray, .func (PySem.W.fnOf "sure_ray" "sure_ray" (defArgs s_sure_ray) (defBody s_sure_ray) (defScope s_sure_ray) .none kV_sure_ray dc_sure_ray pm_sure_ray an_sure_ray cd_sure_ray ct_sure_ray), sl_sure_ray⟩) (c_sure_ray : PySem.W.codeIn K cd_sure_ray "sure_ray" = true) (k_sure_ray : PySem.W.keepIn K (.ref f_sure_ray) = true)
  (a_parted : PySem.W.nsIn K mainGlobals "parted" = some (some (.ref f_parted))) (l_parted : K.lookup f_parted = some ⟨oc_parted, od_parted, .func (PySem.W.fnOf "parted" "parted" (defArgs s_parted) (defBody s_parted) (defScope s_parted) .none kV_parted dc_parted pm_parted an_parted cd_parted ct_parted), sl_parted⟩) (c_parted : PySem.W.codeIn K cd_parted "parted" = true) (k_parted : PySem.W.keepIn K (.ref f_parted) = true)
  (a_spot : PySem.W.nsIn K mainGlobals "spot" = some (some (.ref f_spot))) (l_spot : K.lookup f_spot = some ⟨oc_spot, od_spot, .func (PySem.W.fnOf "spot" "spot" (defArgs s_spot) (defBody s_spot) (defScope s_spot) .none kV_spot dc_spot pm_spot an_spot cd_spot ct_spot), sl_spot⟩) (c_spot : PySem.W.codeIn K cd_spot "spot" = true) (k_spot : PySem.W.keepIn K (.ref f_spot) = true)
  (a_point : PySem.W.nsIn K mainGlobals "point" = some (some (.ref f_point))) (l_point : K.lookup f_point = some ⟨oc_point, od_point, .func (PySem.W.fnOf "point" "point" (defArgs s_point) (defBody s_point) (defScope s_point) .none kV_point dc_point pm_point an_point cd_point ct_point), sl_point⟩) (c_point : PySem.W.codeIn K cd_point "point" = true) (k_point : PySem.W.keepIn K (.ref f_point) = true)
  (a_place : PySem.W.nsIn K mainGlobals "place" = some (some (.ref f_place))) (l_place : K.lookup f_place = some ⟨oc_place, od_place, .func (PySem.W.fnOf "place" "place" (defArgs s_place) (defBody s_place) (defScope s_place) .none kV_place dc_place pm_place an_place cd_place ct_place), sl_place⟩) (c_place : PySem.W.codeIn K cd_place "place" = true) (k_place : PySem.W.keepIn K (.ref f_place) = true)
  (a_cross : PySem.W.nsIn K mainGlobals "cross" = some (some (.ref f_cross))) (l_cross : K.lookup f_cross = some ⟨oc_cross, od_cross, .func (PySem.W.fnOf "cross" "cross" (defArgs s_cross) (defBody s_cross) (defScope s_cross) .none kV_cross dc_cross pm_cross an_cross cd_cross ct_cross), sl_cross⟩) (c_cross : PySem.W.codeIn K cd_cross "cross" = true) (k_cross : PySem.W.keepIn K (.ref f_cross) = true)
  (a_dot : PySem.W.nsIn K mainGlobals "dot" = some (some (.ref f_dot))) (l_dot : K.lookup f_dot = some ⟨oc_dot, od_dot, .func (PySem.W.fnOf "dot" "dot" (defArgs s_dot) (defBody s_dot) (defScope s_dot) .none kV_dot dc_dot pm_dot an_dot cd_dot ct_dot), sl_dot⟩) (c_dot : PySem.W.codeIn K cd_dot "dot" = true) (k_dot : PySem.W.keepIn K (.ref f_dot) = true)
  (a_least_direction : PySem.W.nsIn K mainGlobals "least_direction" = some (some (.ref f_least_direction))) (l_least_direction : K.lookup f_least_direction = some ⟨oc_least_direction, od_least_direction, .func (PySem.W.fnOf "least_direction" "least_direction" (defArgs s_least_direction) (defBody s_least_direction) (defScope s_least_direction) .none kV_least_direction dc_least_direction pm_least_direction an_least_direction cd_least_direction ct_least_direction), sl_least_direction⟩) (c_least_direction : PySem.W.codeIn K cd_least_direction "least_direction" = true) (k_least_direction : PySem.W.keepIn K (.ref f_least_direction) = true)
  (a_way_between : PySem.W.nsIn K mainGlobals "way_between" = some (some (.ref f_way_between))) (l_way_between : K.lookup f_way_between = some ⟨oc_way_between, od_way_between, .func (PySem.W.fnOf "way_between" "way_between" (defArgs s_way_between) (defBody s_way_between) (defScope s_way_between) .none kV_way_between dc_way_between pm_way_between an_way_between cd_way_between ct_way_between), sl_way_between⟩) (c_way_between : PySem.W.codeIn K cd_way_between "way_between" = true) (k_way_between : PySem.W.keepIn K (.ref f_way_between) = true)
  (a_direction_between : PySem.W.nsIn K mainGlobals "direction_between" = some (some (.ref f_direction_between))) (l_direction_between : K.lookup f_direction_between = some ⟨oc_direction_between, od_direction_between, .func (PySem.W.fnOf "direction_between" "direction_between" (defArgs s_direction_between) (defBody s_direction_between) (defScope s_direction_between) .none kV_direction_between dc_direction_between pm_direction_between an_direction_between cd_direction_between ct_direction_between), sl_direction_between⟩) (c_direction_between : PySem.W.codeIn K cd_direction_between "direction_between" = true) (k_direction_between : PySem.W.keepIn K (.ref f_direction_between) = true)
  (a_moved_by : PySem.W.nsIn K mainGlobals "moved_by" = some (some (.ref f_moved_by))) (l_moved_by : K.lookup f_moved_by = some ⟨oc_moved_by, od_moved_by, .func (PySem.W.fnOf "moved_by" "moved_by" (defArgs s_moved_by) (defBody s_moved_by) (defScope s_moved_by) .none kV_moved_by dc_moved_by pm_moved_by an_moved_by cd_moved_by ct_moved_by), sl_moved_by⟩) (c_moved_by : PySem.W.codeIn K cd_moved_by "moved_by" = true) (k_moved_by : PySem.W.keepIn K (.ref f_moved_by) = true)
  (a_half_way : PySem.W.nsIn K mainGlobals "half_way" = some (some (.ref f_half_way))) (l_half_way : K.lookup f_half_way = some ⟨oc_half_way, od_half_way, .func (PySem.W.fnOf "half_way" "half_way" (defArgs s_half_way) (defBody s_half_way) (defScope s_half_way) .none kV_half_way dc_half_way pm_half_way an_half_way cd_half_way ct_half_way), sl_half_way⟩) (c_half_way : PySem.W.codeIn K cd_half_way "half_way" = true) (k_half_way : PySem.W.keepIn K (.ref f_half_way) = true)
  (a_square_between : PySem.W.nsIn K mainGlobals "square_between" = some (some (.ref f_square_between))) (l_square_between : K.lookup f_square_between = some ⟨oc_square_between, od_square_between, .func (PySem.W.fnOf "square_between" "square_between" (defArgs s_square_between) (defBody s_square_between) (defScope s_square_between) .none kV_square_between dc_square_between pm_square_between an_square_between cd_square_between ct_square_between), sl_square_between⟩) (c_square_between : PySem.W.codeIn K cd_square_between "square_between" = true) (k_square_between : PySem.W.keepIn K (.ref f_square_between) = true)
  (a_place_at : PySem.W.nsIn K mainGlobals "place_at" = some (some (.ref f_place_at))) (l_place_at : K.lookup f_place_at = some ⟨oc_place_at, od_place_at, .func (PySem.W.fnOf "place_at" "place_at" (defArgs s_place_at) (defBody s_place_at) (defScope s_place_at) .none kV_place_at dc_place_at pm_place_at an_place_at cd_place_at ct_place_at), sl_place_at⟩) (c_place_at : PySem.W.codeIn K cd_place_at "place_at" = true) (k_place_at : PySem.W.keepIn K (.ref f_place_at) = true)
  (a_time_of : PySem.W.nsIn K mainGlobals "time_of" = some (some (.ref f_time_of))) (l_time_of : K.lookup f_time_of = some ⟨oc_time_of, od_time_of, .func (PySem.W.fnOf "time_of" "time_of" (defArgs s_time_of) (defBody s_time_of) (defScope s_time_of) .none kV_time_of dc_time_of pm_time_of an_time_of cd_time_of ct_time_of), sl_time_of⟩) (c_time_of : PySem.W.codeIn K cd_time_of "time_of" = true) (k_time_of : PySem.W.keepIn K (.ref f_time_of) = true)
  (a_upright : PySem.W.nsIn K mainGlobals "upright" = some (some (.ref f_upright))) (l_upright : K.lookup f_upright = some ⟨oc_upright, od_upright, .func (PySem.W.fnOf "upright" "upright" (defArgs s_upright) (defBody s_upright) (defScope s_upright) .none kV_upright dc_upright pm_upright an_upright cd_upright ct_upright), sl_upright⟩) (c_upright : PySem.W.codeIn K cd_upright "upright" = true) (k_upright : PySem.W.keepIn K (.ref f_upright) = true)
  (a_on_one_line : PySem.W.nsIn K mainGlobals "on_one_line" = some (some (.ref f_on_one_line))) (l_on_one_line : K.lookup f_on_one_line = some ⟨oc_on_one_line, od_on_one_line, .func (PySem.W.fnOf "on_one_line" "on_one_line" (defArgs s_on_one_line) (defBody s_on_one_line) (defScope s_on_one_line) .none kV_on_one_line dc_on_one_line pm_on_one_line an_on_one_line cd_on_one_line ct_on_one_line), sl_on_one_line⟩) (c_on_one_line : PySem.W.codeIn K cd_on_one_line "on_one_line" = true) (k_on_one_line : PySem.W.keepIn K (.ref f_on_one_line) = true)
  (a_plane_through : PySem.W.nsIn K mainGlobals "plane_through" = some (some (.ref f_plane_through))) (l_plane_through : K.lookup f_plane_through = some ⟨oc_plane_through, od_plane_through, .func (PySem.W.fnOf "plane_through" "plane_through" (defArgs s_plane_through) (defBody s_plane_through) (defScope s_plane_through) .none kV_plane_through dc_plane_through pm_plane_through an_plane_through cd_plane_through ct_plane_through), sl_plane_through⟩) (c_plane_through : PySem.W.codeIn K cd_plane_through "plane_through" = true) (k_plane_through : PySem.W.keepIn K (.ref f_plane_through) = true)
  (a_sixfold : PySem.W.nsIn K mainGlobals "sixfold" = some (some (.ref f_sixfold))) (l_sixfold : K.lookup f_sixfold = some ⟨oc_sixfold, od_sixfold, .func (PySem.W.fnOf "sixfold" "sixfold" (defArgs s_sixfold) (defBody s_sixfold) (defScope s_sixfold) .none kV_sixfold dc_sixfold pm_sixfold an_sixfold cd_sixfold ct_sixfold), sl_sixfold⟩) (c_sixfold : PySem.W.codeIn K cd_sixfold "sixfold" = true) (k_sixfold : PySem.W.keepIn K (.ref f_sixfold) = true)
  (a_is_wall : PySem.W.nsIn K mainGlobals "is_wall" = some (some (.ref f_is_wall))) (l_is_wall : K.lookup f_is_wall = some ⟨oc_is_wall, od_is_wall, .func (PySem.W.fnOf "is_wall" "is_wall" (defArgs s_is_wall) (defBody s_is_wall) (defScope s_is_wall) .none kV_is_wall dc_is_wall pm_is_wall an_is_wall cd_is_wall ct_is_wall), sl_is_wall⟩) (c_is_wall : PySem.W.codeIn K cd_is_wall "is_wall" = true) (k_is_wall : PySem.W.keepIn K (.ref f_is_wall) = true)
  (a_sure_wall : PySem.W.nsIn K mainGlobals "sure_wall" = some (some (.ref f_sure_wall))) (l_sure_wall : K.lookup f_sure_wall = some ⟨oc_sure_wall, od_sure_wall, .func (PySem.W.fnOf "sure_wall" "sure_wall" (defArgs s_sure_wall) (defBody s_sure_wall) (defScope s_sure_wall) .none kV_sure_wall dc_sure_wall pm_sure_wall an_sure_wall cd_sure_wall ct_sure_wall), sl_sure_wall⟩) (c_sure_wall : PySem.W.codeIn K cd_sure_wall "sure_wall" = true) (k_sure_wall : PySem.W.keepIn K (.ref f_sure_wall) = true)
  (a_are_values : PySem.W.nsIn K mainGlobals "are_values" = some (some (.ref f_are_values))) (l_are_values : K.lookup f_are_values = some ⟨oc_are_values, od_are_values, .func (PySem.W.fnOf "are_values" "are_values" (defArgs s_are_values) (defBody s_are_values) (defScope s_are_values) .none kV_are_values dc_are_values pm_are_values an_are_values cd_are_values ct_are_values), sl_are_values⟩) (c_are_values : PySem.W.codeIn K cd_are_values "are_values" = true) (k_are_values : PySem.W.keepIn K (.ref f_are_values) = true)
  (a_sure_values : PySem.W.nsIn K mainGlobals "sure_values" = some (some (.ref f_sure_values))) (l_sure_values : K.lookup f_sure_values = some ⟨oc_sure_values, od_sure_values, .func (PySem.W.fnOf "sure_values" "sure_values" (defArgs s_sure_values) (defBody s_sure_values) (defScope s_sure_values) .none kV_sure_values dc_sure_values pm_sure_values an_sure_values cd_sure_values ct_sure_values), sl_sure_values⟩) (c_sure_values : PySem.W.codeIn K cd_sure_values "sure_values" = true) (k_sure_values : PySem.W.keepIn K (.ref f_sure_values) = true)
  (a_sure_case : PySem.W.nsIn K mainGlobals "sure_case" = some (some (.ref f_sure_case))) (l_sure_case : K.lookup f_sure_case = some ⟨oc_sure_case, od_sure_case, .func (PySem.W.fnOf "sure_case" "sure_case" (defArgs s_sure_case) (defBody s_sure_case) (defScope s_sure_case) .none kV_sure_case dc_sure_case pm_sure_case an_sure_case cd_sure_case ct_sure_case), sl_sure_case⟩) (c_sure_case : PySem.W.codeIn K cd_sure_case "sure_case" = true) (k_sure_case : PySem.W.keepIn K (.ref f_sure_case) = true)
  (a_other_side : PySem.W.nsIn K mainGlobals "other_side" = some (some (.ref f_other_side))) (l_other_side : K.lookup f_other_side = some ⟨oc_other_side, od_other_side, .func (PySem.W.fnOf "other_side" "other_side" (defArgs s_other_side) (defBody s_other_side) (defScope s_other_side) .none kV_other_side dc_other_side pm_other_side an_other_side cd_other_side ct_other_side), sl_other_side⟩) (c_other_side : PySem.W.codeIn K cd_other_side "other_side" = true) (k_other_side : PySem.W.keepIn K (.ref f_other_side) = true)
  (a_contrary : PySem.W.nsIn K mainGlobals "contrary" = some (some (.ref f_contrary))) (l_contrary : K.lookup f_contrary = some ⟨oc_contrary, od_contrary, .func (PySem.W.fnOf "contrary" "contrary" (defArgs s_contrary) (defBody s_contrary) (defScope s_contrary) .none kV_contrary dc_contrary pm_contrary an_contrary cd_contrary ct_contrary), sl_contrary⟩) (c_contrary : PySem.W.codeIn K cd_contrary "contrary" = true) (k_contrary : PySem.W.keepIn K (.ref f_contrary) = true)
  (a_sum_at : PySem.W.nsIn K mainGlobals "sum_at" = some (some (.ref f_sum_at))) (l_sum_at : K.lookup f_sum_at = some ⟨oc_sum_at, od_sum_at, .func (PySem.W.fnOf "sum_at" "sum_at" (defArgs s_sum_at) (defBody s_sum_at) (defScope s_sum_at) .none kV_sum_at dc_sum_at pm_sum_at an_sum_at cd_sum_at ct_sum_at), sl_sum_at⟩) (c_sum_at : PySem.W.codeIn K cd_sum_at "sum_at" = true) (k_sum_at : PySem.W.keepIn K (.ref f_sum_at) = true)
  (a_beyond : PySem.W.nsIn K mainGlobals "beyond" = some (some (.ref f_beyond))) (l_beyond : K.lookup f_beyond = some ⟨oc_beyond, od_beyond, .func (PySem.W.fnOf "beyond" "beyond" (defArgs s_beyond) (defBody s_beyond) (defScope s_beyond) .none kV_beyond dc_beyond pm_beyond an_beyond cd_beyond ct_beyond), sl_beyond⟩) (c_beyond : PySem.W.codeIn K cd_beyond "beyond" = true) (k_beyond : PySem.W.keepIn K (.ref f_beyond) = true)
  (a_side_in : PySem.W.nsIn K mainGlobals "side_in" = some (some (.ref f_side_in))) (l_side_in : K.lookup f_side_in = some ⟨oc_side_in, od_side_in, .func (PySem.W.fnOf "side_in" "side_in" (defArgs s_side_in) (defBody s_side_in) (defScope s_side_in) .none kV_side_in dc_side_in pm_side_in an_side_in cd_side_in ct_side_in), sl_side_in⟩) (c_side_in : PySem.W.codeIn K cd_side_in "side_in" = true) (k_side_in : PySem.W.keepIn K (.ref f_side_in) = true)
  (a_side : PySem.W.nsIn K mainGlobals "side" = some (some (.ref f_side))) (l_side : K.lookup f_side = some ⟨oc_side, od_side, .func (PySem.W.fnOf "side" "side" (defArgs s_side) (defBody s_side) (defScope s_side) .none kV_side dc_side pm_side an_side cd_side ct_side), sl_side⟩) (c_side : PySem.W.codeIn K cd_side "side" = true) (k_side : PySem.W.keepIn K (.ref f_side) = true)
  (a__law_box : PySem.W.nsIn K mainGlobals "_law_box" = some (some (.ref f__law_box))) (l__law_box : K.lookup f__law_box = some ⟨oc__law_box, od__law_box, .func (PySem.W.fnOf "_law_box" "_law_box" (defArgs s__law_box) (defBody s__law_box) (defScope s__law_box) .none kV__law_box dc__law_box pm__law_box an__law_box cd__law_box ct__law_box), sl__law_box⟩) (c__law_box : PySem.W.codeIn K cd__law_box "_law_box" = true) (k__law_box : PySem.W.keepIn K (.ref f__law_box) = true)
  (a__law_take : PySem.W.nsIn K mainGlobals "_law_take" = some (some (.ref f__law_take))) (l__law_take : K.lookup f__law_take = some ⟨oc__law_take, od__law_take, .func (PySem.W.fnOf "_law_take" "_law_take" (defArgs s__law_take) (defBody s__law_take) (defScope s__law_take) .none kV__law_take dc__law_take pm__law_take an__law_take cd__law_take ct__law_take), sl__law_take⟩) (c__law_take : PySem.W.codeIn K cd__law_take "_law_take" = true) (k__law_take : PySem.W.keepIn K (.ref f__law_take) = true)
  (a__law_cells : PySem.W.nsIn K mainGlobals "_law_cells" = some (some (.ref f__law_cells))) (l__law_cells : K.lookup f__law_cells = some ⟨oc__law_cells, od__law_cells, .func (PySem.W.fnOf "_law_cells" "_law_cells" (defArgs s__law_cells) (defBody s__law_cells) (defScope s__law_cells) .none kV__law_cells dc__law_cells pm__law_cells an__law_cells cd__law_cells ct__law_cells), sl__law_cells⟩) (c__law_cells : PySem.W.codeIn K cd__law_cells "_law_cells" = true) (k__law_cells : PySem.W.keepIn K (.ref f__law_cells) = true)
  (a__law_same : PySem.W.nsIn K mainGlobals "_law_same" = some (some (.ref f__law_same))) (l__law_same : K.lookup f__law_same = some ⟨oc__law_same, od__law_same, .func (PySem.W.fnOf "_law_same" "_law_same" (defArgs s__law_same) (defBody s__law_same) (defScope s__law_same) .none kV__law_same dc__law_same pm__law_same an__law_same cd__law_same ct__law_same), sl__law_same⟩) (c__law_same : PySem.W.codeIn K cd__law_same "_law_same" = true) (k__law_same : PySem.W.keepIn K (.ref f__law_same) = true)
  (a__law_least : PySem.W.nsIn K mainGlobals "_law_least" = some (some (.ref f__law_least))) (l__law_least : K.lookup f__law_least = some ⟨oc__law_least, od__law_least, .func (PySem.W.fnOf "_law_least" "_law_least" (defArgs s__law_least) (defBody s__law_least) (defScope s__law_least) .none kV__law_least dc__law_least pm__law_least an__law_least cd__law_least ct__law_least), sl__law_least⟩) (c__law_least : PySem.W.codeIn K cd__law_least "_law_least" = true) (k__law_least : PySem.W.keepIn K (.ref f__law_least) = true)
  (a__law_spot : PySem.W.nsIn K mainGlobals "_law_spot" = some (some (.ref f__law_spot))) (l__law_spot : K.lookup f__law_spot = some ⟨oc__law_spot, od__law_spot, .func (PySem.W.fnOf "_law_spot" "_law_spot" (defArgs s__law_spot) (defBody s__law_spot) (defScope s__law_spot) .none kV__law_spot dc__law_spot pm__law_spot an__law_spot cd__law_spot ct__law_spot), sl__law_spot⟩) (c__law_spot : PySem.W.codeIn K cd__law_spot "_law_spot" = true) (k__law_spot : PySem.W.keepIn K (.ref f__law_spot) = true)
  (a__law_low : PySem.W.nsIn K mainGlobals "_law_low" = some (some (.ref f__law_low))) (l__law_low : K.lookup f__law_low = some ⟨oc__law_low, od__law_low, .func (PySem.W.fnOf "_law_low" "_law_low" (defArgs s__law_low) (defBody s__law_low) (defScope s__law_low) .none kV__law_low dc__law_low pm__law_low an__law_low cd__law_low ct__law_low), sl__law_low⟩) (c__law_low : PySem.W.codeIn K cd__law_low "_law_low" = true) (k__law_low : PySem.W.keepIn K (.ref f__law_low) = true)
  (a__law_times : PySem.W.nsIn K mainGlobals "_law_times" = some (some (.ref f__law_times))) (l__law_times : K.lookup f__law_times = some ⟨oc__law_times, od__law_times, .func (PySem.W.fnOf "_law_times" "_law_times" (defArgs s__law_times) (defBody s__law_times) (defScope s__law_times) .none kV__law_times dc__law_times pm__law_times an__law_times cd__law_times ct__law_times), sl__law_times⟩) (c__law_times : PySem.W.codeIn K cd__law_times "_law_times" = true) (k__law_times : PySem.W.keepIn K (.ref f__law_times) = true)
  (a__law_call : PySem.W.nsIn K mainGlobals "_law_call" = some (some (.ref f__law_call))) (l__law_call : K.lookup f__law_call = some ⟨oc__law_call, od__law_call, .func (PySem.W.fnOf "_law_call" "_law_call" (defArgs s__law_call) (defBody s__law_call) (defScope s__law_call) .none kV__law_call dc__law_call pm__law_call an__law_call cd__law_call ct__law_call), sl__law_call⟩) (c__law_call : PySem.W.codeIn K cd__law_call "_law_call" = true) (k__law_call : PySem.W.keepIn K (.ref f__law_call) = true)
  (a__law_plus : PySem.W.nsIn K mainGlobals "_law_plus" = some (some (.ref f__law_plus))) (l__law_plus : K.lookup f__law_plus = some ⟨oc__law_plus, od__law_plus, .func (PySem.W.fnOf "_law_plus" "_law_plus" (defArgs s__law_plus) (defBody s__law_plus) (defScope s__law_plus) .none kV__law_plus dc__law_plus pm__law_plus an__law_plus cd__law_plus ct__law_plus), sl__law_plus⟩) (c__law_plus : PySem.W.codeIn K cd__law_plus "_law_plus" = true) (k__law_plus : PySem.W.keepIn K (.ref f__law_plus) = true)
  (a__law_minus : PySem.W.nsIn K mainGlobals "_law_minus" = some (some (.ref f__law_minus))) (l__law_minus : K.lookup f__law_minus = some ⟨oc__law_minus, od__law_minus, .func (PySem.W.fnOf "_law_minus" "_law_minus" (defArgs s__law_minus) (defBody s__law_minus) (defScope s__law_minus) .none kV__law_minus dc__law_minus pm__law_minus an__law_minus cd__law_minus ct__law_minus), sl__law_minus⟩) (c__law_minus : PySem.W.codeIn K cd__law_minus "_law_minus" = true) (k__law_minus : PySem.W.keepIn K (.ref f__law_minus) = true)
  (a__law_heard : PySem.W.nsIn K mainGlobals "_law_heard" = some (some (.ref f__law_heard))) (l__law_heard : K.lookup f__law_heard = some ⟨oc__law_heard, od__law_heard, .func (PySem.W.fnOf "_law_heard" "_law_heard" (defArgs s__law_heard) (defBody s__law_heard) (defScope s__law_heard) .none kV__law_heard dc__law_heard pm__law_heard an__law_heard cd__law_heard ct__law_heard), sl__law_heard⟩) (c__law_heard : PySem.W.codeIn K cd__law_heard "_law_heard" = true) (k__law_heard : PySem.W.keepIn K (.ref f__law_heard) = true)
  (a__law_way : PySem.W.nsIn K mainGlobals "_law_way" = some (some (.ref f__law_way))) (l__law_way : K.lookup f__law_way = some ⟨oc__law_way, od__law_way, .func (PySem.W.fnOf "_law_way" "_law_way" (defArgs s__law_way) (defBody s__law_way) (defScope s__law_way) .none kV__law_way dc__law_way pm__law_way an__law_way cd__law_way ct__law_way), sl__law_way⟩) (c__law_way : PySem.W.codeIn K cd__law_way "_law_way" = true) (k__law_way : PySem.W.keepIn K (.ref f__law_way) = true)
  (a__law_six : PySem.W.nsIn K mainGlobals "_law_six" = some (some (.ref f__law_six))) (l__law_six : K.lookup f__law_six = some ⟨oc__law_six, od__law_six, .func (PySem.W.fnOf "_law_six" "_law_six" (defArgs s__law_six) (defBody s__law_six) (defScope s__law_six) .none kV__law_six dc__law_six pm__law_six an__law_six cd__law_six ct__law_six), sl__law_six⟩) (c__law_six : PySem.W.codeIn K cd__law_six "_law_six" = true) (k__law_six : PySem.W.keepIn K (.ref f__law_six) = true)
  (a_law : PySem.W.nsIn K mainGlobals "law" = some (some (.ref f_law))) (l_law : K.lookup f_law = some ⟨oc_law, od_law, .func (PySem.W.fnOf "law" "law" (defArgs s_law) (defBody s_law) (defScope s_law) .none kV_law dc_law pm_law an_law cd_law ct_law), sl_law⟩) (c_law : PySem.W.codeIn K cd_law "law" = true) (k_law : PySem.W.keepIn K (.ref f_law) = true)
  {C_CanNot : Addr} (a_CanNot : PySem.W.nsIn K mainGlobals "CanNot" = some (some (.ref C_CanNot))) (e_CanNot : PySem.W.excIn K C_CanNot [.type "ValueError", .type "Exception", .type "BaseException", .type "object"] "ValueError.__new__" = true) (k_CanNot : PySem.W.keepIn K (.ref C_CanNot) = true) (b_CanNot : PySem.W.subIn K (.ref C_CanNot) (.type "BaseException") = some true) (t_CanNot : PySem.W.typeIn K (.ref C_CanNot) = some (.type "type"))
  {C_Flat : Addr} (a_Flat : PySem.W.nsIn K mainGlobals "Flat" = some (some (.ref C_Flat))) (e_Flat : PySem.W.excIn K C_Flat [.type "ValueError", .type "Exception", .type "BaseException", .type "object"] "ValueError.__new__" = true) (k_Flat : PySem.W.keepIn K (.ref C_Flat) = true) (b_Flat : PySem.W.subIn K (.ref C_Flat) (.type "BaseException") = some true) (t_Flat : PySem.W.typeIn K (.ref C_Flat) = some (.type "type"))
  {C_Unfit : Addr} (a_Unfit : PySem.W.nsIn K mainGlobals "Unfit" = some (some (.ref C_Unfit))) (e_Unfit : PySem.W.excIn K C_Unfit [.type "ValueError", .type "Exception", .type "BaseException", .type "object"] "ValueError.__new__" = true) (k_Unfit : PySem.W.keepIn K (.ref C_Unfit) = true) (b_Unfit : PySem.W.subIn K (.ref C_Unfit) (.type "BaseException") = some true) (t_Unfit : PySem.W.typeIn K (.ref C_Unfit) = some (.type "type"))
  (m_CanNot : PySem.W.subIn K (.ref C_CanNot) (.ref C_CanNot) = some true) (v_CanNot : PySem.W.subIn K (.ref C_CanNot) (.type "ValueError") = some true)
  (p1_CanNot : PySem.W.findIn K (.ref C_CanNot) "__getattribute__" = some (some (.builtin "BaseException.__getattribute__"))) (p2_CanNot : PySem.W.findIn K (.ref C_CanNot) "__getattr__" = some none) (p3_CanNot : PySem.W.hasDictIn K C_CanNot = true) (p4_CanNot : PySem.W.findIn K (.ref C_CanNot) "__class__" = some (some (.builtin "object.__class__"))) (p5_CanNot : PySem.W.mroIn K C_CanNot (.type "object") = some true)
  (p6 : PySem.W.specialIn K (.builtin "object.__class__") "__get__" = some (some (.builtin "getset_descriptor.__get__"))) (p7 : PySem.W.takesIn K (.builtin "object.__class__") = some true)
  (m_Flat : PySem.W.subIn K (.ref C_Flat) (.ref C_Flat) = some true) (v_Flat : PySem.W.subIn K (.ref C_Flat) (.type "ValueError") = some true)
  (p1_Flat : PySem.W.findIn K (.ref C_Flat) "__getattribute__" = some (some (.builtin "BaseException.__getattribute__"))) (p2_Flat : PySem.W.findIn K (.ref C_Flat) "__getattr__" = some none) (p3_Flat : PySem.W.hasDictIn K C_Flat = true) (p4_Flat : PySem.W.findIn K (.ref C_Flat) "__class__" = some (some (.builtin "object.__class__"))) (p5_Flat : PySem.W.mroIn K C_Flat (.type "object") = some true)
  (m_Flat_CanNot : PySem.W.subIn K (.ref C_CanNot) (.ref C_Flat) = some false) (ne_Flat_CanNot : C_Flat ≠ C_CanNot)
  (z_ValueError : PySem.W.nsIn K mainGlobals "ValueError" = some none)
  (z_abs : PySem.W.nsIn K mainGlobals "abs" = some none)
  (z_all : PySem.W.nsIn K mainGlobals "all" = some none)
  (z_any : PySem.W.nsIn K mainGlobals "any" = some none)
  (z_bool : PySem.W.nsIn K mainGlobals "bool" = some none)
  (z_enumerate : PySem.W.nsIn K mainGlobals "enumerate" = some none)
  (z_int : PySem.W.nsIn K mainGlobals "int" = some none)
  (z_isinstance : PySem.W.nsIn K mainGlobals "isinstance" = some none)
  (z_len : PySem.W.nsIn K mainGlobals "len" = some none)
  (z_list : PySem.W.nsIn K mainGlobals "list" = some none)
  (z_range : PySem.W.nsIn K mainGlobals "range" = some none)
  (z_str : PySem.W.nsIn K mainGlobals "str" = some none)
  (z_tuple : PySem.W.nsIn K mainGlobals "tuple" = some none)
  (z_zip : PySem.W.nsIn K mainGlobals "zip" = some none)
  (z_gcd : PySem.W.nsIn K mainGlobals "gcd" = some (some (.builtin "math.gcd")))
  (hnd : [f_direction_between, f_plane_through].Nodup)
  : ∃ fd : FuncData, (∀ (s : Shared) (u : Value), BindsTo s fd ⟨[u], []⟩ [("script", u)]) ∧ ∀ (P : Program) (w : World) (base : Heap), FnOk P w K mg base (L2.CX P w) 9 fa fd ["script"] (spLaw K) := by
  have T := tx_mk X G a_is_number l_is_number c_is_number k_is_number a_is_from l_is_from c_is_from k_is_from a_is_long l_is_long c_is_long k_is_long a_tupled l_tupled c_tupled k_tupled a_is_row l_is_row c_is_row k_is_row a_divisor l_divisor c_divisor k_divisor a_is_fraction l_is_fraction c_is_fraction k_is_fraction a_sure_fraction l_sure_fraction c_sure_fraction k_sure_fraction a_made l_made c_made k_made a_two l_two c_two k_two a_added l_added c_added k_added a_less l_less c_less k_less a_times l_times c_times k_times a_compared l_compared c_compared k_compared a_is_point l_is_point c_is_point k_is_point a_is_direction l_is_direction c_is_direction k_is_direction a_is_ray l_is_ray c_is_ray k_is_ray a_sure_point l_sure_point c_sure_point k_sure_point a_sure_direction l_sure_direction c_sure_direction k_sure_direction a_sure_ray l_sure_ray c_sure_ray k_sure_ray a_parted l_parted c_parted k_parted a_spot l_spot c_spot k_spot a_point l_point c_point k_point a_place l_place c_place k_place a_cross l_cross c_cross k_cross a_dot l_dot c_dot k_dot a_least_direction l_least_direction c_least_direction k_least_direction a_way_between l_way_between c_way_between k_way_between a_direction_between l_direction_between c_direction_between k_direction_between a_moved_by l_moved_by c_moved_by k_moved_by a_half_way l_half_way c_half_way k_half_way a_square_between l_square_between c_square_between k_square_between a_place_at l_place_at c_place_at k_place_at a_time_of l_time_of c_time_of k_time_of a_upright l_upright c_upright k_upright a_on_one_line l_on_one_line c_on_one_line k_on_one_line a_plane_through l_plane_through c_plane_through k_plane_through a_sixfold l_sixfold c_sixfold k_sixfold a_is_wall l_is_wall c_is_wall k_is_wall a_sure_wall l_sure_wall c_sure_wall k_sure_wall a_are_values l_are_values c_are_values k_are_values a_sure_values l_sure_values c_sure_values k_sure_values a_sure_case l_sure_case c_sure_case k_sure_case a_other_side l_other_side c_other_side k_other_side a_contrary l_contrary c_contrary k_contrary a_sum_at l_sum_at c_sum_at k_sum_at a_beyond l_beyond c_beyond k_beyond a_side_in l_side_in c_side_in k_side_in a_side l_side c_side k_side a__law_box l__law_box c__law_box k__law_box a__law_take l__law_take c__law_take k__law_take a__law_cells l__law_cells c__law_cells k__law_cells a__law_same l__law_same c__law_same k__law_same a__law_least l__law_least c__law_least k__law_least a__law_spot l__law_spot c__law_spot k__law_spot a__law_low l__law_low c__law_low k__law_low a__law_times l__law_times c__law_times k__law_times a__law_call l__law_call c__law_call k__law_call a__law_plus l__law_plus c__law_plus k__law_plus a__law_minus l__law_minus c__law_minus k__law_minus a__law_heard l__law_heard c__law_heard k__law_heard a__law_way l__law_way c__law_way k__law_way a__law_six l__law_six c__law_six k__law_six a_law l_law c_law k_law a_CanNot e_CanNot k_CanNot b_CanNot t_CanNot a_Flat e_Flat k_Flat b_Flat t_Flat a_Unfit e_Unfit k_Unfit b_Unfit t_Unfit m_CanNot v_CanNot p1_CanNot p2_CanNot p3_CanNot p4_CanNot p5_CanNot p6 p7 m_Flat v_Flat p1_Flat p2_Flat p3_Flat p4_Flat p5_Flat m_Flat_CanNot ne_Flat_CanNot z_ValueError z_abs z_all z_any z_bool z_enumerate z_int z_isinstance z_len z_list z_range z_str z_tuple z_zip z_gcd
  have e : fa = adr mg "law" := Value.ref.inj (Option.some.inj (hmg.symm.trans T.g_law))
  subst e
  have y_direction_between : adr mg "direction_between" = f_direction_between := by unfold adr; rw [PySem.W.mg_of X G a_direction_between]
  have y_plane_through : adr mg "plane_through" = f_plane_through := by unfold adr; rw [PySem.W.mg_of X G a_plane_through]
  have gd : Good (adr mg) := by
    show [adr mg "direction_between", adr mg "plane_through"].Nodup
    rw [y_direction_between, y_plane_through]; exact hnd
  obtain ⟨oc, od, kV, doc, pm, an, cdv, ct, osl, ef, _⟩ := T.u_law.ex
  refine ⟨fdo K mg "law", fun s u => ?_, fun P w base => Sd.law_end (d_all T) (hp _ gd)⟩
  rw [ef]
  exact .of_eq rfl
end K87
namespace K87
open PySem PySem.Spec L2 RZ Sd Sd.R
variable {A : Str → Addr} {S : Store}
theorem num_int (i : Int) : F_is_number A [.int i] S = .ok (.bl true) S := by
  unfold F_is_number
  rw [fn_ev]
  simp [b_is_number, st0, isTy]
theorem from_int (i j : Int) : F_is_from A [.int i, .int j] S = .ok (.bl (decide (j ≤ i))) S := by
  unfold F_is_from
  rw [fn_ev]
  simp [b_is_from, st0, num_int]
theorem long_pair (x y : D) : F_is_long A [.tup [x, y], .int 2] S = .ok (.bl true) S := by
  unfold F_is_long
  rw [fn_ev]
  simp [b_is_long, st0, isTy]
theorem tupled_int (n : Nat) (i : Int) : F_tupled A (n + 1) [.int i] S = .ok (.int i) S := by
  unfold F_tupled
  rw [fn_ev]
  simp [b_tupled, st0, isTy, tyN]
theorem tupled_pair (n : Nat) (a b : Int) : F_tupled A (n + 2) [.tup [.int a, .int b]] S = .ok (.tup [.int a, .int b]) (S ++ [[.int a, .int b]]) := by
  unfold F_tupled
  rw [fn_ev]
  have h := lc_pure (a := itSeq [.int a, .int b]) (t := .nm 1) (c := tvYes) (f := eCall (F_tupled A (n + 1)) (aCons (eVar 1) aNil)) (ρ := st0 2 [.tup [.int a, .int b]]) (it := iOf (eVar 0)) (vs := [1]) (xs := [.int a, .int b]) [.int a, .int b] (S := S) (S1 := S)
    (by simp [st0, itOf]) rfl (by simp) (fun i g => rfl) (fun i d y g h1 h2 => by
      refine ⟨_, nb_nm, rfl, ?_⟩
      rw [h1] at h2
      cases h2
      have : ∃ j, d = .int j := by
        match i, h1 with
        | 0, h1 => exact ⟨a, (Option.some.inj h1).symm⟩
        | 1, h1 => exact ⟨b, (Option.some.inj h1).symm⟩
      obtain ⟨j, rfl⟩ := this
      simp [st0, wipeL, tupled_int])
  simp only [st0] at h
  simp [b_tupled, st0, isTy, tyN]
  simp at h
  simp [h]
theorem divisor_pair (a b : Int) : F_divisor A [.tup [.int a, .int b]] S = .ok (.int (Int.gcd a b)) S := by
  unfold F_divisor
  rw [fn_ev]
  simp [b_divisor, st0]
  rw [for_seq (xs := [.int a, .int b]) (S1 := S) (by simp [itOf])]
  simp [forL_cons nb_nm, Int.gcd]
theorem isfrac {q : Rat} : F_is_fraction A [toD q] S = .ok (.bl true) S := by
  unfold F_is_fraction
  rw [fn_ev]
  have h1 : ¬ (q.den : Int) < 1 := by have := q.den_pos; omega
  have h2 : Int.gcd q.num q.den = 1 := q.reduced
  have h3 : (1 : Int) ≤ q.den := by omega
  simp [b_is_fraction, st0, toD, long_pair, num_int, from_int, divisor_pair, h3, h2]
theorem sure {q : Rat} : F_sure_fraction A [toD q] S = .ok (toD q) (S ++ [gq q]) := by
  unfold F_sure_fraction
  rw [fn_ev]
  have h := isfrac (A := A) (q := q) (S := S ++ [gq q])
  have h4 := tupled_pair (A := A) (S := S) 2 q.num q.den
  simp [toD, gq] at h
  simp [b_sure_fraction, st0, toD, gq, h4, h]
theorem two {p q : Rat} : F_two A [toD p, toD q] S = .ok (.tup [toD p, toD q]) (S ++ [gq p, gq q]) := by
  unfold F_two
  rw [fn_ev]
  simp [b_two, st0, sure]
theorem made {a b : Int} {k : Nat} (h0 : b ≠ 0) (hb : Sm k b) (hk : k < 9000) : F_made A [.int a, .int b] S = .ok (toD (Rat.divInt a b)) S := by
  unfold F_made
  rw [fn_ev]
  obtain ⟨h1, h2⟩ := div_num a b h0
  have g := gcd_pos (a := a) h0
  have e := fun i S => oDiv_int (S := S) (i := i) g (Sm.gcd hb h0) hk
  by_cases z : 0 < b
  · rw [if_pos z] at h1 h2
    simp [b_made, st0, divisor_pair, z, e, toD, h1, h2]
  · rw [if_neg z] at h1 h2
    simp [b_made, st0, divisor_pair, z, e, toD, h1, h2]
theorem added {p q : Rat} {k : Nat} (hp : Bd k p) (hq : Bd k q) (hk : k < 4000) : F_added A [toD p, toD q] S = .ok (toD (p + q)) (S ++ [gq p, gq q]) := by
  unfold F_added
  rw [fn_ev]
  have m1 := fun S => oMul_int (S := S) hp.n hq.d (by omega)
  have m2 := fun S => oMul_int (S := S) hq.n hp.d (by omega)
  have m3 := fun S => oMul_int (S := S) hp.d hq.d (by omega)
  have md := fun S => made (A := A) (S := S) (a := p.num * q.den + q.num * p.den) (dd_ne p q) (Sm.mul hp.d hq.d) (by omega)
  rw [add_div]
  simp [b_added, st0, two]
  simp [toD] at *
  simp [nb_tp, nb_nm, nbs_cons', nbs_nil, m1, m2, m3, md]
theorem less_ {p q : Rat} {k : Nat} (hp : Bd k p) (hq : Bd k q) (hk : k < 4000) : F_less A [toD p, toD q] S = .ok (toD (p - q)) (S ++ [gq p, gq q]) := by
  unfold F_less
  rw [fn_ev]
  have m1 := fun S => oMul_int (S := S) hp.n hq.d (by omega)
  have m2 := fun S => oMul_int (S := S) hq.n hp.d (by omega)
  have m3 := fun S => oMul_int (S := S) hp.d hq.d (by omega)
  have md := fun S => made (A := A) (S := S) (a := p.num * q.den - q.num * p.den) (dd_ne p q) (Sm.mul hp.d hq.d) (by omega)
  rw [sub_div]
  simp [b_less, st0, two]
  simp [toD] at *
  simp [nb_tp, nb_nm, nbs_cons', nbs_nil, m1, m2, m3, md]
theorem times_ {p q : Rat} {k : Nat} (hp : Bd k p) (hq : Bd k q) (hk : k < 4000) : F_times A [toD p, toD q] S = .ok (toD (p * q)) (S ++ [gq p, gq q]) := by
  unfold F_times
  rw [fn_ev]
  have m1 := fun S => oMul_int (S := S) hp.n hq.n (by omega)
  have m3 := fun S => oMul_int (S := S) hp.d hq.d (by omega)
  have md := fun S => made (A := A) (S := S) (a := p.num * q.num) (dd_ne p q) (Sm.mul hp.d hq.d) (by omega)
  rw [mul_div]
  simp [b_times, st0, two]
  simp [toD] at *
  simp [nb_tp, nb_nm, nbs_cons', nbs_nil, m1, m3, md]
theorem compared_ {p q : Rat} {k : Nat} (hp : Bd k p) (hq : Bd k q) (hk : k < 4000) : F_compared A [toD p, toD q] S = .ok (.int (cmpQ p q)) (S ++ [gq p, gq q]) := by
  unfold F_compared
  rw [fn_ev]
  have m1 := fun S => oMul_int (S := S) hp.n hq.d (by omega)
  have m2 := fun S => oMul_int (S := S) hq.n hp.d (by omega)
  simp [b_compared, st0, two]
  simp [toD] at *
  simp [nb_tp, nb_nm, nbs_cons', nbs_nil, m1, m2, cmpQ, Rat.lt_iff]
theorem oSet_eq {r : Nat} {k : Int} {d : D} : oSet (.lst r) (.int k) d S = (S[r]?).bind fun xs => (ixN xs.length k).map fun j => S.set r (xs.set j d) := rfl
theorem gcd_loop (a b : Int) (h : a.natAbs < fuel) :
    sWhile (tvB (eBin oGt (eVar 2) (eC (.int 0)))) (sPar 2 3 (aCons (eBin oMod (eVar 3) (eVar 2)) (aCons (eVar 2) aNil))) [some (.int a), some (.int b), some (.int a.natAbs), some (.int b.natAbs), none] S =
      .nx [some (.int a), some (.int b), some (.int 0), some (.int (Int.gcd a b)), none] S := by
  refine while_run (fun n ρ S' => S' = S ∧ ∃ x y : Nat, n = x ∧ ρ = [some (.int a), some (.int b), some (.int x), some (.int y), none] ∧ Nat.gcd x y = Int.gcd a b)
    (fun z => z = .nx [some (.int a), some (.int b), some (.int 0), some (.int (Int.gcd a b)), none] S) a.natAbs h ⟨rfl, a.natAbs, b.natAbs, rfl, rfl, rfl⟩ ?_
  rintro n ρ S' ⟨rfl, x, y, rfl, rfl, hg⟩
  by_cases hx : n = 0
  · subst hx
    refine .inl ⟨S', by simp, ?_⟩
    rw [Nat.gcd_zero_left] at hg
    rw [hg]; rfl
  · have hp : (0 : Int) < n := by omega
    refine .inr ⟨S', by simp [hp, Nat.pos_of_ne_zero hx], .inl ⟨[some (.int a), some (.int b), some (.int ((y % n : Nat) : Int)), some (.int n), none], S', y % n, .inl ?_, Nat.mod_lt _ (Nat.pos_of_ne_zero hx), rfl, y % n, n, rfl, rfl, ?_⟩⟩
    · simp [oMod_int hp]
    · rw [← hg, Nat.gcd_rec n y]
theorem low_ {a b : Int} {k : Nat} (h0 : b ≠ 0) (ha : Sm k a) (hb : Sm k b) (hk : k < 139) : F__law_low A [.int a, .int b] S = .ok (toD (Rat.divInt a b)) S := by
  unfold F__law_low
  rw [fn_ev]
  have hf : a.natAbs < fuel := by
    unfold Sm at ha
    have : 2 ^ k ≤ 2 ^ 138 := Nat.pow_le_pow_right (by decide) (by omega)
    have : 2 ^ 138 < fuel := by unfold fuel; decide
    omega
  have s1 : Sm 1 1 := by unfold Sm; decide
  have s2 : Sm 1 (-1) := by unfold Sm; decide
  obtain ⟨h1, h2⟩ := div_num a b h0
  have g := gcd_pos (a := a) h0
  have e := fun i S => oDiv_int (S := S) (i := i) g (Sm.gcd hb h0) (by omega)
  have w := gcd_loop (S := S) a b hf
  have m1 := fun S => oMul_int (S := S) s1 ha (by omega)
  have m2 := fun S => oMul_int (S := S) s1 hb (by omega)
  have m3 := fun S => oMul_int (S := S) s2 ha (by omega)
  have m4 := fun S => oMul_int (S := S) s2 hb (by omega)
  by_cases z : 0 < b
  · rw [if_pos z] at h1 h2
    simp [b__law_low, st0, abs_eq, w, z, m1, m2, e, toD, h1, h2, -x_tvB, -x_sPar, -x_eBin]
    simp [b__law_low, st0, abs_eq, w, z, m1, m2, e, toD, h1, h2]
  · rw [if_neg z] at h1 h2
    simp [b__law_low, st0, abs_eq, w, z, m3, m4, e, toD, h1, h2, -x_tvB, -x_sPar, -x_eBin]
    simp [b__law_low, st0, abs_eq, w, z, m3, m4, e, toD, h1, h2]
theorem lplus_ {p q : Rat} {k : Nat} (hp : Bd k p) (hq : Bd k q) (hk : k < 69) : F__law_plus A [toD p, toD q] S = .ok (toD (p + q)) S := by
  unfold F__law_plus
  rw [fn_ev]
  have m1 := fun S => oMul_int (S := S) hp.n hq.d (by omega)
  have m2 := fun S => oMul_int (S := S) hq.n hp.d (by omega)
  have m3 := fun S => oMul_int (S := S) hp.d hq.d (by omega)
  have md := fun S => low_ (A := A) (S := S) (a := p.num * q.den + q.num * p.den) (dd_ne p q) (Sm.add (Sm.mul hp.n hq.d) (Sm.mul hq.n hp.d)) (Sm.mono (Sm.mul hp.d hq.d) (by omega)) (by omega)
  rw [add_div]
  simp [toD] at md
  simp [b__law_plus, st0, toD, m1, m2, m3, md]
theorem ltimes_ {p q : Rat} {k l : Nat} (hp : Bd k p) (hq : Bd l q) (hk : k + l < 139) : F__law_times A [toD p, toD q] S = .ok (toD (p * q)) S := by
  unfold F__law_times
  rw [fn_ev]
  have m1 := fun S => oMul_int (S := S) hp.n hq.n (by omega)
  have m3 := fun S => oMul_int (S := S) hp.d hq.d (by omega)
  have md := fun S => low_ (A := A) (S := S) (a := p.num * q.num) (dd_ne p q) (Sm.mul hp.n hq.n) (Sm.mul hp.d hq.d) (by omega)
  rw [mul_div]
  simp [toD] at md
  simp [b__law_times, st0, toD, m1, m3, md]
/-! the draws -/
def Tin (c r : Nat) (S : Store) : Prop := ∃ x y n : Int, S[r]? = some [.int x, .int y, .int n] ∧ 0 ≤ y ∧ Sm 64 y ∧ 0 ≤ n ∧ n ≤ c
theorem Tin.lt {c r : Nat} {S : Store} (h : Tin c r S) : r < S.length := by
  obtain ⟨x, y, n, h, _⟩ := h
  exact (List.getElem?_eq_some_iff.mp h).1
theorem Tin.app {c r : Nat} {S : Store} (h : Tin c r S) (g : Store) : Tin c r (S ++ g) := by
  obtain ⟨x, y, n, h, h2⟩ := h
  exact ⟨x, y, n, by rw [List.getElem?_append_left (List.getElem?_eq_some_iff.mp h).1]; exact h, h2⟩
theorem Sm.of {k : Nat} {i : Int} (h0 : 0 ≤ i) (h : i < ((2 ^ k : Nat) : Int)) : Sm k i := by
  unfold Sm; omega
theorem take_ {c r k : Nat} {j : Int} (hT : Tin c r S) (hc : c < 1000000) (h0 : 0 < j) (hj : Sm k j) (hk : k < 9000) :
    ∃ v S', F__law_take A [.lst r, .int j] S = .ok (.int v) S' ∧ 0 ≤ v ∧ v < j ∧ Tin (c + 1) r S' ∧ S'.length = S.length ∧ ∀ q, q ≠ r → S'[q]? = S[q]? := by
  obtain ⟨x, y, n, hS, hy, hy2, hn, hnc⟩ := hT
  obtain ⟨hr, hg⟩ := List.getElem?_eq_some_iff.mp hS
  unfold F__law_take
  rw [fn_ev]
  have md := fun i S => oMod_int (S := S) (i := i) h0
  by_cases hx : 0 < x
  · have dv := fun i S => oDiv_int (S := S) (i := i) h0 hj hk
    refine ⟨x % j, S.set r [.int (x / j), .int y, .int n], ?_, Int.emod_nonneg _ (by omega), Int.emod_lt_of_pos _ h0, ⟨x / j, y, n, by simp [hr], hy, hy2, hn, by omega⟩, by simp, fun q hq => List.getElem?_set_ne (Ne.symm hq)⟩
    simp [b__law_take, st0, hS, hx, md, dv, oSet_eq, ixN]
  · have n1 : Sm 21 (n + 1) := Sm.of (by omega) (by omega)
    have a1 : Sm 16 48271 := by unfold Sm; decide
    have t1 := Sm.mul a1 n1
    have t2 := Sm.add hy2 (Sm.mono t1 (by decide : 16 + 21 ≤ 64))
    have t3 : Sm 22 (39373 + (n + 1)) := Sm.of (by omega) (by omega)
    have M := fun (i : Int) (j : Int) (S : Store) (h : 0 < j) => oMod_int (S := S) (i := i) h
    generalize e1 : (y + 48271 * (n + 1)) * (39373 + (n + 1)) = o1
    have b1 : 0 ≤ o1 % 2147483647 := Int.emod_nonneg _ (by decide)
    have b2 : o1 % 2147483647 < 2147483647 := Int.emod_lt_of_pos _ (by decide)
    generalize e2 : o1 % 2147483647 = o2 at b1 b2
    have b3 : 0 ≤ o2 % 40009 := Int.emod_nonneg _ (by decide)
    have b4 : o2 % 40009 < 40009 := Int.emod_lt_of_pos _ (by decide)
    generalize e3 : o2 % 40009 = o3 at b3 b4
    have t4 : Sm 17 (o3 + 7) := Sm.of (by omega) (by omega)
    have b5 : 0 ≤ y / 1000003 := Int.ediv_nonneg hy (by decide)
    have b6 : y / 1000003 ≤ y := Int.ediv_le_self _ hy
    have t5 : Sm 66 (o2 + (n + 1) + y / 1000003) := by
      refine Sm.of (by omega) ?_
      have : y < 2 ^ 64 := by unfold Sm at hy2; omega
      omega
    generalize e4 : (o2 + (n + 1) + y / 1000003) * (o3 + 7) = o4
    have b7 : 0 ≤ o4 % 2147483629 := Int.emod_nonneg _ (by decide)
    have b8 : o4 % 2147483629 < 2147483629 := Int.emod_lt_of_pos _ (by decide)
    generalize e5 : o4 % 2147483629 = o5 at b7 b8
    have t6 : Sm 32 o5 := Sm.of (by omega) (by omega)
    have q1 := fun S => oMul_int (S := S) a1 n1 (by omega)
    have q2 := fun S => oMul_int (S := S) t2 t3 (by omega)
    have q3 := fun S => oMul_int (S := S) t5 t4 (by omega)
    have q4 := fun S => oMul_int (S := S) t6 a1 (by omega)
    have d1 := fun i S => oDiv_int (S := S) (i := i) (j := 1000003) (k := 21) (by decide) (by unfold Sm; decide) (by decide)
    have d2 := fun i S => oDiv_int (S := S) (i := i) (j := 64) (k := 21) (by decide) (by unfold Sm; decide) (by decide)
    have p1 := fun i S => oMod_int (S := S) (i := i) (j := 2147483647) (by decide)
    have p2 := fun i S => oMod_int (S := S) (i := i) (j := 40009) (by decide)
    have p3 := fun i S => oMod_int (S := S) (i := i) (j := 2147483629) (by decide)
    have p4 := fun i S => oMod_int (S := S) (i := i) (j := 2147483587) (by decide)
    refine ⟨(o5 * 48271 + o2) % 2147483587 / 64 % j, S.set r [.int x, .int y, .int (n + 1)], ?_, Int.emod_nonneg _ (by omega), Int.emod_lt_of_pos _ h0, ⟨x, y, n + 1, by simp [hr], hy, hy2, by omega, by omega⟩, by simp, fun q hq => List.getElem?_set_ne (Ne.symm hq)⟩
    simp [b__law_take, st0, hg, hx, hr, oSet_eq, ixN, q1, q2, e1, p1, e2, p2, e3, d1, q3, e4, p3, e5, q4, p4, d2, md]
/-- a value of the script's first cell -/
theorem box_ {q : Nat} {v : Int} (hS : S[q]? = some [.int v]) (hv : Sm 1100000 v) : ∃ S', F__law_box A [.lst q, .int 0] S = .ok (.lst S.length) S' ∧ Tin 0 S.length S' := by
  unfold F__law_box
  rw [fn_ev]
  have pw : ∀ S, oPow (.int 10) (.int 18) S = some (.int (10 ^ 18), S) := fun S => by simp [oPow]
  have hz : ∀ b : Bool, Sm 1 (if b = true then 1 else 0) := fun b => by unfold Sm; cases b <;> decide
  have ha : Sm 1100000 (if v < 0 then -v else v) := by unfold Sm at *; split <;> omega
  have m1 := fun S b => oMul_int (S := S) ha (hz b) (by omega)
  have m2 : ∀ S, oMul (.int 39373) (.int 0) S = some (.int 0, S) := fun S => oMul_int (S := S) (i := 39373) (j := 0) (k := 20) (l := 1) (by unfold Sm; decide) (by unfold Sm; decide) (by decide)
  have p1 := fun i S => oMod_int (S := S) (i := i) (j := 2305843009213693951) (by decide)
  have b1 : 0 ≤ v % 2305843009213693951 := Int.emod_nonneg _ (by decide)
  have b2 : v % 2305843009213693951 < 2305843009213693951 := Int.emod_lt_of_pos _ (by decide)
  refine ⟨S ++ [[.int ((v.natAbs : Int) * (if 10 ^ 18 ≤ (v.natAbs : Int) then 1 else 0)), .int (v % 2305843009213693951 + 0 + 3179068), .int 0]], ?_, ((v.natAbs : Int) * (if 10 ^ 18 ≤ (v.natAbs : Int) then 1 else 0)), v % 2305843009213693951 + 0 + 3179068, 0, ?_, by omega, Sm.of (by omega) (by omega), by decide, by decide⟩
  · simp only [abs_eq] at m1
    have m1' := fun S => m1 S (decide (10 ^ 18 ≤ (v.natAbs : Int)))
    simp at m1'
    simp [b__law_box, st0, hS, pw, abs_eq, m1', m2, p1]
  · simp
theorem bits_sm {z : Int} (h : Builtin.Int.intBits z ≤ 1048576) : Sm 1048576 z := by
  unfold Builtin.Int.intBits at h
  unfold Sm
  split at h
  · rename_i e
    have : z = 0 := by simpa using e
    subst this
    exact Nat.two_pow_pos _
  · rename_i e
    have hz : z.natAbs ≠ 0 := by
      intro h0
      apply e
      have : z = 0 := by omega
      simp [this]
    exact Nat.lt_of_lt_of_le Nat.lt_log2_self (Nat.pow_le_pow_right (by decide) h)
theorem cells_ {ns : List Int} (hl : ns.length ≤ 63) (hb : ∀ z ∈ ns, Builtin.Int.intBits z ≤ 1048576) : ∃ q v S', F__law_cells A [.fz (ns.map .int), .int 1] S = .ok (.lst q) S' ∧ S'[q]? = some [.int v] ∧ Sm 1100000 v := by
  -- what the first list holds
  have first : ∃ q v S1, sSet 2 (eOr (eCallO cList (aCons (eSl (eVar 0) oNone (oSome (eVar 1))) aNil)) (eLst (aCons (eC (.int 0)) aNil))) (st0 6 [.fz (ns.map .int), .int 1]) S = .nx [some (.fz (ns.map .int)), some (.int 1), some (.lst q), none, none, none] S1 ∧ S1[q]? = some [.int v] ∧ Sm 1048576 v := by
    cases ns with
    | nil =>
      refine ⟨S.length + 2, 0, S ++ [[], [], [.int 0]], ?_, by simp, by unfold Sm; exact Nat.two_pow_pos _⟩
      simp [st0, eSl, oNone, oSome, oSl, cutD, HT.sIx]
    | cons z t =>
      refine ⟨S.length + 1, z, S ++ [[.int z], [.int z]], ?_, by simp, bits_sm (hb z List.mem_cons_self)⟩
      have e : min 1 (t.length + 1) = 1 := by omega
      simp [st0, eSl, oNone, oSome, oSl, cutD, HT.sIx, e]
  obtain ⟨q, v, S1, h1, h2, h3⟩ := first
  have hq1 := (List.getElem?_eq_some_iff.mp h2).1
  generalize hxs : ns.map D.int = xs at *
  have hzs : ∀ (i : Nat) (d : D), (cutD xs (some 1) (some 63))[i]? = some d → ∃ z, d = .int z ∧ Sm 1048576 z ∧ i < 63 := by
    intro i d hd
    have hm : d ∈ cutD xs (some 1) (some 63) := List.mem_of_getElem? hd
    unfold cutD at hm hd
    have hm2 : d ∈ xs := List.mem_of_mem_drop (List.mem_of_mem_take hm)
    rw [← hxs] at hm2
    obtain ⟨z, hz, rfl⟩ := List.mem_map.mp hm2
    refine ⟨z, rfl, bits_sm (hb z hz), ?_⟩
    have := (List.getElem?_eq_some_iff.mp hd).1
    rw [List.length_take, List.length_drop, ← hxs, List.length_map] at this
    omega
  have hlz : (cutD xs (some 1) (some 63)).length ≤ 63 := by
    unfold cutD
    rw [List.length_take, List.length_drop, ← hxs, List.length_map]
    omega
  generalize hz0 : cutD xs (some 1) (some 63) = zs at *
  obtain ⟨ρ', S', h4, v', h5, h6, h7, h8⟩ := for_run (it := iEnumE (aCons (eSl (eVar 0) (oSome (eVar 1)) (oSome (eC (.int 63)))) aNil)) (t := .tp [(.nm 3), (.nm 4)])
    (b := sSeq (sSet 5 (eBin oMod (eCallO cInt (aCons (eVar 3) aNil)) (eVar 1))) (sSub (eBin oAdd (eBin oIx (eVar 2) (eVar 5)) (eBin oMul (eVar 4) (eBin oAdd (eVar 3) (eC (.int 2))))) (eVar 2) (eVar 5)))
    (a := itEnum (itLst S1.length)) (xs := zs.zipIdx.map fun p => .tup [.int p.2, p.1]) (ρ := [some (.fz xs), some (.int 1), some (.lst q), none, none, none]) (S := S1) (S1 := S1 ++ [zs])
    (fun i ρ T => ∃ v, T[q]? = some [.int v] ∧ T[S1.length]? = some zs ∧ Sm (1048590 + i) v ∧ ∃ x y w, ρ = [some (.fz xs), some (.int 1), some (.lst q), x, y, w])
    (by simp [iEnumE, eSl, oSome, oSl, hz0]) (by simp [fuel]; omega) ⟨v, by rw [List.getElem?_append_left hq1]; exact h2, by simp, Sm.mono h3 (by omega), none, none, none, rfl⟩
    (by
      rintro i ρ T ⟨v, _, e, _⟩
      simp [itEnum, itLst, e, List.getElem?_zipIdx]
      cases zs[i]? <;> simp)
    (by
      rintro i d ρ T hd ⟨v, e1, e2, e3, x, y, w, rfl⟩
      rw [List.getElem?_map, List.getElem?_zipIdx] at hd
      cases e : zs[i]? with
      | none => rw [e] at hd; simp at hd
      | some d0 =>
        rw [e] at hd
        simp at hd
        subst hd
        obtain ⟨z, rfl, hz, hi⟩ := hzs i d0 e
        have hmul := fun S => oMul_int (S := S) (i := z) (j := (i : Int) + 2) (k := 1048576) (l := 7) hz (Sm.of (by omega) (by omega)) (by decide)
        have p1 := fun i S => oMod_int (S := S) (i := i) (j := 1) (by decide)
        have hq := (List.getElem?_eq_some_iff.mp e1).1
        refine ⟨[some (.fz xs), some (.int 1), some (.lst q), some (.int i), some (.int z), w], [some (.fz xs), some (.int 1), some (.lst q), some (.int i), some (.int z), some (.int 0)], T.set q [.int (v + z * ((i : Int) + 2))], ?_, .inl ?_, v + z * ((i : Int) + 2), ?_, ?_, ?_, _, _, _, rfl⟩
        · simp [nb_tp, nb_nm, nbs_cons', nbs_nil]
        · obtain ⟨hq2, e1'⟩ := List.getElem?_eq_some_iff.mp e1
          simp [p1, hmul, oSet_eq, ixN, e1', hq2]
        · simp [hq]
        · rw [List.getElem?_set_ne (by omega)]
          exact e2
        · exact Sm.mono (Sm.add (k := 1048590 + i) e3 (Sm.mono (Sm.mul hz (show Sm 7 ((i : Int) + 2) from Sm.of (by omega) (by omega))) (by omega))) (by show 1048590 + i + 1 ≤ 1048590 + (i + 1); omega))
  obtain ⟨x, y, w, rfl⟩ := h8
  refine ⟨q, v', S', ?_, h5, Sm.mono h7 (by rw [List.length_map, List.length_zipIdx]; omega)⟩
  unfold F__law_cells
  rw [fn_ev]
  unfold b__law_cells
  rw [x_sSeq, h1, sq_nx, x_sSeq, h4, sq_nx]
  simp
inductive EqD (S : Store) : Nat → D → D → Prop
  | int (n : Nat) (i : Int) : EqD S (n + 1) (.int i) (.int i)
  | bl (n : Nat) (b : Bool) : EqD S (n + 1) (.bl b) (.bl b)
  | str (n : Nat) (x : Str) (h : PyData.strOk x = true) : EqD S (n + 1) (.str x) (.str x)
  | tup (n : Nat) (xs ys : List D) (hl : xs.length = ys.length) (hb : xs.length ≤ 1000000) (h : ∀ (i : Nat) (x y : D), xs[i]? = some x → ys[i]? = some y → EqD S n x y) : EqD S (n + 1) (.tup xs) (.tup ys)
  | lst (n r q : Nat) (xs ys : List D) (hr : S[r]? = some xs) (hq : S[q]? = some ys) (hl : xs.length = ys.length) (hb : xs.length ≤ 1000000) (h : ∀ (i : Nat) (x y : D), xs[i]? = some x → ys[i]? = some y → EqD S n x y) : EqD S (n + 1) (.lst r) (.lst q)
theorem EqD.app {n : Nat} {d e : D} (h : EqD S n d e) (g : Store) : EqD (S ++ g) n d e := by
  induction h with
  | int n i => exact .int n i
  | bl n b => exact .bl n b
  | str n x h => exact .str n x h
  | tup n xs ys hl hb h ih => exact .tup n xs ys hl hb ih
  | lst n r q xs ys hr hq hl hb h ih =>
    exact .lst n r q xs ys (by rw [get_app (List.getElem?_eq_some_iff.mp hr).1]; exact hr) (by rw [get_app (List.getElem?_eq_some_iff.mp hq).1]; exact hq) hl hb ih
theorem EqD.pos {n : Nat} {d e : D} (h : EqD S n d e) : ∃ m, n = m + 1 := by cases h <;> exact ⟨_, rfl⟩
theorem mapO_true (n : Nat) : mapO asB (List.replicate n (.bl true)) = some (List.replicate n true) := by
  induction n with
  | zero => simp [mapO]
  | succ n ih => rw [List.replicate_succ, List.replicate_succ]; unfold mapO; rw [ih]; simp [asB]
theorem all_true (n : Nat) (r : Nat) (S : Store) (h : S[r]? = some (List.replicate n (.bl true))) : cAll [.lst r] S = some (.bl true, S) := by
  show (S[r]?).bind (fun xs => (mapO asB xs).map fun bs => (D.bl (bs.all id), S)) = _
  rw [h]
  show (mapO asB _).map _ = _
  rw [mapO_true]
  simp
theorem same_zip {xs ys : List D} (hl : xs.length = ys.length) (hb : xs.length ≤ 1000000) {a b : Itr} {d e : D} (ha : ∀ g i, a (S ++ g) i = xs[i]?) (hbb : ∀ g i, b (S ++ g) i = ys[i]?) (hit : iZipE (aCons (eVar 0) (aCons (eVar 1) aNil)) [some d, some e, none, none] S = .ok (itZip a b) S)
    (R : Fv) (ih : ∀ (i : Nat) (x y : D), xs[i]? = some x → ys[i]? = some y → ∀ g, ∃ g', R [x, y] (S ++ g) = .ok (.bl true) (S ++ g ++ g')) :
    ∃ g, eLc [2, 3] (iZipE (aCons (eVar 0) (aCons (eVar 1) aNil))) (.tp [(.nm 2), (.nm 3)]) tvYes (eCall R (aCons (eVar 2) (aCons (eVar 3) aNil))) [some d, some e, none, none] S = .ok (.lst S.length) (S ++ [List.replicate xs.length (.bl true)] ++ g) := by
  refine lc_new (xs := (xs.zip ys).map fun p => .tup [p.1, p.2]) (List.replicate xs.length (.bl true)) hit (by simp [List.length_zip, ← hl]) (by simpa using hb) (fun i g => ?_) (fun i d y g h1 h2 => ?_)
  · unfold itZip
    rw [ha, hbb]
    rw [List.getElem?_map]
    cases e1 : xs[i]? with
    | none =>
      have e2 : (xs.zip ys)[i]? = none := List.getElem?_eq_none (by rw [List.length_zip]; have := List.getElem?_eq_none_iff.mp e1; omega)
      rw [e2]
      rfl
    | some x =>
      obtain ⟨hx, rfl⟩ := List.getElem?_eq_some_iff.mp e1
      rw [List.getElem?_eq_getElem (by omega : i < ys.length), List.getElem?_eq_getElem (by rw [List.length_zip, ← hl, Nat.min_self]; exact hx)]
      simp
  · rw [List.getElem?_map] at h1
    have hy : y = .bl true := by
      have := List.mem_of_getElem? h2
      exact (List.mem_replicate.mp this).2
    subst hy
    cases e1 : (xs.zip ys)[i]? with
    | none => rw [e1] at h1; cases h1
    | some p =>
      rw [e1] at h1
      cases h1
      obtain ⟨hp, rfl⟩ := List.getElem?_eq_some_iff.mp e1
      rw [List.length_zip] at hp
      obtain ⟨g', hg⟩ := ih i xs[i] ys[i] (List.getElem?_eq_getElem (by omega)) (List.getElem?_eq_getElem (by omega)) g
      refine ⟨[some d, some e, some xs[i], some ys[i]], g', ?_, rfl, ?_⟩
      · simp [nb_tp, nb_nm, nbs_cons', nbs_nil, wipeL]
      · rw [← hg]
        simp
theorem same_ : ∀ (n : Nat) {S : Store} {d e : D}, EqD S n d e → ∃ g, F__law_same A n [d, e] S = .ok (.bl true) (S ++ g)
  | 0, S, d, e, h => by obtain ⟨m, hm⟩ := h.pos; cases hm
  | n + 1, S, d, e, h => by
    unfold F__law_same
    rw [fn_ev]
    cases h with
    | int _ i => exact ⟨[], by simp [b__law_same, st0, isTy, tyN]⟩
    | bl _ i => exact ⟨[], by simp [b__law_same, st0, isTy, tyN]⟩
    | str _ i h =>
      refine ⟨[], ?_⟩
      have e : ∀ S, oEq (.str i) (.str i) S = some (.bl true, S) := fun S => by
        unfold oEq toP
        simp [h, PyData.eqv]
      simp [b__law_same, st0, isTy, tyN, e]
    | tup _ xs ys hl hb h =>
      obtain ⟨g, hg⟩ := same_zip (S := S) hl hb (a := itSeq xs) (b := itSeq ys) (d := .tup xs) (e := .tup ys) (fun g i => rfl) (fun g i => rfl) (by simp [iZipE, isL, isT]) (F__law_same A n) (fun i x y h1 h2 g => same_ n ((h i x y h1 h2).app g))
      refine ⟨[List.replicate xs.length (.bl true)] ++ g, ?_⟩
      have ha := all_true xs.length S.length (S ++ ([List.replicate xs.length (.bl true)] ++ g)) (by simp)
      rw [List.append_assoc] at hg
      simp only [List.singleton_append] at *
      simp [b__law_same, st0, isTy, tyN, hl, hg]
      rw [← hl, ha]
      simp
    | lst _ r q xs ys hr hq hl hb h =>
      have hr1 := (List.getElem?_eq_some_iff.mp hr).1
      have hq1 := (List.getElem?_eq_some_iff.mp hq).1
      obtain ⟨g, hg⟩ := same_zip (S := S) hl hb (a := itLst r) (b := itLst q) (d := .lst r) (e := .lst q) (fun g i => by unfold itLst; rw [get_app hr1, hr]; rfl) (fun g i => by unfold itLst; rw [get_app hq1, hq]; rfl) (by simp [iZipE, isL, isT]) (F__law_same A n) (fun i x y h1 h2 g => same_ n ((h i x y h1 h2).app g))
      refine ⟨[List.replicate xs.length (.bl true)] ++ g, ?_⟩
      have ha := all_true xs.length S.length (S ++ ([List.replicate xs.length (.bl true)] ++ g)) (by simp)
      rw [List.append_assoc] at hg
      simp only [List.singleton_append] at *
      simp [b__law_same, st0, isTy, tyN, hr, hq, hl, hg]
      rw [← hl, ha]
      simp
end K87
/-! Pev2: sizes by instances; loops and comprehensions over short rows run by simp. -/
namespace Sd
open PySem PySem.Spec L2
theorem sm_mono {k l : Nat} {i : Int} (h : Sm k i) (hl : k ≤ l) : Sm l i := Nat.lt_of_lt_of_le h (Nat.pow_le_pow_right (by decide) hl)
theorem sm_mul {k l : Nat} {i j : Int} (hi : Sm k i) (hj : Sm l j) : Sm (k + l) (i * j) := by
  unfold Sm at *
  rw [Int.natAbs_mul, Nat.pow_add]
  exact Nat.mul_lt_mul'' hi hj
theorem sm_add {k l : Nat} {i j : Int} (hi : Sm k i) (hj : Sm l j) : Sm (k + l + 1) (i + j) := by
  have h1 := sm_mono hi (Nat.le_add_right k l)
  have h2 := sm_mono hj (Nat.le_add_left l k)
  unfold Sm at *
  rw [Nat.pow_succ]
  omega
theorem sm_neg {k : Nat} {i : Int} (hi : Sm k i) : Sm k (-i) := by
  unfold Sm at *
  rw [Int.natAbs_neg]; exact hi
theorem sm_sub {k l : Nat} {i j : Int} (hi : Sm k i) (hj : Sm l j) : Sm (k + l + 1) (i - j) := by
  rw [Int.sub_eq_add_neg]
  exact sm_add hi (sm_neg hj)
/-- i has fewer than n bits -/
class Bnd (i : Int) (n : outParam Nat) : Prop where
  h : Sm n i
instance bnd_mul {i j : Int} {n m : Nat} [a : Bnd i n] [b : Bnd j m] : Bnd (i * j) (n + m) := ⟨sm_mul a.h b.h⟩
instance bnd_add {i j : Int} {n m : Nat} [a : Bnd i n] [b : Bnd j m] : Bnd (i + j) (n + m + 1) := ⟨sm_add a.h b.h⟩
instance bnd_sub {i j : Int} {n m : Nat} [a : Bnd i n] [b : Bnd j m] : Bnd (i - j) (n + m + 1) := ⟨sm_sub a.h b.h⟩
instance bnd_neg {i : Int} {n : Nat} [a : Bnd i n] : Bnd (-i) n := ⟨sm_neg a.h⟩
instance bnd_lit {k : Nat} : Bnd (OfNat.ofNat k : Int) k := ⟨show (k : Int).natAbs < 2 ^ k by rw [Int.natAbs_natCast]; exact Nat.lt_two_pow_self⟩
instance bnd_sq {i : Int} {n : Nat} [a : Bnd i n] : Bnd (i ^ 2) (n + n) := ⟨by rw [Int.pow_succ, Int.pow_succ, Int.pow_zero, Int.one_mul]; exact sm_mul a.h a.h⟩
instance bnd_cube {i : Int} {n : Nat} [a : Bnd i n] : Bnd (i ^ 3) (n + n + n) := ⟨by rw [Int.pow_succ, Int.pow_succ, Int.pow_succ, Int.pow_zero, Int.one_mul]; exact sm_mul (sm_mul a.h a.h) a.h⟩
section
variable {S : Store} {i j : Int} {n m : Nat}
theorem mul_b [a : Bnd i n] [b : Bnd j m] (h : n + m < 9000000) : oMul (.int i) (.int j) S = some (.int (i * j), S) := oMul_int a.h b.h h
theorem sq_b [a : Bnd i n] (h : n ≤ 64) : oPow (.int i) (.int 2) S = some (.int (i ^ 2), S) := by
  have h1 := sm_mono a.h h
  unfold Sm at h1
  show (if (0 : Int) ≤ 2 ∧ (2 : Int) ≤ 1000000 ∧ i.natAbs < 2 ^ 64 then some (D.int (i ^ (2 : Int).toNat), S) else none) = _
  rw [if_pos ⟨by decide, by decide, h1⟩]
  rfl
theorem cube_b [a : Bnd i n] (h : n ≤ 64) : oPow (.int i) (.int 3) S = some (.int (i ^ 3), S) := by
  have h1 := sm_mono a.h h
  unfold Sm at h1
  show (if (0 : Int) ≤ 3 ∧ (3 : Int) ≤ 1000000 ∧ i.natAbs < 2 ^ 64 then some (D.int (i ^ (3 : Int).toNat), S) else none) = _
  rw [if_pos ⟨by decide, by decide, h1⟩]
  rfl
theorem div_b [b : Bnd j m] (h0 : 0 < j) (h : m < 9000) : oDiv (.int i) (.int j) S = some (.int (i / j), S) := oDiv_int h0 b.h h
end
/-! loops over rows -/
def forRun (a : Itr) (t : NT) (b : Sv) : Sv := sForGo a t b fuel 0
def lcL (t : NT) (c : Tv) (f : Ev) (ρ : Loc) (r : Nat) : List D → Store → Res Unit
  | [], S => .ok () S
  | d :: xs, S => match t.b d ρ with
      | none => .no
      | some ρ1 => (c ρ1 S).nox.bind fun k S2 => if k = true then (f ρ1 S2).nox.bind fun x S3 => match S3[r]? with
          | some acc => if acc.length < lim then lcL t c f ρ r xs (S3.set r (acc ++ [x])) else .no
          | none => .no
        else lcL t c f ρ r xs S2
def lcRun (a : Itr) (t : NT) (c : Tv) (f : Ev) (ρ : Loc) (S : Store) : Res D := (lcGo a t c f ρ S.length fuel 0 (S ++ [[]])).bind fun _ S2 => .ok (.lst S.length) S2
theorem lcGo_seq {t : NT} {c : Tv} {f : Ev} {ρ : Loc} {r : Nat} {xs : List D} : ∀ (n i : Nat) (S : Store), xs.length - i < n → lcGo (itSeq xs) t c f ρ r n i S = lcL t c f ρ r (xs.drop i) S
  | 0, i, S, h => by omega
  | n + 1, i, S, h => by
    unfold lcGo
    show (match xs[i]? with | none => Res.ok () S | some d => _) = _
    cases e : xs[i]? with
    | none =>
      rw [List.drop_eq_nil_of_le (List.getElem?_eq_none_iff.mp e)]
      rfl
    | some d =>
      obtain ⟨hlt, rfl⟩ := List.getElem?_eq_some_iff.mp e
      rw [List.drop_eq_getElem_cons hlt]
      have ih := fun S => lcGo_seq (t := t) (c := c) (f := f) (ρ := ρ) (r := r) (xs := xs) n (i + 1) S (by omega)
      simp only [ih]
      conv => rhs; unfold lcL
      try rfl
def tgR (o : Option Loc) (k : Loc → Res Unit) : Res Unit := match o with | none => .no | some ρ1 => k ρ1
def pushR (S : Store) (r : Nat) (x : D) (k : Store → Res Unit) : Res Unit := match S[r]? with
  | some acc => if acc.length < lim then k (S.set r (acc ++ [x])) else .no
  | none => .no
section
variable {ρ : Loc} {S : Store} {t : NT} {b : Sv} {c : Tv} {f : Ev} {it : Iv} {xs ys : List D} {vs : List Nat} {r : Nat} {d : D}
@[simp] theorem y_sFor : sFor it t b ρ S = (it ρ S).st ρ fun a S1 => forRun a t b ρ S1 := rfl
@[simp] theorem y_forRun (h : xs.length < 1000) : forRun (itSeq xs) t b ρ S = forL t b xs ρ S := by
  unfold forRun
  rw [forGo_seq _ _ _ _ (by unfold fuel; omega)]
  rfl
def tgS (o : Option Loc) (k : Loc → SRes) : SRes := match o with | none => .no | some ρ1 => k ρ1
@[simp] theorem tgS_some {k : Loc → SRes} : tgS (some ρ) k = k ρ := rfl
@[simp] theorem y_forL : forL t b (d :: xs) ρ S = tgS (t.b d ρ) fun ρ1 => (b ρ1 S).lp (forL t b xs) := rfl
@[simp] theorem y_eLc : eLc vs it t c f ρ S = (it ρ S).bind fun a S1 => lcRun a t c f (wipeL ρ vs) S1 := rfl
@[simp] theorem y_lcRun (h : xs.length < 1000) : lcRun (itSeq xs) t c f ρ S = (lcL t c f ρ S.length xs (S ++ [[]])).bind fun _ S2 => .ok (.lst S.length) S2 := by
  unfold lcRun
  rw [lcGo_seq _ _ _ (by unfold fuel; omega)]
  rfl
@[simp] theorem tgR_some {k : Loc → Res Unit} : tgR (some ρ) k = k ρ := rfl
@[simp] theorem y_lcL0 : lcL t c f ρ r [] S = .ok () S := rfl
@[simp] theorem y_lcL : lcL t c f ρ r (d :: xs) S = tgR (t.b d ρ) fun ρ1 => (c ρ1 S).nox.bind fun k S2 => if k = true then (f ρ1 S2).nox.bind fun x S3 => pushR S3 r x fun S4 => lcL t c f ρ r xs S4 else lcL t c f ρ r xs S2 := rfl
@[simp] theorem y_push {S g : Store} {acc : List D} {x : D} {k : Store → Res Unit} (h : acc.length < 1000) : pushR (S ++ acc :: g) S.length x k = k (S ++ (acc ++ [x]) :: g) := by
  unfold pushR
  rw [List.getElem?_append_right (Nat.le_refl _), Nat.sub_self]
  dsimp only [List.getElem?_cons_zero]
  rw [if_pos (by unfold lim; omega), List.set_append_right _ _ (Nat.le_refl _), Nat.sub_self]
  rfl
@[simp] theorem y_nbnm {i : Nat} : (NT.nm i).b d ρ = some (ρ.set i (some d)) := nb_nm
@[simp] theorem y_nbtp {ts : List NT} : (NT.tp ts).b (.tup xs) ρ = NT.bs ts xs ρ := nb_tp
@[simp] theorem y_nbs0 : NT.bs [] [] ρ = some ρ := nbs_nil
@[simp] theorem y_nbs {u : NT} {ts : List NT} {x : D} : NT.bs (u :: ts) (x :: xs) ρ = (NT.b u x ρ).bind fun ρ' => NT.bs ts xs ρ' := nbs_cons'
def unlR (ts : List NT) (d : D) (ρ : Loc) (S : Store) : SRes := match d with
  | .lst r => match S[r]? with
    | some xs => match NT.bs ts xs ρ with
      | some ρ' => .nx ρ' S
      | none => .no
    | none => .no
  | _ => .no
@[simp] theorem y_sUnl {ts : List NT} : sUnl ts f ρ S = (f ρ S).st ρ fun d S1 => unlR ts d ρ S1 := rfl
theorem unl_lst {ts : List NT} {ρ' : Loc} (h : S[r]? = some xs) (h2 : NT.bs ts xs ρ = some ρ') : unlR ts (.lst r) ρ S = .nx ρ' S := by
  unfold unlR
  dsimp only
  rw [h]
  dsimp only
  rw [h2]
@[simp] theorem y_wipe0 : wipeL ρ [] = ρ := rfl
@[simp] theorem y_wipe {i : Nat} : wipeL ρ (i :: vs) = (wipeL ρ vs).set i none := rfl
@[simp] theorem y_zip : itZip (itSeq xs) (itSeq ys) = itSeq ((xs.zip ys).map fun p => .tup [p.1, p.2]) := by
  funext S i
  show (match xs[i]?, ys[i]? with | some x, some y => some (D.tup [x, y]) | _, _ => none) = ((xs.zip ys).map fun p => D.tup [p.1, p.2])[i]?
  rw [List.getElem?_map]
  cases e1 : xs[i]? with
  | none =>
    have e3 : (xs.zip ys)[i]? = none := List.getElem?_eq_none (by rw [List.length_zip]; have := List.getElem?_eq_none_iff.mp e1; omega)
    rw [e3]
    rfl
  | some x =>
    cases e2 : ys[i]? with
    | none =>
      have e3 : (xs.zip ys)[i]? = none := List.getElem?_eq_none (by rw [List.length_zip]; have := List.getElem?_eq_none_iff.mp e2; omega)
      rw [e3]
      rfl
    | some y =>
      obtain ⟨h1, rfl⟩ := List.getElem?_eq_some_iff.mp e1
      obtain ⟨h2, rfl⟩ := List.getElem?_eq_some_iff.mp e2
      rw [List.getElem?_eq_getElem (by rw [List.length_zip]; omega)]
      simp
@[simp] theorem y_rng {lo : Int} {n : Nat} : itRng lo n = itSeq ((List.range n).map fun i : Nat => D.int (lo + (i : Int))) := by
  funext S i
  show (if i < n then some (D.int (lo + i)) else none) = ((List.range n).map fun i : Nat => D.int (lo + (i : Int)))[i]?
  rw [List.getElem?_map]
  by_cases h : i < n
  · rw [if_pos h, List.getElem?_range h]; rfl
  · rw [if_neg h, List.getElem?_eq_none (by rw [List.length_range]; omega)]; rfl
def zipR (x y : D) (S : Store) : Res Itr := match isL x, isL y with
  | some a, some b => .ok (itZip a b) S
  | _, _ => match isT x, isT y with
    | some a, some b => .ok (itZip a b) S
    | _, _ => .no
@[simp] theorem y_zipT : zipR (.tup xs) (.tup ys) S = .ok (itZip (itSeq xs) (itSeq ys)) S := rfl
@[simp] theorem y_iZip {e1 e2 : Ev} : iZipE (aCons e1 (aCons e2 aNil)) ρ S = (e1 ρ S).bind fun x S1 => (e2 ρ S1).bind fun y S2 => zipR x y S2 := by
  unfold iZipE
  rw [x_aCons]
  cases e1 ρ S with
  | ok x S1 =>
    simp only [bind_ok, x_aCons]
    cases e2 ρ S1 with
    | ok y S2 => rfl
    | exc c S2 => rfl
    | no => rfl
  | exc c S1 => rfl
  | no => rfl
def starR (o : Option (List D)) (k : List D → Res (List D)) : Res (List D) := match o with | some xs => k xs | none => .no
@[simp] theorem starR_some {k : List D → Res (List D)} : starR (some xs) k = k xs := rfl
end
end Sd
namespace K87
open PySem PySem.Spec L2 RZ Sd Sd.R
variable {A : Str → Addr} {S : Store}
def g3 (x y z : Int) : Nat := (x.natAbs.gcd y.natAbs).gcd z.natAbs
def g4 (x y z w : Int) : Nat := ((x.natAbs.gcd y.natAbs).gcd z.natAbs).gcd w.natAbs
structure Pt where
  x : Int
  y : Int
  z : Int
  w : Int
  wp : 0 < w
  pr : g4 x y z w = 1
def toP (p : Pt) : D := .tup [.int p.x, .int p.y, .int p.z, .int p.w]
def Pt.X (p : Pt) : Rat := Rat.divInt p.x p.w
def Pt.Y (p : Pt) : Rat := Rat.divInt p.y p.w
def Pt.Z (p : Pt) : Rat := Rat.divInt p.z p.w
theorem g4_mul (x y z w k : Int) : g4 (x * k) (y * k) (z * k) (w * k) = g4 x y z w * k.natAbs := by
  unfold g4
  rw [Int.natAbs_mul, Int.natAbs_mul, Int.natAbs_mul, Int.natAbs_mul, Nat.gcd_mul_right, Nat.gcd_mul_right, Nat.gcd_mul_right]
theorem Pt.ext' {p q : Pt} (hx : p.X = q.X) (hy : p.Y = q.Y) (hz : p.Z = q.Z) : p = q := by
  have pw := p.wp
  have qw := q.wp
  have ex := (Rat.divInt_eq_divInt_iff (by omega) (by omega)).mp hx
  have ey := (Rat.divInt_eq_divInt_iff (by omega) (by omega)).mp hy
  have ez := (Rat.divInt_eq_divInt_iff (by omega) (by omega)).mp hz
  have e1 := g4_mul p.x p.y p.z p.w q.w
  have e2 := g4_mul q.x q.y q.z q.w p.w
  rw [ex, ey, ez, Int.mul_comm p.w, e2, p.pr, q.pr] at e1
  have ew : p.w = q.w := by omega
  rw [ew] at ex ey ez
  have cx := Int.eq_of_mul_eq_mul_right (by omega : q.w ≠ 0) ex
  have cy := Int.eq_of_mul_eq_mul_right (by omega : q.w ≠ 0) ey
  have cz := Int.eq_of_mul_eq_mul_right (by omega : q.w ≠ 0) ez
  cases p
  cases q
  simp at *
  exact ⟨cx, cy, cz, ew⟩
theorem g4_dvd (x y z w : Int) : (g4 x y z w : Int) ∣ x ∧ (g4 x y z w : Int) ∣ y ∧ (g4 x y z w : Int) ∣ z ∧ (g4 x y z w : Int) ∣ w := by
  unfold g4
  refine ⟨?_, ?_, ?_, ?_⟩ <;> rw [← Int.dvd_natAbs, Int.natCast_dvd_natCast]
  · exact Nat.dvd_trans (Nat.gcd_dvd_left _ _) (Nat.dvd_trans (Nat.gcd_dvd_left _ _) (Nat.gcd_dvd_left _ _))
  · exact Nat.dvd_trans (Nat.gcd_dvd_left _ _) (Nat.dvd_trans (Nat.gcd_dvd_left _ _) (Nat.gcd_dvd_right _ _))
  · exact Nat.dvd_trans (Nat.gcd_dvd_left _ _) (Nat.gcd_dvd_right _ _)
  · exact Nat.gcd_dvd_right _ _
theorem g4_pos (x y z : Int) {w : Int} (h : 0 < w) : 0 < g4 x y z w := Nat.gcd_pos_of_pos_right _ (by omega)
theorem norm_pr (x y z w : Int) (h : 0 < w) : g4 (x / g4 x y z w) (y / g4 x y z w) (z / g4 x y z w) (w / g4 x y z w) = 1 := by
  obtain ⟨d1, d2, d3, d4⟩ := g4_dvd x y z w
  have gp := g4_pos x y z h
  have e := g4_mul (x / g4 x y z w) (y / g4 x y z w) (z / g4 x y z w) (w / g4 x y z w) (g4 x y z w)
  rw [Int.ediv_mul_cancel d1, Int.ediv_mul_cancel d2, Int.ediv_mul_cancel d3, Int.ediv_mul_cancel d4, Int.natAbs_natCast] at e
  exact Nat.eq_of_mul_eq_mul_right gp (by rw [Nat.one_mul]; exact e.symm)
def norm (x y z w : Int) (h : 0 < w) : Pt := ⟨x / g4 x y z w, y / g4 x y z w, z / g4 x y z w, w / g4 x y z w, Int.ediv_pos_of_pos_of_dvd h (by omega) (g4_dvd x y z w).2.2.2, norm_pr x y z w h⟩
theorem div_same {x w g : Int} (hg : 0 < g) (hw : 0 < w) (hx : g ∣ x) (hd : g ∣ w) : Rat.divInt (x / g) (w / g) = Rat.divInt x w := by
  have h2 : 0 < w / g := Int.ediv_pos_of_pos_of_dvd hw (by omega) hd
  rw [Rat.divInt_eq_divInt_iff (by omega) (by omega)]
  have e1 := Int.ediv_mul_cancel hx
  have e2 := Int.ediv_mul_cancel hd
  generalize x / g = a at *
  generalize w / g = b at *
  subst e1 e2
  grind
theorem norm_X {x y z w : Int} (h : 0 < w) : (norm x y z w h).X = Rat.divInt x w := div_same (by have := g4_pos x y z h; omega) h (g4_dvd x y z w).1 (g4_dvd x y z w).2.2.2
theorem norm_Y {x y z w : Int} (h : 0 < w) : (norm x y z w h).Y = Rat.divInt y w := div_same (by have := g4_pos x y z h; omega) h (g4_dvd x y z w).2.1 (g4_dvd x y z w).2.2.2
theorem norm_Z {x y z w : Int} (h : 0 < w) : (norm x y z w h).Z = Rat.divInt z w := div_same (by have := g4_pos x y z h; omega) h (g4_dvd x y z w).2.2.1 (g4_dvd x y z w).2.2.2
/-! the defs -/
theorem div4 (x y z w : Int) : F_divisor A [.tup [.int x, .int y, .int z, .int w]] S = .ok (.int (g4 x y z w)) S := by
  unfold F_divisor
  rw [fn_ev]
  simp [b_divisor, st0, itOf, g4]
theorem div3 (x y z : Int) : F_divisor A [.tup [.int x, .int y, .int z]] S = .ok (.int (g3 x y z)) S := by
  unfold F_divisor
  rw [fn_ev]
  simp [b_divisor, st0, itOf, g3]
theorem sm_g4 {x y z w : Int} {k : Nat} (h : 0 < w) (hw : Sm k w) : Sm k (g4 x y z w) := by
  have h1 : g4 x y z w ≤ w.natAbs := Nat.le_of_dvd (by omega) (Nat.gcd_dvd_right _ _)
  unfold Sm at *
  rw [Int.natAbs_natCast]
  omega
theorem parted4 {x y z w : Int} {k : Nat} (h : 0 < w) (hw : Sm k w) (hk : k < 9000) : ∃ g, F_parted A [.tup [.int x, .int y, .int z, .int w]] S = .ok (toP (norm x y z w h)) (S ++ g) := by
  have e := fun i S => oDiv_int (S := S) (i := i) (j := g4 x y z w) (by have := g4_pos x y z h; omega) (sm_g4 h hw) hk
  refine ⟨[[.int (x / g4 x y z w), .int (y / g4 x y z w), .int (z / g4 x y z w), .int (w / g4 x y z w)]], ?_⟩
  unfold F_parted
  rw [fn_ev]
  simp [b_parted, st0, itOf, div4, e, toP, norm]
theorem tup4 (n : Nat) (x y z w : Int) : F_tupled A (n + 2) [.tup [.int x, .int y, .int z, .int w]] S = .ok (.tup [.int x, .int y, .int z, .int w]) (S ++ [[.int x, .int y, .int z, .int w]]) := by
  unfold F_tupled
  rw [fn_ev]
  simp [b_tupled, st0, isTy, tyN, itOf, tupled_int]
theorem ispoint (p : Pt) : ∃ g, F_is_point A [toP p] S = .ok (.bl true) (S ++ g) := by
  have h1 : (1 : Int) ≤ p.w := p.wp
  have h2 := p.pr
  refine ⟨[[.bl true, .bl true, .bl true, .bl true]], ?_⟩
  have hl : ∀ (l : List D) (n : Int) (S : Store), F_is_long A [.tup l, .int n] S = .ok (.bl (decide ((l.length : Int) = n))) S := fun l n S => by
    unfold F_is_long
    rw [fn_ev]
    simp [b_is_long, st0, isTy]
  have hr : ∀ S, F_is_row A [toP p, .int 4] S = .ok (.bl true) (S ++ [[.bl true, .bl true, .bl true, .bl true]]) := fun S => by
    unfold F_is_row
    rw [fn_ev]
    simp [b_is_row, st0, itOf, hl, num_int, toP, cAll, mapO, asB]
  unfold F_is_point
  rw [fn_ev]
  simp [b_is_point, st0, hr, toP] at *
  simp [hr, from_int, div4, h1, h2, show atI [D.int p.x, D.int p.y, D.int p.z, D.int p.w] 3 = some (D.int p.w) from Sd.atI_nat _ 3]
end K87
namespace K87
open PySem PySem.Spec L2 RZ Sd Sd.R
variable {A : Str → Addr} {S : Store}
def Pu (F : Fv) (ds : List D) (v : D) : Prop := ∀ S, ∃ g, F ds S = .ok v (S ++ g)
theorem Pu.sk {F : Fv} {ds : List D} {v : D} (h : Pu F ds v) : ∃ g : Store → Store, ∀ S, F ds S = .ok v (S ++ g S) := Classical.skolem.mp h
theorem Pu.op {F : Fv} {ds : List D} {v : D} (h : Pu F ds v) : ∃ n : Store → Store, (∀ S, F ds S = .ok v (n S)) ∧ ∃ g : Store → Store, ∀ S, n S = S ++ g S := by
  obtain ⟨g, hg⟩ := h.sk
  exact ⟨fun S => S ++ g S, hg, g, fun _ => rfl⟩
structure BP (k : Nat) (p : Pt) : Prop where
  x : Sm k p.x
  y : Sm k p.y
  z : Sm k p.z
  w : Sm k p.w
@[simp] theorem px0 {p : Pt} : oIx (toP p) (.int 0) S = some (.int p.x, S) := by simp [toP]
@[simp] theorem px3 {p : Pt} : oIx (toP p) (.int 3) S = some (.int p.w, S) := by
  unfold toP
  rw [oIx_tup]
  rw [show atI [D.int p.x, D.int p.y, D.int p.z, D.int p.w] 3 = some (D.int p.w) from Sd.atI_nat _ 3]
  rfl
@[simp] theorem cut3 {a b c d : D} : cutD [a, b, c, d] none (some 3) = [a, b, c] := by simp [cutD, HT.sIx]
@[simp] theorem y_eSl {f : Ev} {l u : Ov} {ρ : Sd.Loc} : eSl f l u ρ S = (f ρ S).bind fun d S1 => (l ρ S1).bind fun lo S2 => (u ρ S2).bind fun hi S3 => (oSl d lo hi S3).res := rfl
@[simp] theorem y_oNone {ρ : Sd.Loc} : oNone ρ S = .ok none S := rfl
@[simp] theorem y_oSome {i : Int} {ρ : Sd.Loc} : oSome (eC (.int i)) ρ S = .ok (some i) S := rfl
@[simp] theorem sl3 {p : Pt} : oSl (toP p) none (some 3) S = some (.tup [.int p.x, .int p.y, .int p.z], S) := by
  show some (D.tup (cutD [_, _, _, _] none (some 3)), S) = _
  rw [cut3]
@[simp] theorem sl3' {a b c d : D} : oSl (.tup [a, b, c, d]) none (some 3) S = some (.tup [a, b, c], S) := by
  show some (D.tup (cutD [_, _, _, _] none (some 3)), S) = _
  rw [cut3]
@[simp] theorem y_aStar {f : Ev} {g : Av} {ρ : Sd.Loc} : aStar f g ρ S = (f ρ S).bind fun d S1 => starR (items d S1) fun xs => (g ρ S1).bind fun ys S2 => .ok (xs ++ ys) S2 := rfl
theorem surep (p : Pt) : Pu (F_sure_point A) [toP p] (toP p) := fun S => by
  obtain ⟨g, hg⟩ := ispoint (A := A) (S := S ++ [[.int p.x, .int p.y, .int p.z, .int p.w]]) p
  have ht := tup4 (A := A) (S := S) 2 p.x p.y p.z p.w
  refine ⟨[[.int p.x, .int p.y, .int p.z, .int p.w]] ++ g, ?_⟩
  unfold F_sure_point
  rw [fn_ev]
  simp [toP] at hg
  simp [b_sure_point, st0, toP, ht, hg]
theorem way_ {p q : Pt} {k : Nat} (bp : BP k p) (bq : BP k q) (hk : k < 1000) : Pu (F_way_between A) [toP p, toP q] (.tup [.int (q.x * p.w - p.x * q.w), .int (q.y * p.w - p.y * q.w), .int (q.z * p.w - p.z * q.w)]) := fun S => by
  have m : ∀ i j : Int, Sm k i → Sm k j → ∀ S, oMul (.int i) (.int j) S = some (.int (i * j), S) := fun i j hi hj S => oMul_int hi hj (by omega)
  have m1 := m _ _ bq.x bp.w
  have m2 := m _ _ bp.x bq.w
  have m3 := m _ _ bq.y bp.w
  have m4 := m _ _ bp.y bq.w
  have m5 := m _ _ bq.z bp.w
  have m6 := m _ _ bp.z bq.w
  unfold F_way_between
  apply Exists.intro
  rw [fn_ev]
  simp [b_way_between, st0, itOf, m1, m2, m3, m4, m5, m6]
  rfl
theorem place_ {p : Pt} {k : Nat} (bp : BP k p) (hk : k < 1000) : Pu (F_place A) [toP p] (.tup [toD p.X, toD p.Y, toD p.Z]) := fun S => by
  obtain ⟨n, hn, g, hg⟩ := (surep (A := A) p).op
  have hw : p.w ≠ 0 := by have := p.wp; omega
  have m1 := fun S a => made (A := A) (S := S) (a := a) hw bp.w (by omega)
  unfold F_place
  apply Exists.intro
  rw [fn_ev]
  simp [b_place, st0, itOf, hn, m1, Pt.X, Pt.Y, Pt.Z]
  simp only [hg, List.append_assoc]
  rfl
theorem cross_ {a b c d e f : Int} {k : Nat} (ha : Sm k a) (hb : Sm k b) (hc : Sm k c) (hd : Sm k d) (he : Sm k e) (hf : Sm k f) (hk : k < 4000000) :
    F_cross A [.tup [.int a, .int b, .int c], .tup [.int d, .int e, .int f]] S = .ok (.tup [.int (b * f - c * e), .int (c * d - a * f), .int (a * e - b * d)]) S := by
  have m : ∀ i j : Int, Sm k i → Sm k j → ∀ S, oMul (.int i) (.int j) S = some (.int (i * j), S) := fun i j hi hj S => oMul_int hi hj (by omega)
  unfold F_cross
  rw [fn_ev]
  simp [b_cross, st0, m _ _ hb hf, m _ _ hc he, m _ _ hc hd, m _ _ ha hf, m _ _ ha he, m _ _ hb hd]
theorem dot_ {a b c d e f : Int} {k l : Nat} (ha : Sm k a) (hb : Sm k b) (hc : Sm k c) (hd : Sm l d) (he : Sm l e) (hf : Sm l f) (hk : k + l < 8000000) :
    F_dot A [.tup [.int a, .int b, .int c], .tup [.int d, .int e, .int f]] S = .ok (.int (a * d + b * e + c * f)) S := by
  have m : ∀ i j : Int, Sm k i → Sm l j → ∀ S, oMul (.int i) (.int j) S = some (.int (i * j), S) := fun i j hi hj S => oMul_int hi hj (by omega)
  unfold F_dot
  rw [fn_ev]
  simp [b_dot, st0, m _ _ ha hd, m _ _ hb he, m _ _ hc hf]
theorem spotT {x y z w : Int} {k : Nat} (h : 0 < w) (hw : Sm k w) (hk : k < 9000) : Pu (F_spot A) [.tup [.int x, .int y, .int z], .int w] (toP (norm x y z w h)) := fun S => by
  obtain ⟨g, hg⟩ := parted4 (A := A) (S := S) (x := x) (y := y) (z := z) h hw hk
  refine ⟨g, ?_⟩
  unfold F_spot
  rw [fn_ev]
  simp [b_spot, st0, hg]
theorem spotL {x y z w : Int} {k r : Nat} (hr : S[r]? = some [.int x, .int y, .int z]) (h : 0 < w) (hw : Sm k w) (hk : k < 9000) : ∃ g, F_spot A [.lst r, .int w] S = .ok (toP (norm x y z w h)) (S ++ g) := by
  obtain ⟨g, hg⟩ := parted4 (A := A) (S := S) (x := x) (y := y) (z := z) h hw hk
  refine ⟨g, ?_⟩
  unfold F_spot
  rw [fn_ev]
  simp [b_spot, st0, hr, hg]
theorem dX (a b : Int) : Rat.divInt a b = (a : Rat) / (b : Rat) := Rat.divInt_eq_div a b
theorem wq (p : Pt) : (p.w : Rat) ≠ 0 := by simp; have := p.wp; omega
theorem half_ {p q : Pt} {k : Nat} (bp : BP k p) (bq : BP k q) (hk : k < 1000) : ∃ r : Pt, r.X = (p.X + q.X) / 2 ∧ r.Y = (p.Y + q.Y) / 2 ∧ r.Z = (p.Z + q.Z) / 2 ∧ Pu (F_half_way A) [toP p, toP q] (toP r) := by
  have hw : 0 < 2 * p.w * q.w := Int.mul_pos (Int.mul_pos (by decide) p.wp) q.wp
  have s2 : Sm 2 2 := by unfold Sm; decide
  have m : ∀ i j : Int, Sm k i → Sm k j → ∀ S, oMul (.int i) (.int j) S = some (.int (i * j), S) := fun i j hi hj S => oMul_int hi hj (by omega)
  have q1 := wq p
  have q2 := wq q
  refine ⟨norm (p.x * q.w + q.x * p.w) (p.y * q.w + q.y * p.w) (p.z * q.w + q.z * p.w) (2 * p.w * q.w) hw, ?_, ?_, ?_, fun S => ?_⟩
  · rw [norm_X]; simp only [Pt.X, dX, Rat.intCast_add, Rat.intCast_mul]; grind
  · rw [norm_Y]; simp only [Pt.Y, dX, Rat.intCast_add, Rat.intCast_mul]; grind
  · rw [norm_Z]; simp only [Pt.Z, dX, Rat.intCast_add, Rat.intCast_mul]; grind
  · obtain ⟨n1, h1, g1, e1⟩ := (surep (A := A) p).op
    obtain ⟨n2, h2, g2, e2⟩ := (surep (A := A) q).op
    have m7 := fun S => oMul_int (S := S) s2 bp.w (by omega)
    have m8 := fun S => oMul_int (S := S) (sm_mul s2 bp.w) bq.w (by omega)
    obtain ⟨g, hg⟩ := spotL (A := A) (S := n2 (n1 S) ++ [[.int (p.x * q.w + q.x * p.w), .int (p.y * q.w + q.y * p.w), .int (p.z * q.w + q.z * p.w)]]) (r := (n2 (n1 S)).length) (x := p.x * q.w + q.x * p.w) (y := p.y * q.w + q.y * p.w) (z := p.z * q.w + q.z * p.w) (by simp) hw (sm_mul (sm_mul s2 bp.w) bq.w) (by omega)
    unfold F_half_way
    apply Exists.intro
    rw [fn_ev]
    simp [b_half_way, st0, itOf, h1, h2, m _ _ bp.x bq.w, m _ _ bq.x bp.w, m _ _ bp.y bq.w, m _ _ bq.y bp.w, m _ _ bp.z bq.w, m _ _ bq.z bp.w, m7, m8]
    simp at hg
    simp [hg]
    simp only [e1, e2, List.append_assoc]
    rfl
theorem square_ {p q : Pt} {k : Nat} (bp : BP k p) (bq : BP k q) (hk : k < 30) : Pu (F_square_between A) [toP p, toP q] (toD ((q.X - p.X) * (q.X - p.X) + (q.Y - p.Y) * (q.Y - p.Y) + (q.Z - p.Z) * (q.Z - p.Z))) := fun S => by
  obtain ⟨n1, h1, g1, e1⟩ := (surep (A := A) p).op
  obtain ⟨n2, h2, g2, e2⟩ := (surep (A := A) q).op
  obtain ⟨n3, h3, g3, e3⟩ := (way_ (A := A) bp bq (by omega)).op
  have q1 := wq p
  have q2 := wq q
  have sx := sm_sub (sm_mul bq.x bp.w) (sm_mul bp.x bq.w)
  have sy := sm_sub (sm_mul bq.y bp.w) (sm_mul bp.y bq.w)
  have sz := sm_sub (sm_mul bq.z bp.w) (sm_mul bp.z bq.w)
  have dt := fun S => dot_ (A := A) (S := S) sx sy sz sx sy sz (by omega)
  have m := fun S => oMul_int (S := S) bp.w bq.w (by omega)
  haveI : Bnd (p.w * q.w) (k + k) := ⟨sm_mul bp.w bq.w⟩
  have pw := fun S => sq_b (S := S) (i := p.w * q.w) (n := k + k) (by omega)
  have hz : (p.w * q.w) ^ 2 ≠ 0 := by
    have := Int.mul_pos p.wp q.wp
    exact Int.pow_ne_zero (by omega)
  have md := fun S => made (A := A) (S := S) (a := (q.x * p.w - p.x * q.w) * (q.x * p.w - p.x * q.w) + (q.y * p.w - p.y * q.w) * (q.y * p.w - p.y * q.w) + (q.z * p.w - p.z * q.w) * (q.z * p.w - p.z * q.w)) hz (bnd_sq (i := p.w * q.w) (n := k + k)).h (by omega)
  have e : Rat.divInt ((q.x * p.w - p.x * q.w) * (q.x * p.w - p.x * q.w) + (q.y * p.w - p.y * q.w) * (q.y * p.w - p.y * q.w) + (q.z * p.w - p.z * q.w) * (q.z * p.w - p.z * q.w)) ((p.w * q.w) ^ 2) = (q.X - p.X) * (q.X - p.X) + (q.Y - p.Y) * (q.Y - p.Y) + (q.Z - p.Z) * (q.Z - p.Z) := by
    simp only [Pt.X, Pt.Y, Pt.Z, dX, Rat.intCast_add, Rat.intCast_mul, Rat.intCast_sub, Rat.intCast_pow]
    grind
  rw [e] at md
  unfold F_square_between
  apply Exists.intro
  rw [fn_ev]
  simp [b_square_between, st0, h1, h2, h3, dt, m, pw, md]
  simp only [e1, e2, e3, List.append_assoc]
  rfl
theorem point_ {u v t : Rat} {k : Nat} (bu : Bd k u) (bv : Bd k v) (bt : Bd k t) (hk : k < 1000) : ∃ r : Pt, r.X = u ∧ r.Y = v ∧ r.Z = t ∧ Pu (F_point A) [toD u, toD v, toD t] (toP r) := by
  have hw : 0 < (u.den : Int) * v.den * t.den := Int.mul_pos (Int.mul_pos (den_p u) (den_p v)) (den_p t)
  have q1 : (u.den : Rat) ≠ 0 := by simp; exact u.den_nz
  have q2 : (v.den : Rat) ≠ 0 := by simp; exact v.den_nz
  have q3 : (t.den : Rat) ≠ 0 := by simp; exact t.den_nz
  have cs : ∀ x : Rat, x = (x.num : Rat) / (x.den : Rat) := fun x => by
    have := Rat.normalize_self x
    rw [Rat.normalize_eq_mkRat, Rat.mkRat_eq_div] at this
    exact this.symm
  have nc : ∀ x : Rat, (((x.den : Int)) : Rat) = (x.den : Rat) := fun x => rfl
  refine ⟨norm (u.num * v.den * t.den) (v.num * u.den * t.den) (t.num * u.den * v.den) (u.den * v.den * t.den) hw, ?_, ?_, ?_, fun S => ?_⟩
  · rw [norm_X]; simp only [dX, Rat.intCast_mul, nc]; conv => rhs; rw [cs u]
    grind
  · rw [norm_Y]; simp only [dX, Rat.intCast_mul, nc]; conv => rhs; rw [cs v]
    grind
  · rw [norm_Z]; simp only [dX, Rat.intCast_mul, nc]; conv => rhs; rw [cs t]
    grind
  · have m : ∀ i j : Int, Sm k i → Sm k j → ∀ S, oMul (.int i) (.int j) S = some (.int (i * j), S) := fun i j hi hj S => oMul_int hi hj (by omega)
    have m2 : ∀ i j : Int, Sm (k + k) i → Sm k j → ∀ S, oMul (.int i) (.int j) S = some (.int (i * j), S) := fun i j hi hj S => oMul_int hi hj (by omega)
    obtain ⟨n, hn, g, e⟩ := (spotT (A := A) (x := u.num * v.den * t.den) (y := v.num * u.den * t.den) (z := t.num * u.den * v.den) hw (sm_mul (sm_mul bu.d bv.d) bt.d) (by omega)).op
    have su := fun S => sure (A := A) (S := S) (q := u)
    have sv := fun S => sure (A := A) (S := S) (q := v)
    have st := fun S => sure (A := A) (S := S) (q := t)
    unfold F_point
    apply Exists.intro
    rw [fn_ev]
    simp [b_point, st0, su, sv, st]
    simp [toD, m _ _ bu.n bv.d, m _ _ bv.n bu.d, m _ _ bt.n bu.d, m _ _ bu.d bv.d, m2 _ _ (sm_mul bu.n bv.d) bt.d, m2 _ _ (sm_mul bv.n bu.d) bt.d, m2 _ _ (sm_mul bt.n bu.d) bv.d, m2 _ _ (sm_mul bu.d bv.d) bt.d, hn]
    simp only [e, List.append_assoc]
    rfl
end K87
namespace K87
open PySem PySem.Spec L2 RZ Sd Sd.R
variable {A : Str → Addr} {S : Store}
def unlX (ts : List NT) (o : Option (List D)) (ρ : Sd.Loc) (S : Store) : SRes := match o with | some xs => ntS (NT.bs ts xs ρ) S | none => .no
@[simp] theorem y_unl {ts : List NT} {r : Nat} {ρ : Sd.Loc} : unlR ts (.lst r) ρ S = unlX ts S[r]? ρ S := by
  unfold unlR unlX ntS
  rfl
@[simp] theorem y_unlX {ts : List NT} {xs : List D} {ρ : Sd.Loc} : unlX ts (some xs) ρ S = ntS (NT.bs ts xs ρ) S := rfl
def pushV (S U : Store) (n : Nat) (x : D) (o : Option (List D)) (k : Store → Res Unit) : Res Unit := match o with
  | some acc => if acc.length < lim then k (S ++ U.set n (acc ++ [x])) else .no
  | none => .no
@[simp] theorem y_pushV {U : Store} {n : Nat} {x : D} {acc : List D} {k : Store → Res Unit} (h : acc.length < 1000) : pushV S U n x (some acc) k = k (S ++ U.set n (acc ++ [x])) := by
  show (if acc.length < lim then _ else _) = _
  rw [if_pos (by unfold lim; omega)]
@[simp] theorem y_pushn {U : Store} {n : Nat} {x : D} {k : Store → Res Unit} : pushR (S ++ U) (S.length + n) x k = pushV S U n x U[n]? k := by
  unfold pushR pushV
  rw [List.getElem?_append_right (Nat.le_add_right _ _), Nat.add_sub_cancel_left]
  cases U[n]? with
  | none => rfl
  | some acc =>
    dsimp only
    rw [List.set_append_right _ _ (Nat.le_add_right _ _), Nat.add_sub_cancel_left]
theorem cs (x : Rat) : x = (x.num : Rat) / (x.den : Rat) := by
  have := Rat.normalize_self x
  rw [Rat.normalize_eq_mkRat, Rat.mkRat_eq_div] at this
  exact this.symm
theorem nc (x : Rat) : (((x.den : Int)) : Rat) = (x.den : Rat) := rfl
theorem dnz (x : Rat) : (x.den : Rat) ≠ 0 := by simp; exact x.den_nz
theorem long_ (l : List D) (n : Int) : F_is_long A [.tup l, .int n] S = .ok (.bl (decide ((l.length : Int) = n))) S := by
  unfold F_is_long
  rw [fn_ev]
  simp [b_is_long, st0, isTy]
theorem tup3q (u v t : Rat) : Pu (F_tupled A 4) [.tup [toD u, toD v, toD t]] (.tup [toD u, toD v, toD t]) := fun S => by
  have tp := fun S (q : Rat) => tupled_pair (A := A) (S := S) 1 q.num q.den
  have tq : ∀ S (q : Rat), F_tupled A 3 [toD q] S = .ok (toD q) (S ++ [gq q]) := fun S q => tp S q
  unfold F_tupled
  apply Exists.intro
  rw [fn_ev]
  simp [b_tupled, st0, isTy, tyN, itOf, tq]
  rfl
theorem moved_ {p : Pt} {u v t : Rat} {k : Nat} (bp : BP k p) (bu : Bd k u) (bv : Bd k v) (bt : Bd k t) (hk : k < 1000) : ∃ r : Pt, r.X = p.X + u ∧ r.Y = p.Y + v ∧ r.Z = p.Z + t ∧ Pu (F_moved_by A) [toP p, .tup [toD u, toD v, toD t]] (toP r) := by
  have hd : 0 < (u.den : Int) * v.den * t.den := Int.mul_pos (Int.mul_pos (den_p u) (den_p v)) (den_p t)
  have hw : 0 < p.w * ((u.den : Int) * v.den * t.den) := Int.mul_pos p.wp hd
  have q0 := wq p
  have q1 := dnz u
  have q2 := dnz v
  have q3 := dnz t
  refine ⟨norm (p.x * ((u.den : Int) * v.den * t.den) + u.num * v.den * t.den * p.w) (p.y * ((u.den : Int) * v.den * t.den) + v.num * u.den * t.den * p.w) (p.z * ((u.den : Int) * v.den * t.den) + t.num * u.den * v.den * p.w) (p.w * ((u.den : Int) * v.den * t.den)) hw, ?_, ?_, ?_, fun S => ?_⟩
  · rw [norm_X]; simp only [Pt.X, dX, Rat.intCast_add, Rat.intCast_mul, nc]; conv => rhs; rw [cs u]
    grind
  · rw [norm_Y]; simp only [Pt.Y, dX, Rat.intCast_add, Rat.intCast_mul, nc]; conv => rhs; rw [cs v]
    grind
  · rw [norm_Z]; simp only [Pt.Z, dX, Rat.intCast_add, Rat.intCast_mul, nc]; conv => rhs; rw [cs t]
    grind
  · obtain ⟨n1, h1, g1, e1⟩ := (surep (A := A) p).op
    obtain ⟨n2, h2, g2, e2⟩ := (tup3q (A := A) u v t).op
    have m : ∀ {a b : Nat} (i j : Int), Sm a i → Sm b j → a + b ≤ 10000 → ∀ S, oMul (.int i) (.int j) S = some (.int (i * j), S) := fun i j hi hj h S => oMul_int hi hj (by omega)
    have sd := sm_mul (sm_mul bu.d bv.d) bt.d
    have m1 := m _ _ bu.d bv.d (by omega)
    have m2 := m _ _ (sm_mul bu.d bv.d) bt.d (by omega)
    have m3 := m _ _ bu.n bv.d (by omega)
    have m4 := m _ _ (sm_mul bu.n bv.d) bt.d (by omega)
    have m5 := m _ _ bv.n bu.d (by omega)
    have m6 := m _ _ (sm_mul bv.n bu.d) bt.d (by omega)
    have m7 := m _ _ bt.n bu.d (by omega)
    have m8 := m _ _ (sm_mul bt.n bu.d) bv.d (by omega)
    have c1 := m _ _ bp.x sd (by omega)
    have c2 := m _ _ bp.y sd (by omega)
    have c3 := m _ _ bp.z sd (by omega)
    have c4 := m _ _ bp.w sd (by omega)
    have c5 := m _ _ (sm_mul (sm_mul bu.n bv.d) bt.d) bp.w (by omega)
    have c6 := m _ _ (sm_mul (sm_mul bv.n bu.d) bt.d) bp.w (by omega)
    have c7 := m _ _ (sm_mul (sm_mul bt.n bu.d) bv.d) bp.w (by omega)
    have su := fun S => sure (A := A) (S := S) (q := u)
    have sv := fun S => sure (A := A) (S := S) (q := v)
    have st := fun S => sure (A := A) (S := S) (q := t)
    obtain ⟨B, gB, hB, eB⟩ : ∃ B gB, n2 (n1 S) = B ∧ B = S ++ gB := ⟨_, _, rfl, by rw [e2, e1, List.append_assoc]⟩
    obtain ⟨g, hg⟩ := spotL (A := A) (S := B ++ [[toD u, toD v, toD t], gq u, gq v, gq t, [.int (p.x * ((u.den : Int) * v.den * t.den) + u.num * v.den * t.den * p.w), .int (p.y * ((u.den : Int) * v.den * t.den) + v.num * u.den * t.den * p.w), .int (p.z * ((u.den : Int) * v.den * t.den) + t.num * u.den * v.den * p.w)]]) (r := B.length + 4)
      (x := p.x * ((u.den : Int) * v.den * t.den) + u.num * v.den * t.den * p.w) (y := p.y * ((u.den : Int) * v.den * t.den) + v.num * u.den * t.den * p.w) (z := p.z * ((u.den : Int) * v.den * t.den) + t.num * u.den * v.den * p.w) (by simp) hw (sm_mul bp.w sd) (by omega)
    have first : sNt (.tp [(.nm 2), (.nm 3)]) (eTup (aCons (eCall (F_sure_point A) (aCons (eVar 0) aNil)) (aCons (eCall (F_tupled A 4) (aCons (eVar 1) aNil)) aNil))) (st0 15 [toP p, .tup [toD u, toD v, toD t]]) S = .nx [some (toP p), some (.tup [toD u, toD v, toD t]), some (toP p), some (.tup [toD u, toD v, toD t]), none, none, none, none, none, none, none, none, none, none, none] B := by simp [st0, h1, h2, hB]
    unfold F_moved_by
    apply Exists.intro
    rw [fn_ev]
    unfold b_moved_by
    rw [x_sSeq, first, sq_nx]
    have third : ∀ {o4 o5 o6 o7 o8 o9 o10 o11 o12 o13 o14 : Option D}, sUnl [(.tp [(.nm 4), (.nm 5)]), (.tp [(.nm 6), (.nm 7)]), (.tp [(.nm 8), (.nm 9)])] (eLc [12] (iOf (eVar 3)) (.nm 12) tvYes (eCall (F_sure_fraction A) (aCons (eVar 12) aNil))) [some (toP p), some (.tup [toD u, toD v, toD t]), some (toP p), some (.tup [toD u, toD v, toD t]), o4, o5, o6, o7, o8, o9, o10, o11, o12, o13, o14] B =
        .nx [some (toP p), some (.tup [toD u, toD v, toD t]), some (toP p), some (.tup [toD u, toD v, toD t]), some (.int u.num), some (.int u.den), some (.int v.num), some (.int v.den), some (.int t.num), some (.int t.den), o10, o11, o12, o13, o14] (B ++ [[toD u, toD v, toD t], gq u, gq v, gq t]) := by
      intros
      simp [itOf, su, sv, st]
      simp [toD]
    simp [long_, third, m1, m2, m3, m4, m5, m6, m7, m8, c1, c2, c3, c4, c5, c6, c7, itOf, -y_sUnl]
    simp [hg]
    rw [eB, List.append_assoc]
/-! directions -/
theorem tup3 (n : Nat) (x y z : Int) : F_tupled A (n + 2) [.tup [.int x, .int y, .int z]] S = .ok (.tup [.int x, .int y, .int z]) (S ++ [[.int x, .int y, .int z]]) := by
  unfold F_tupled
  rw [fn_ev]
  simp [b_tupled, st0, isTy, tyN, itOf, tupled_int]
theorem row3 (x y z : Int) : F_is_row A [.tup [.int x, .int y, .int z], .int 3] S = .ok (.bl true) (S ++ [[.bl true, .bl true, .bl true]]) := by
  unfold F_is_row
  rw [fn_ev]
  simp [b_is_row, st0, itOf, long_, num_int, cAll, mapO, asB]
theorem toP_three (S : Store) (a b c : Int) : Sd.toP 64 S (.tup [.int a, .int b, .int c]) = some (.tuple [.int a, .int b, .int c]) := by
  unfold Sd.toP; simp [mapO, toP_int]
theorem toP_four (S : Store) (a b c d : Int) : Sd.toP 64 S (.tup [.int a, .int b, .int c, .int d]) = some (.tuple [.int a, .int b, .int c, .int d]) := by
  unfold Sd.toP; simp [mapO, toP_int]
@[simp] theorem ne3 (a b c d e f : Int) : oNe (.tup [.int a, .int b, .int c]) (.tup [.int d, .int e, .int f]) S = some (.bl (!(decide (a = d) && (decide (b = e) && decide (c = f)))), S) := by
  unfold oNe; rw [toP_three, toP_three]; simp [PyData.eqv, PyData.eqvAll, Bool.beq_eq_decide_eq]
@[simp] theorem eq3 (a b c d e f : Int) : oEq (.tup [.int a, .int b, .int c]) (.tup [.int d, .int e, .int f]) S = some (.bl (decide (a = d) && (decide (b = e) && decide (c = f))), S) := by
  unfold oEq; rw [toP_three, toP_three]; simp [PyData.eqv, PyData.eqvAll, Bool.beq_eq_decide_eq]
theorem pt_eq {p q : Pt} : p = q ↔ (p.x = q.x ∧ p.y = q.y ∧ p.z = q.z ∧ p.w = q.w) := by
  constructor
  · intro h; subst h; exact ⟨rfl, rfl, rfl, rfl⟩
  · intro ⟨h1, h2, h3, h4⟩
    cases p; cases q
    simp at *
    exact ⟨h1, h2, h3, h4⟩
instance : DecidableEq Pt := fun p q => if h : p.x = q.x ∧ p.y = q.y ∧ p.z = q.z ∧ p.w = q.w then isTrue (pt_eq.mpr h) else isFalse (fun e => h (pt_eq.mp e))
@[simp] theorem eqP (p q : Pt) : oEq (toP p) (toP q) S = some (.bl (decide (p = q)), S) := by
  unfold oEq K87.toP; rw [toP_four, toP_four]
  simp [pt_eq, PyData.eqv, PyData.eqvAll, Bool.beq_eq_decide_eq]
@[simp] theorem neP (p q : Pt) : oNe (toP p) (toP q) S = some (.bl (!decide (p = q)), S) := by
  unfold oNe K87.toP; rw [toP_four, toP_four]
  simp [pt_eq, PyData.eqv, PyData.eqvAll, Bool.beq_eq_decide_eq]
structure Dr where
  x : Int
  y : Int
  z : Int
  nz : ¬ (x = 0 ∧ y = 0 ∧ z = 0)
def toV (d : Dr) : D := .tup [.int d.x, .int d.y, .int d.z]
theorem isdir (d : Dr) : F_is_direction A [toV d] S = .ok (.bl true) (S ++ [[.bl true, .bl true, .bl true]]) := by
  unfold F_is_direction
  rw [fn_ev]
  have h := d.nz
  simp [b_is_direction, st0, toV, row3]
  omega
theorem sured (d : Dr) : Pu (F_sure_direction A) [toV d] (toV d) := fun S => by
  have h := isdir (A := A) (S := S ++ [[.int d.x, .int d.y, .int d.z]]) d
  unfold F_sure_direction
  apply Exists.intro
  rw [fn_ev]
  simp [toV] at h
  simp [b_sure_direction, st0, toV, tup3, h]
  rfl
theorem surer (p : Pt) (d : Dr) : Pu (F_sure_ray A) [.tup [toP p, toV d]] (.tup [toP p, toV d]) := fun S => by
  have ht : ∀ S, ∃ g, F_tupled A 4 [.tup [toP p, toV d]] S = .ok (.tup [toP p, toV d]) (S ++ g) := fun S => by
    have t4 := fun S => tup4 (A := A) (S := S) 1 p.x p.y p.z p.w
    have t3 := fun S => tup3 (A := A) (S := S) 1 d.x d.y d.z
    unfold F_tupled
    apply Exists.intro
    rw [fn_ev]
    simp [b_tupled, st0, isTy, tyN, itOf, K87.toP, toV, t4, t3]
    rfl
  obtain ⟨g1, h1⟩ := ht S
  obtain ⟨g2, h2⟩ := ispoint (A := A) (S := S ++ g1) p
  have h3 := fun S => isdir (A := A) (S := S) d
  have hr : ∀ T g, F_is_point A [toP p] T = .ok (.bl true) (T ++ g) → F_is_ray A [.tup [toP p, toV d]] T = .ok (.bl true) (T ++ g ++ [[.bl true, .bl true, .bl true]]) := fun T g hg => by
    unfold F_is_ray
    rw [fn_ev]
    simp [b_is_ray, st0, long_, hg, h3]
  unfold F_sure_ray
  apply Exists.intro
  rw [fn_ev]
  simp [b_sure_ray, st0, h1, hr _ _ h2]
  rfl
theorem g3_mul (x y z k : Int) : g3 (x * k) (y * k) (z * k) = g3 x y z * k.natAbs := by
  unfold g3
  rw [Int.natAbs_mul, Int.natAbs_mul, Int.natAbs_mul, Nat.gcd_mul_right, Nat.gcd_mul_right]
theorem g3_dvd (x y z : Int) : (g3 x y z : Int) ∣ x ∧ (g3 x y z : Int) ∣ y ∧ (g3 x y z : Int) ∣ z := by
  unfold g3
  refine ⟨?_, ?_, ?_⟩ <;> rw [← Int.dvd_natAbs, Int.natCast_dvd_natCast]
  · exact Nat.dvd_trans (Nat.gcd_dvd_left _ _) (Nat.gcd_dvd_left _ _)
  · exact Nat.dvd_trans (Nat.gcd_dvd_left _ _) (Nat.gcd_dvd_right _ _)
  · exact Nat.gcd_dvd_right _ _
theorem g3_pos {x y z : Int} (h : ¬ (x = 0 ∧ y = 0 ∧ z = 0)) : 0 < g3 x y z := by
  rcases Nat.eq_zero_or_pos (g3 x y z) with e | e
  · obtain ⟨d1, d2, d3⟩ := g3_dvd x y z
    rw [e] at d1 d2 d3
    exact absurd ⟨Int.zero_dvd.mp d1, Int.zero_dvd.mp d2, Int.zero_dvd.mp d3⟩ h
  · exact e
theorem sm_g3 {x y z : Int} {k : Nat} (h : ¬ (x = 0 ∧ y = 0 ∧ z = 0)) (hx : Sm k x) (hy : Sm k y) (hz : Sm k z) : Sm k (g3 x y z) := by
  obtain ⟨d1, d2, d3⟩ := g3_dvd x y z
  have le : ∀ a : Int, a ≠ 0 → (g3 x y z : Int) ∣ a → Sm k a → Sm k (g3 x y z) := fun a h0 d s => by
    have d2 := Int.natAbs_dvd_natAbs.mpr d
    rw [Int.natAbs_natCast] at d2
    have := Nat.le_of_dvd (by omega) d2
    unfold Sm at *
    rw [Int.natAbs_natCast]
    omega
  by_cases h1 : x = 0
  · by_cases h2 : y = 0
    · exact le z (fun h3 => h ⟨h1, h2, h3⟩) d3 hz
    · exact le y h2 d2 hy
  · exact le x h1 d1 hx
/-- the direction in its lowest numbers -/
def low3 (d : Dr) : Dr := ⟨d.x / g3 d.x d.y d.z, d.y / g3 d.x d.y d.z, d.z / g3 d.x d.y d.z, fun ⟨h1, h2, h3⟩ => by
  obtain ⟨d1, d2, d3⟩ := g3_dvd d.x d.y d.z
  have e1 := Int.ediv_mul_cancel d1
  have e2 := Int.ediv_mul_cancel d2
  have e3 := Int.ediv_mul_cancel d3
  rw [h1, Int.zero_mul] at e1
  rw [h2, Int.zero_mul] at e2
  rw [h3, Int.zero_mul] at e3
  exact d.nz ⟨e1.symm, e2.symm, e3.symm⟩⟩
theorem low3_eq (d : Dr) : ∃ g : Int, 0 < g ∧ d.x = (low3 d).x * g ∧ d.y = (low3 d).y * g ∧ d.z = (low3 d).z * g := by
  obtain ⟨d1, d2, d3⟩ := g3_dvd d.x d.y d.z
  have := g3_pos d.nz
  exact ⟨g3 d.x d.y d.z, by omega, (Int.ediv_mul_cancel d1).symm, (Int.ediv_mul_cancel d2).symm, (Int.ediv_mul_cancel d3).symm⟩
theorem dr_ext {a b : Dr} (h1 : a.x = b.x) (h2 : a.y = b.y) (h3 : a.z = b.z) : a = b := by
  cases a; cases b
  simp at *
  exact ⟨h1, h2, h3⟩
theorem low3_mul (d e : Dr) {k : Int} (hk : 0 < k) (h1 : e.x = d.x * k) (h2 : e.y = d.y * k) (h3 : e.z = d.z * k) : low3 e = low3 d := by
  have hg := g3_mul d.x d.y d.z k
  rw [← h1, ← h2, ← h3] at hg
  have gp := g3_pos d.nz
  have e1 : (g3 e.x e.y e.z : Int) = g3 d.x d.y d.z * k := by rw [hg, Int.natCast_mul, Int.natAbs_of_nonneg (by omega)]
  apply dr_ext <;> (show _ / (g3 e.x e.y e.z : Int) = _ / (g3 d.x d.y d.z : Int)) <;> rw [e1]
  · rw [h1, Int.mul_ediv_mul_of_pos_left _ _ hk]
  · rw [h2, Int.mul_ediv_mul_of_pos_left _ _ hk]
  · rw [h3, Int.mul_ediv_mul_of_pos_left _ _ hk]
theorem parted3 (d : Dr) {k : Nat} (hx : Sm k d.x) (hy : Sm k d.y) (hz : Sm k d.z) (hk : k < 9000) : Pu (F_parted A) [toV d] (toV (low3 d)) := fun S => by
  have e := fun i S => oDiv_int (S := S) (i := i) (j := g3 d.x d.y d.z) (by have := g3_pos d.nz; omega) (sm_g3 d.nz hx hy hz) hk
  refine ⟨[[.int (d.x / g3 d.x d.y d.z), .int (d.y / g3 d.x d.y d.z), .int (d.z / g3 d.x d.y d.z)]], ?_⟩
  unfold F_parted
  rw [fn_ev]
  simp [b_parted, st0, itOf, div3, e, toV, low3]
end K87
namespace K87
open PySem PySem.Spec L2 RZ Sd Sd.R
variable {A : Str → Addr} {S : Store}
theorem way_nz {p q : Pt} (h : p ≠ q) : ¬ (q.x * p.w - p.x * q.w = 0 ∧ q.y * p.w - p.y * q.w = 0 ∧ q.z * p.w - p.z * q.w = 0) := fun ⟨h1, h2, h3⟩ => by
  have pw := p.wp
  have qw := q.wp
  exact h (Pt.ext' ((Rat.divInt_eq_divInt_iff (by omega) (by omega)).mpr (by omega)) ((Rat.divInt_eq_divInt_iff (by omega) (by omega)).mpr (by omega)) ((Rat.divInt_eq_divInt_iff (by omega) (by omega)).mpr (by omega)))
def wayD (p q : Pt) (h : p ≠ q) : Dr := ⟨q.x * p.w - p.x * q.w, q.y * p.w - p.y * q.w, q.z * p.w - p.z * q.w, way_nz h⟩
theorem dirb {p q : Pt} {k : Nat} (h : p ≠ q) (bp : BP k p) (bq : BP k q) (hk : k < 1000) : Pu (F_direction_between A) [toP p, toP q] (toV (low3 (wayD p q h))) := fun S => by
  obtain ⟨n1, h1, g1, e1⟩ := (surep (A := A) p).op
  obtain ⟨n2, h2, g2, e2⟩ := (surep (A := A) q).op
  obtain ⟨n3, h3, g3, e3⟩ := (way_ (A := A) bp bq hk).op
  obtain ⟨n4, h4, g4, e4⟩ := (parted3 (A := A) (wayD p q h) (sm_sub (sm_mul bq.x bp.w) (sm_mul bp.x bq.w)) (sm_sub (sm_mul bq.y bp.w) (sm_mul bp.y bq.w)) (sm_sub (sm_mul bq.z bp.w) (sm_mul bp.z bq.w)) (by omega)).op
  unfold F_direction_between
  apply Exists.intro
  rw [fn_ev]
  have h5 : ∀ S, F_parted A [.tup [.int (q.x * p.w - p.x * q.w), .int (q.y * p.w - p.y * q.w), .int (q.z * p.w - p.z * q.w)]] S = .ok (toV (low3 (wayD p q h))) (n4 S) := h4
  simp [b_direction_between, st0, h1, h2, h3, h5, h]
  simp only [e1, e2, e3, e4, List.append_assoc]
  rfl
theorem dirb0 (p : Pt) : ∀ S, ∃ g, F_direction_between A [toP p, toP p] S = .exc (A "Flat") (S ++ g) := fun S => by
  obtain ⟨n1, h1, g1, e1⟩ := (surep (A := A) p).op
  unfold F_direction_between
  apply Exists.intro
  rw [fn_ev]
  simp [b_direction_between, st0, h1]
  simp only [e1, List.append_assoc]
  rfl
theorem least_ (d : Dr) {k : Nat} (hx : Sm k d.x) (hy : Sm k d.y) (hz : Sm k d.z) (hk : k < 9000) : Pu (F_least_direction A) [toV d] (toV (low3 d)) := fun S => by
  obtain ⟨n1, h1, g1, e1⟩ := (sured (A := A) d).op
  obtain ⟨n2, h2, g2, e2⟩ := (parted3 (A := A) d hx hy hz hk).op
  unfold F_least_direction
  apply Exists.intro
  rw [fn_ev]
  simp [b_least_direction, st0, h1, h2]
  simp only [e1, e2, List.append_assoc]
  rfl
structure BV (k : Nat) (d : Dr) : Prop where
  x : Sm k d.x
  y : Sm k d.y
  z : Sm k d.z
theorem placeat {p : Pt} {d : Dr} {t : Rat} {k : Nat} (bp : BP k p) (bd : BV k d) (bt : Bd k t) (hk : k < 1000) : ∃ r : Pt, r.X = p.X + d.x * t ∧ r.Y = p.Y + d.y * t ∧ r.Z = p.Z + d.z * t ∧ Pu (F_place_at A) [.tup [toP p, toV d], toD t] (toP r) := by
  have hw : 0 < p.w * (t.den : Int) := Int.mul_pos p.wp (den_p t)
  have q0 := wq p
  have q1 := dnz t
  refine ⟨norm (p.x * t.den + d.x * p.w * t.num) (p.y * t.den + d.y * p.w * t.num) (p.z * t.den + d.z * p.w * t.num) (p.w * t.den) hw, ?_, ?_, ?_, fun S => ?_⟩
  · rw [norm_X]; simp only [Pt.X, dX, Rat.intCast_add, Rat.intCast_mul, nc]; conv => rhs; rw [cs t]
    grind
  · rw [norm_Y]; simp only [Pt.Y, dX, Rat.intCast_add, Rat.intCast_mul, nc]; conv => rhs; rw [cs t]
    grind
  · rw [norm_Z]; simp only [Pt.Z, dX, Rat.intCast_add, Rat.intCast_mul, nc]; conv => rhs; rw [cs t]
    grind
  · obtain ⟨n1, h1, g1, e1⟩ := (surer (A := A) p d).op
    have st := fun S => sure (A := A) (S := S) (q := t)
    have m : ∀ {a b : Nat} (i j : Int), Sm a i → Sm b j → a + b ≤ 10000 → ∀ S, oMul (.int i) (.int j) S = some (.int (i * j), S) := fun i j hi hj h S => oMul_int hi hj (by omega)
    have m1 := m _ _ bp.x bt.d (by omega)
    have m2 := m _ _ bp.y bt.d (by omega)
    have m3 := m _ _ bp.z bt.d (by omega)
    have m4 := m _ _ bp.w bt.d (by omega)
    have m5 := m _ _ bd.x bp.w (by omega)
    have m6 := m _ _ bd.y bp.w (by omega)
    have m7 := m _ _ bd.z bp.w (by omega)
    have m8 := m _ _ (sm_mul bd.x bp.w) bt.n (by omega)
    have m9 := m _ _ (sm_mul bd.y bp.w) bt.n (by omega)
    have m0 := m _ _ (sm_mul bd.z bp.w) bt.n (by omega)
    obtain ⟨B, gB, hB, eB⟩ : ∃ B gB, n1 S = B ∧ B = S ++ gB := ⟨_, _, rfl, e1 S⟩
    obtain ⟨g, hg⟩ := spotL (A := A) (S := B ++ [gq t, [.int (p.x * t.den + d.x * p.w * t.num), .int (p.y * t.den + d.y * p.w * t.num), .int (p.z * t.den + d.z * p.w * t.num)]]) (r := B.length + 1)
      (x := p.x * t.den + d.x * p.w * t.num) (y := p.y * t.den + d.y * p.w * t.num) (z := p.z * t.den + d.z * p.w * t.num) (by simp) hw (sm_mul bp.w bt.d) (by omega)
    unfold F_place_at
    apply Exists.intro
    rw [fn_ev]
    simp [b_place_at, st0, h1, hB, st]
    simp [toD, toV, itOf, m1, m2, m3, m4, m5, m6, m7, m8, m9, m0, hg]
    rw [eB, List.append_assoc]
theorem time_ {p q : Pt} {d : Dr} {g : Int} {k : Nat} (bp : BP k p) (bq : BP k q) (bd : BV k d) (hk : k < 1000) (hx : q.x * p.w - p.x * q.w = d.x * g) (hy : q.y * p.w - p.y * q.w = d.y * g) (hz : q.z * p.w - p.z * q.w = d.z * g) :
    Pu (F_time_of A) [.tup [toP p, toV d], toP q] (toD (Rat.divInt g (p.w * q.w))) := fun S => by
  obtain ⟨n1, h1, g1, e1⟩ := (surer (A := A) p d).op
  obtain ⟨n2, h2, g2, e2⟩ := (surep (A := A) q).op
  obtain ⟨n3, h3, g3, e3⟩ := (way_ (A := A) bp bq hk).op
  have sx := sm_sub (sm_mul bq.x bp.w) (sm_mul bp.x bq.w)
  have sy := sm_sub (sm_mul bq.y bp.w) (sm_mul bp.y bq.w)
  have sz := sm_sub (sm_mul bq.z bp.w) (sm_mul bp.z bq.w)
  have cr := fun S => cross_ (A := A) (S := S) sx sy sz (sm_mono bd.x (by omega)) (sm_mono bd.y (by omega)) (sm_mono bd.z (by omega)) (by omega)
  have z1 : (q.y * p.w - p.y * q.w) * d.z - (q.z * p.w - p.z * q.w) * d.y = 0 := by rw [hy, hz]; grind
  have z2 : (q.z * p.w - p.z * q.w) * d.x - (q.x * p.w - p.x * q.w) * d.z = 0 := by rw [hx, hz]; grind
  have z3 : (q.x * p.w - p.x * q.w) * d.y - (q.y * p.w - p.y * q.w) * d.x = 0 := by rw [hx, hy]; grind
  have pq : p.w * q.w ≠ 0 := by have := Int.mul_pos p.wp q.wp; omega
  have m1 := fun S => oMul_int (S := S) bp.w bq.w (by omega)
  have q1 := wq p
  have q2 := wq q
  have fin : ∀ c : Int, c ≠ 0 → Sm k c → ∀ S, F_made A [.int (c * g), .int (p.w * q.w * c)] S = .ok (toD (Rat.divInt g (p.w * q.w))) S := fun c hc sc S => by
    rw [made (Int.mul_ne_zero pq hc) (sm_mul (sm_mul bp.w bq.w) sc) (by omega)]
    have hc' : (c : Rat) ≠ 0 := by simp; exact hc
    have e : Rat.divInt (c * g) (p.w * q.w * c) = Rat.divInt g (p.w * q.w) := by
      simp only [dX, Rat.intCast_mul]
      grind
    rw [e]
  rw [hx, hy, hz] at h3 cr
  rw [hy, hz] at z1
  rw [hx, hz] at z2
  rw [hx, hy] at z3
  have a2 : ∀ x y z : D, atI [x, y, z] 2 = some z := fun x y z => Sd.atI_nat _ 2
  have fx := fun h => fin d.x h bd.x
  have fy := fun h => fin d.y h bd.y
  have fz := fun h => fin d.z h bd.z
  have mx := fun S => oMul_int (S := S) (sm_mul bp.w bq.w) bd.x (by omega)
  have my := fun S => oMul_int (S := S) (sm_mul bp.w bq.w) bd.y (by omega)
  have mz := fun S => oMul_int (S := S) (sm_mul bp.w bq.w) bd.z (by omega)
  obtain ⟨B, gB, hB, eB⟩ : ∃ B gB, n3 (n2 (n1 S)) = B ∧ B = S ++ gB := ⟨_, _, rfl, by rw [e3, e2, e1, List.append_assoc, List.append_assoc]⟩
  unfold F_time_of
  by_cases dx0 : d.x = 0
  · by_cases dy0 : d.y = 0
    · have dz0 : d.z ≠ 0 := fun h => d.nz ⟨dx0, dy0, h⟩
      have f := fz dz0
      (apply Exists.intro; rw [fn_ev]; simp [b_time_of, st0, h1, h2, h3, hB]; simp [toV, cr, z1, z2, z3]; simp [Sd.iRng1, List.range, List.range.loop, a2, dx0, dy0, dz0, m1, mx, my, mz, f]; first | done | (simp only [List.append_assoc]; rfl) | (rw [eB, List.append_assoc]))
    · have f := fy dy0
      by_cases dz0 : d.z = 0 <;> (apply Exists.intro; rw [fn_ev]; simp [b_time_of, st0, h1, h2, h3, hB]; simp [toV, cr, z1, z2, z3]; simp [Sd.iRng1, List.range, List.range.loop, a2, dx0, dy0, dz0, m1, mx, my, mz, f]; first | done | (simp only [List.append_assoc]; rfl) | (rw [eB, List.append_assoc]))
  · have f := fx dx0
    by_cases dy0 : d.y = 0 <;> by_cases dz0 : d.z = 0 <;> (apply Exists.intro; rw [fn_ev]; simp [b_time_of, st0, h1, h2, h3, hB]; simp [toV, cr, z1, z2, z3]; simp [Sd.iRng1, List.range, List.range.loop, a2, dx0, dy0, dz0, m1, mx, my, mz, f]; first | done | (simp only [List.append_assoc]; rfl) | (rw [eB, List.append_assoc]))
end K87
namespace K87
open PySem PySem.Spec L2 RZ Sd Sd.R
variable {A : Str → Addr} {S : Store}
/-- the crossed ways from p to q and to r -/
def ux (p q r : Pt) : Int := (q.y * p.w - p.y * q.w) * (r.z * p.w - p.z * r.w) - (q.z * p.w - p.z * q.w) * (r.y * p.w - p.y * r.w)
def uy (p q r : Pt) : Int := (q.z * p.w - p.z * q.w) * (r.x * p.w - p.x * r.w) - (q.x * p.w - p.x * q.w) * (r.z * p.w - p.z * r.w)
def uz (p q r : Pt) : Int := (q.x * p.w - p.x * q.w) * (r.y * p.w - p.y * r.w) - (q.y * p.w - p.y * q.w) * (r.x * p.w - p.x * r.w)
theorem up_ {p q r : Pt} {k : Nat} (bp : BP k p) (bq : BP k q) (br : BP k r) (hk : k < 1000) : Pu (F_upright A) [toP p, toP q, toP r] (.tup [.int (ux p q r), .int (uy p q r), .int (uz p q r)]) := fun S => by
  obtain ⟨n1, h1, g1, e1⟩ := (way_ (A := A) bp bq hk).op
  obtain ⟨n2, h2, g2, e2⟩ := (way_ (A := A) bp br hk).op
  have cr := fun S => cross_ (A := A) (S := S) (sm_sub (sm_mul bq.x bp.w) (sm_mul bp.x bq.w)) (sm_sub (sm_mul bq.y bp.w) (sm_mul bp.y bq.w)) (sm_sub (sm_mul bq.z bp.w) (sm_mul bp.z bq.w)) (sm_sub (sm_mul br.x bp.w) (sm_mul bp.x br.w)) (sm_sub (sm_mul br.y bp.w) (sm_mul bp.y br.w)) (sm_sub (sm_mul br.z bp.w) (sm_mul bp.z br.w)) (by omega)
  unfold F_upright
  apply Exists.intro
  rw [fn_ev]
  simp [b_upright, st0, h1, h2, cr, ux, uy, uz]
  simp only [e1, e2, List.append_assoc]
  rfl
theorem sm_u {p q r : Pt} {k : Nat} (bp : BP k p) (bq : BP k q) (br : BP k r) : Sm (16 * k + 5) (ux p q r) ∧ Sm (16 * k + 5) (uy p q r) ∧ Sm (16 * k + 5) (uz p q r) :=
  ⟨sm_mono (sm_sub (sm_mul (sm_sub (sm_mul bq.y bp.w) (sm_mul bp.y bq.w)) (sm_sub (sm_mul br.z bp.w) (sm_mul bp.z br.w))) (sm_mul (sm_sub (sm_mul bq.z bp.w) (sm_mul bp.z bq.w)) (sm_sub (sm_mul br.y bp.w) (sm_mul bp.y br.w)))) (by omega),
    sm_mono (sm_sub (sm_mul (sm_sub (sm_mul bq.z bp.w) (sm_mul bp.z bq.w)) (sm_sub (sm_mul br.x bp.w) (sm_mul bp.x br.w))) (sm_mul (sm_sub (sm_mul bq.x bp.w) (sm_mul bp.x bq.w)) (sm_sub (sm_mul br.z bp.w) (sm_mul bp.z br.w)))) (by omega),
    sm_mono (sm_sub (sm_mul (sm_sub (sm_mul bq.x bp.w) (sm_mul bp.x bq.w)) (sm_sub (sm_mul br.y bp.w) (sm_mul bp.y br.w))) (sm_mul (sm_sub (sm_mul bq.y bp.w) (sm_mul bp.y bq.w)) (sm_sub (sm_mul br.x bp.w) (sm_mul bp.x br.w)))) (by omega)⟩
abbrev Fl (p q r : Pt) : Prop := ux p q r = 0 ∧ uy p q r = 0 ∧ uz p q r = 0
theorem line_ {p q r : Pt} {k : Nat} (bp : BP k p) (bq : BP k q) (br : BP k r) (hk : k < 1000) : Pu (F_on_one_line A) [toP p, toP q, toP r] (.bl (decide (Fl p q r))) := fun S => by
  obtain ⟨n1, h1, g1, e1⟩ := (surep (A := A) p).op
  obtain ⟨n2, h2, g2, e2⟩ := (surep (A := A) q).op
  obtain ⟨n3, h3, g3, e3⟩ := (surep (A := A) r).op
  obtain ⟨n4, h4, g4, e4⟩ := (up_ (A := A) bp bq br hk).op
  unfold F_on_one_line
  apply Exists.intro
  rw [fn_ev]
  simp [b_on_one_line, st0, h1, h2, h3, h4, Bool.decide_and]
  simp only [e1, e2, e3, e4, List.append_assoc]
  rfl
structure Wl where
  a : Int
  b : Int
  c : Int
  d : Int
  nz : ¬ (a = 0 ∧ b = 0 ∧ c = 0)
def toW (w : Wl) : D := .tup [.int w.a, .int w.b, .int w.c, .int w.d]
def Wl.g (w : Wl) : Nat := g4 w.a w.b w.c w.d
theorem Wl.gp (w : Wl) : 0 < w.g := by
  rcases Nat.eq_zero_or_pos w.g with e | e
  · obtain ⟨d1, d2, d3, _⟩ := g4_dvd w.a w.b w.c w.d
    have e' : g4 w.a w.b w.c w.d = 0 := e
    rw [e'] at d1 d2 d3
    exact absurd ⟨Int.zero_dvd.mp d1, Int.zero_dvd.mp d2, Int.zero_dvd.mp d3⟩ w.nz
  · exact e
theorem Wl.sm {w : Wl} {k : Nat} (h1 : Sm k w.a) (h2 : Sm k w.b) (h3 : Sm k w.c) : Sm k w.g := by
  obtain ⟨d1, d2, d3, _⟩ := g4_dvd w.a w.b w.c w.d
  have le : ∀ x : Int, x ≠ 0 → (g4 w.a w.b w.c w.d : Int) ∣ x → Sm k x → Sm k w.g := fun x h0 d s => by
    have d2 := Int.natAbs_dvd_natAbs.mpr d
    rw [Int.natAbs_natCast] at d2
    have := Nat.le_of_dvd (by omega) d2
    unfold Sm Wl.g at *
    rw [Int.natAbs_natCast]
    omega
  by_cases x1 : w.a = 0
  · by_cases x2 : w.b = 0
    · exact le w.c (fun x3 => w.nz ⟨x1, x2, x3⟩) d3 h3
    · exact le w.b x2 d2 h2
  · exact le w.a x1 d1 h1
def lowW (w : Wl) : Wl := ⟨w.a / w.g, w.b / w.g, w.c / w.g, w.d / w.g, fun ⟨h1, h2, h3⟩ => by
  obtain ⟨d1, d2, d3, _⟩ := g4_dvd w.a w.b w.c w.d
  have e1 := Int.ediv_mul_cancel d1
  have e2 := Int.ediv_mul_cancel d2
  have e3 := Int.ediv_mul_cancel d3
  change w.a / g4 w.a w.b w.c w.d = 0 at h1
  change w.b / g4 w.a w.b w.c w.d = 0 at h2
  change w.c / g4 w.a w.b w.c w.d = 0 at h3
  rw [h1, Int.zero_mul] at e1
  rw [h2, Int.zero_mul] at e2
  rw [h3, Int.zero_mul] at e3
  exact w.nz ⟨e1.symm, e2.symm, e3.symm⟩⟩
theorem wl_ext {a b : Wl} (h1 : a.a = b.a) (h2 : a.b = b.b) (h3 : a.c = b.c) (h4 : a.d = b.d) : a = b := by
  cases a; cases b
  simp at *
  exact ⟨h1, h2, h3, h4⟩
theorem lowW_eq (w : Wl) : w.a = (lowW w).a * w.g ∧ w.b = (lowW w).b * w.g ∧ w.c = (lowW w).c * w.g ∧ w.d = (lowW w).d * w.g := by
  obtain ⟨d1, d2, d3, d4⟩ := g4_dvd w.a w.b w.c w.d
  exact ⟨(Int.ediv_mul_cancel d1).symm, (Int.ediv_mul_cancel d2).symm, (Int.ediv_mul_cancel d3).symm, (Int.ediv_mul_cancel d4).symm⟩
theorem lowW_pr (w : Wl) : (lowW w).g = 1 := by
  obtain ⟨e1, e2, e3, e4⟩ := lowW_eq w
  have e := g4_mul (lowW w).a (lowW w).b (lowW w).c (lowW w).d w.g
  rw [← e1, ← e2, ← e3, ← e4, Int.natAbs_natCast] at e
  exact Nat.eq_of_mul_eq_mul_right w.gp (by rw [Nat.one_mul]; exact e.symm)
theorem lowW_mul (w v : Wl) {k : Int} (hk : 0 < k) (h1 : v.a = w.a * k) (h2 : v.b = w.b * k) (h3 : v.c = w.c * k) (h4 : v.d = w.d * k) : lowW v = lowW w := by
  have hg := g4_mul w.a w.b w.c w.d k
  rw [← h1, ← h2, ← h3, ← h4] at hg
  have gp := w.gp
  have e1 : (v.g : Int) = w.g * k := by
    show (g4 v.a v.b v.c v.d : Int) = _
    rw [hg, Int.natCast_mul, Int.natAbs_of_nonneg (by omega)]; rfl
  apply wl_ext <;> (show _ / (v.g : Int) = _ / (w.g : Int)) <;> rw [e1]
  · rw [h1, Int.mul_ediv_mul_of_pos_left _ _ hk]
  · rw [h2, Int.mul_ediv_mul_of_pos_left _ _ hk]
  · rw [h3, Int.mul_ediv_mul_of_pos_left _ _ hk]
  · rw [h4, Int.mul_ediv_mul_of_pos_left _ _ hk]
theorem lowW_prop (w v : Wl) {k l : Int} (hk : 0 < k) (hl : 0 < l) (h1 : v.a * l = w.a * k) (h2 : v.b * l = w.b * k) (h3 : v.c * l = w.c * k) (h4 : v.d * l = w.d * k) : lowW v = lowW w := by
  have nz : ¬ (v.a * l = 0 ∧ v.b * l = 0 ∧ v.c * l = 0) := fun ⟨x1, x2, x3⟩ => by
    have hl0 : l ≠ 0 := by omega
    exact v.nz ⟨(Int.mul_eq_zero.mp x1).resolve_right hl0, (Int.mul_eq_zero.mp x2).resolve_right hl0, (Int.mul_eq_zero.mp x3).resolve_right hl0⟩
  have e1 := lowW_mul v ⟨v.a * l, v.b * l, v.c * l, v.d * l, nz⟩ hl rfl rfl rfl rfl
  have e2 := lowW_mul w ⟨v.a * l, v.b * l, v.c * l, v.d * l, nz⟩ hk h1 h2 h3 h4
  exact e1.symm.trans e2
def negW (w : Wl) : Wl := ⟨-w.a, -w.b, -w.c, -w.d, fun ⟨h1, h2, h3⟩ => w.nz ⟨by omega, by omega, by omega⟩⟩
theorem negW_g (w : Wl) : (negW w).g = w.g := by
  unfold Wl.g g4 negW
  simp
theorem lowW_neg (w : Wl) : lowW (negW w) = negW (lowW w) := by
  obtain ⟨d1, d2, d3, d4⟩ := g4_dvd w.a w.b w.c w.d
  apply wl_ext
  · show -w.a / ((negW w).g : Int) = -(w.a / (w.g : Int)); rw [negW_g]; exact Int.neg_ediv_of_dvd d1
  · show -w.b / ((negW w).g : Int) = -(w.b / (w.g : Int)); rw [negW_g]; exact Int.neg_ediv_of_dvd d2
  · show -w.c / ((negW w).g : Int) = -(w.c / (w.g : Int)); rw [negW_g]; exact Int.neg_ediv_of_dvd d3
  · show -w.d / ((negW w).g : Int) = -(w.d / (w.g : Int)); rw [negW_g]; exact Int.neg_ediv_of_dvd d4
theorem partedW (w : Wl) {k : Nat} (h1 : Sm k w.a) (h2 : Sm k w.b) (h3 : Sm k w.c) (hk : k < 9000) : Pu (F_parted A) [toW w] (toW (lowW w)) := fun S => by
  have e := fun i S => oDiv_int (S := S) (i := i) (j := w.g) (by have := w.gp; omega) (Wl.sm h1 h2 h3) hk
  refine ⟨[[.int (w.a / w.g), .int (w.b / w.g), .int (w.c / w.g), .int (w.d / w.g)]], ?_⟩
  have d4 := div4 (A := A) (S := S) w.a w.b w.c w.d
  unfold F_parted
  rw [fn_ev]
  change _ = Res.ok (D.int (w.g : Int)) S at d4
  simp [b_parted, st0, toW, itOf, d4, e, lowW]
/-- the plane through p, q, r as it is first made -/
def pw (p q r : Pt) (h : ¬ Fl p q r) : Wl := ⟨ux p q r * p.w, uy p q r * p.w, uz p q r * p.w, ux p q r * p.x + uy p q r * p.y + uz p q r * p.z, fun ⟨h1, h2, h3⟩ => by
  have hp : p.w ≠ 0 := by have := p.wp; omega
  exact h ⟨(Int.mul_eq_zero.mp h1).resolve_right hp, (Int.mul_eq_zero.mp h2).resolve_right hp, (Int.mul_eq_zero.mp h3).resolve_right hp⟩⟩
theorem plane_ {p q r : Pt} {k : Nat} (h : ¬ Fl p q r) (bp : BP k p) (bq : BP k q) (br : BP k r) (hk : k < 300) : Pu (F_plane_through A) [toP p, toP q, toP r] (toW (lowW (pw p q r h))) := fun S => by
  obtain ⟨n1, h1, g1, e1⟩ := (surep (A := A) p).op
  obtain ⟨n2, h2, g2, e2⟩ := (surep (A := A) q).op
  obtain ⟨n3, h3, g3, e3⟩ := (surep (A := A) r).op
  obtain ⟨n4, h4, g4', e4⟩ := (up_ (A := A) bp bq br (by omega)).op
  obtain ⟨sx, sy, sz⟩ := sm_u bp bq br
  obtain ⟨n5, h5, g5, e5⟩ := (partedW (A := A) (pw p q r h) (sm_mul sx bp.w) (sm_mul sy bp.w) (sm_mul sz bp.w) (by omega)).op
  have dt := fun S => dot_ (A := A) (S := S) sx sy sz bp.x bp.y bp.z (by omega)
  have m1 := fun S => oMul_int (S := S) sx bp.w (by omega)
  have m2 := fun S => oMul_int (S := S) sy bp.w (by omega)
  have m3 := fun S => oMul_int (S := S) sz bp.w (by omega)
  obtain ⟨B, gB, hB, eB⟩ : ∃ B gB, n4 (n3 (n2 (n1 S))) = B ∧ B = S ++ gB := ⟨_, _, rfl, by rw [e4, e3, e2, e1, List.append_assoc, List.append_assoc, List.append_assoc]⟩
  have nf : ¬ (ux p q r = 0 ∧ uy p q r = 0 ∧ uz p q r = 0) := h
  have h6 : ∀ S, F_parted A [.tup [.int (ux p q r * p.w), .int (uy p q r * p.w), .int (uz p q r * p.w), .int (ux p q r * p.x + uy p q r * p.y + uz p q r * p.z)]] S = .ok (toW (lowW (pw p q r h))) (n5 S) := h5
  unfold F_plane_through
  apply Exists.intro
  rw [fn_ev]
  simp [b_plane_through, st0, h1, h2, h3, h4, hB, nf, itOf, m1, m2, m3, dt, h6]
  simp only [e5]
  rw [eB]
  simp only [List.append_assoc]
  rfl
theorem plane0 {p q r : Pt} {k : Nat} (h : Fl p q r) (bp : BP k p) (bq : BP k q) (br : BP k r) (hk : k < 300) : ∀ S, ∃ g, F_plane_through A [toP p, toP q, toP r] S = .exc (A "Flat") (S ++ g) := fun S => by
  obtain ⟨n1, h1, g1, e1⟩ := (surep (A := A) p).op
  obtain ⟨n2, h2, g2, e2⟩ := (surep (A := A) q).op
  obtain ⟨n3, h3, g3, e3⟩ := (surep (A := A) r).op
  obtain ⟨n4, h4, g4', e4⟩ := (up_ (A := A) bp bq br (by omega)).op
  unfold F_plane_through
  apply Exists.intro
  rw [fn_ev]
  simp [b_plane_through, st0, h1, h2, h3, h4, h.1, h.2.1, h.2.2]
  simp only [e1, e2, e3, e4, List.append_assoc]
  rfl
end K87
namespace K87
open PySem PySem.Spec L2 RZ Sd Sd.R
variable {A : Str → Addr} {S : Store}
/-- six times the volume, from the coordinates -/
def det (p q r s : Pt) : Rat :=
  ((q.Y - p.Y) * (r.Z - p.Z) - (q.Z - p.Z) * (r.Y - p.Y)) * (s.X - p.X) + ((q.Z - p.Z) * (r.X - p.X) - (q.X - p.X) * (r.Z - p.Z)) * (s.Y - p.Y) + ((q.X - p.X) * (r.Y - p.Y) - (q.Y - p.Y) * (r.X - p.X)) * (s.Z - p.Z)
theorem wX (p q : Pt) : ((q.x * p.w - p.x * q.w : Int) : Rat) = (q.X - p.X) * ((p.w : Rat) * q.w) := by
  have q1 := wq p
  have q2 := wq q
  simp only [Pt.X, dX, Rat.intCast_sub, Rat.intCast_mul]
  grind
theorem wY (p q : Pt) : ((q.y * p.w - p.y * q.w : Int) : Rat) = (q.Y - p.Y) * ((p.w : Rat) * q.w) := by
  have q1 := wq p
  have q2 := wq q
  simp only [Pt.Y, dX, Rat.intCast_sub, Rat.intCast_mul]
  grind
theorem wZ (p q : Pt) : ((q.z * p.w - p.z * q.w : Int) : Rat) = (q.Z - p.Z) * ((p.w : Rat) * q.w) := by
  have q1 := wq p
  have q2 := wq q
  simp only [Pt.Z, dX, Rat.intCast_sub, Rat.intCast_mul]
  grind
theorem uX (p q r : Pt) : (ux p q r : Rat) = ((q.Y - p.Y) * (r.Z - p.Z) - (q.Z - p.Z) * (r.Y - p.Y)) * ((p.w : Rat) * p.w * q.w * r.w) := by
  unfold ux
  rw [Rat.intCast_sub, Rat.intCast_mul, Rat.intCast_mul, wY, wZ, wY, wZ]
  generalize q.Y - p.Y = a
  generalize q.Z - p.Z = b
  generalize r.Y - p.Y = c
  generalize r.Z - p.Z = d
  grind
theorem uY (p q r : Pt) : (uy p q r : Rat) = ((q.Z - p.Z) * (r.X - p.X) - (q.X - p.X) * (r.Z - p.Z)) * ((p.w : Rat) * p.w * q.w * r.w) := by
  unfold uy
  rw [Rat.intCast_sub, Rat.intCast_mul, Rat.intCast_mul, wX, wZ, wX, wZ]
  generalize q.X - p.X = a
  generalize q.Z - p.Z = b
  generalize r.X - p.X = c
  generalize r.Z - p.Z = d
  grind
theorem uZ (p q r : Pt) : (uz p q r : Rat) = ((q.X - p.X) * (r.Y - p.Y) - (q.Y - p.Y) * (r.X - p.X)) * ((p.w : Rat) * p.w * q.w * r.w) := by
  unfold uz
  rw [Rat.intCast_sub, Rat.intCast_mul, Rat.intCast_mul, wX, wY, wX, wY]
  generalize q.X - p.X = a
  generalize q.Y - p.Y = b
  generalize r.X - p.X = c
  generalize r.Y - p.Y = d
  grind
theorem num_det (p q r s : Pt) : ((ux p q r * (s.x * p.w - p.x * s.w) + uy p q r * (s.y * p.w - p.y * s.w) + uz p q r * (s.z * p.w - p.z * s.w) : Int) : Rat) = det p q r s * ((p.w : Rat) ^ 3 * q.w * r.w * s.w) := by
  rw [Rat.intCast_add, Rat.intCast_add, Rat.intCast_mul, Rat.intCast_mul, Rat.intCast_mul, uX, uY, uZ, wX, wY, wZ]
  unfold det
  generalize (q.Y - p.Y) * (r.Z - p.Z) - (q.Z - p.Z) * (r.Y - p.Y) = a
  generalize (q.Z - p.Z) * (r.X - p.X) - (q.X - p.X) * (r.Z - p.Z) = b
  generalize (q.X - p.X) * (r.Y - p.Y) - (q.Y - p.Y) * (r.X - p.X) = c
  generalize s.X - p.X = x
  generalize s.Y - p.Y = y
  generalize s.Z - p.Z = z
  grind
theorem det_eq (p q r s : Pt) : Rat.divInt (ux p q r * (s.x * p.w - p.x * s.w) + uy p q r * (s.y * p.w - p.y * s.w) + uz p q r * (s.z * p.w - p.z * s.w)) (p.w ^ 3 * q.w * r.w * s.w) = det p q r s := by
  have q1 := wq p
  have q2 := wq q
  have q3 := wq r
  have q4 := wq s
  rw [dX, num_det]
  simp only [Rat.intCast_mul, Rat.intCast_pow]
  refine Rat.mul_div_cancel ?_
  intro h
  rcases Rat.mul_eq_zero.mp h with h | h
  · rcases Rat.mul_eq_zero.mp h with h | h
    · rcases Rat.mul_eq_zero.mp h with h | h
      · have : (p.w : Rat) * p.w * p.w = 0 := by rw [← h]; grind
        rcases Rat.mul_eq_zero.mp this with h | h
        · rcases Rat.mul_eq_zero.mp h with h | h <;> exact q1 h
        · exact q1 h
      · exact q2 h
    · exact q3 h
  · exact q4 h
theorem six_ {p q r s : Pt} {k : Nat} (bp : BP k p) (bq : BP k q) (br : BP k r) (bs : BP k s) (hk : k < 60) : Pu (F_sixfold A) [toP p, toP q, toP r, toP s] (toD (det p q r s)) := fun S => by
  obtain ⟨n1, h1, g1, e1⟩ := (surep (A := A) p).op
  obtain ⟨n2, h2, g2, e2⟩ := (surep (A := A) q).op
  obtain ⟨n3, h3, g3, e3⟩ := (surep (A := A) r).op
  obtain ⟨n4, h4, g4', e4⟩ := (surep (A := A) s).op
  obtain ⟨n5, h5, g5, e5⟩ := (up_ (A := A) bp bq br (by omega)).op
  obtain ⟨n6, h6, g6, e6⟩ := (way_ (A := A) bp bs (by omega)).op
  obtain ⟨sx, sy, sz⟩ := sm_u bp bq br
  have dt := fun S => dot_ (A := A) (S := S) sx sy sz (sm_sub (sm_mul bs.x bp.w) (sm_mul bp.x bs.w)) (sm_sub (sm_mul bs.y bp.w) (sm_mul bp.y bs.w)) (sm_sub (sm_mul bs.z bp.w) (sm_mul bp.z bs.w)) (by omega)
  haveI : Bnd p.w k := ⟨bp.w⟩
  have pw := fun S => cube_b (S := S) (i := p.w) (n := k) (by omega)
  have c1 := (bnd_cube (i := p.w) (n := k)).h
  have m1 := fun S => oMul_int (S := S) c1 bq.w (by omega)
  have m2 := fun S => oMul_int (S := S) (sm_mul c1 bq.w) br.w (by omega)
  have m3 := fun S => oMul_int (S := S) (sm_mul (sm_mul c1 bq.w) br.w) bs.w (by omega)
  have nz : ∀ x : Pt, x.w ≠ 0 := fun x => by have := x.wp; omega
  have hz : p.w ^ 3 * q.w * r.w * s.w ≠ 0 := Int.mul_ne_zero (Int.mul_ne_zero (Int.mul_ne_zero (Int.pow_ne_zero (nz p)) (nz q)) (nz r)) (nz s)
  have md := fun S => made (A := A) (S := S) (a := ux p q r * (s.x * p.w - p.x * s.w) + uy p q r * (s.y * p.w - p.y * s.w) + uz p q r * (s.z * p.w - p.z * s.w)) hz (sm_mul (sm_mul (sm_mul c1 bq.w) br.w) bs.w) (by omega)
  rw [det_eq] at md
  unfold F_sixfold
  apply Exists.intro
  rw [fn_ev]
  simp [b_sixfold, st0, h1, h2, h3, h4, h5, h6, dt, pw, m1, m2, m3, md]
  simp only [e1, e2, e3, e4, e5, e6, List.append_assoc]
  rfl
/-! walls and sides -/
theorem tupW (n : Nat) (w : Wl) : F_tupled A (n + 2) [toW w] S = .ok (toW w) (S ++ [[.int w.a, .int w.b, .int w.c, .int w.d]]) := tup4 n _ _ _ _
theorem any3 (x y z : Int) (h : ¬ (x = 0 ∧ y = 0 ∧ z = 0)) (S : Store) : cAny [.lst S.length] (S ++ [[.bl (!decide (x = 0)), .bl (!decide (y = 0)), .bl (!decide (z = 0))]]) = some (.bl true, S ++ [[.bl (!decide (x = 0)), .bl (!decide (y = 0)), .bl (!decide (z = 0))]]) := by
  simp [cAny, mapO, asB]
  omega
theorem iswall (w : Wl) (h : w.g = 1) : ∃ g, F_is_wall A [toW w] S = .ok (.bl true) (S ++ g) := by
  have nz := w.nz
  have d4 := fun S => div4 (A := A) (S := S) w.a w.b w.c w.d
  have hg : g4 w.a w.b w.c w.d = 1 := h
  have an := any3 w.a w.b w.c nz (S ++ [[.bl true, .bl true, .bl true, .bl true]])
  unfold F_is_wall
  apply Exists.intro
  rw [fn_ev]
  simp at an
  simp [b_is_wall, st0, toW, isTy, itOf, num_int, cAll, mapO, asB, an, d4, hg]
  rfl
theorem surew (w : Wl) (h : w.g = 1) : Pu (F_sure_wall A) [toW w] (toW w) := fun S => by
  obtain ⟨g, hg⟩ := iswall (A := A) (S := S ++ [[.int w.a, .int w.b, .int w.c, .int w.d]]) w h
  have ht := tupW (A := A) (S := S) 2 w
  unfold F_sure_wall
  apply Exists.intro
  rw [fn_ev]
  simp [b_sure_wall, st0, ht, hg]
  rfl
theorem contrary_ (w : Wl) (h : w.g = 1) : Pu (F_contrary A) [toW w] (toW (negW w)) := fun S => by
  obtain ⟨n1, h1, g1, e1⟩ := (surew (A := A) w h).op
  have ho : ∀ S, F_other_side A [toW w] S = .ok (toW (negW w)) (S ++ [[.int (-w.a), .int (-w.b), .int (-w.c), .int (-w.d)]]) := fun S => by
    unfold F_other_side
    rw [fn_ev]
    simp [b_other_side, st0, toW, itOf, negW]
  unfold F_contrary
  apply Exists.intro
  rw [fn_ev]
  simp [b_contrary, st0, h1, ho]
  simp only [e1, List.append_assoc]
  rfl
def sg (i : Int) : Int := (if 0 < i then 1 else 0) - (if i < 0 then 1 else 0)
theorem side_ {w : Wl} {p : Pt} {k : Nat} (h : w.g = 1) (sa : Sm k w.a) (sb : Sm k w.b) (sc : Sm k w.c) (sd : Sm k w.d) (bp : BP k p) (hk : k < 10000) : Pu (F_side A) [toW w, .tup [.tup [], toP p]] (.int (sg (w.a * p.x + w.b * p.y + w.c * p.z - w.d * p.w))) := fun S => by
  obtain ⟨n1, h1, g1, e1⟩ := (surew (A := A) w h).op
  have m : ∀ i j : Int, Sm k i → Sm k j → ∀ S, oMul (.int i) (.int j) S = some (.int (i * j), S) := fun i j hi hj S => oMul_int hi hj (by omega)
  have m1 := m _ _ sa bp.x
  have m2 := m _ _ sb bp.y
  have m3 := m _ _ sc bp.z
  have m4 := m _ _ sd bp.w
  have o1 : Sm 1 1 := by unfold Sm; decide
  have m5 := fun S => oMul_int (S := S) (sm_add (sm_add (sm_mul sa bp.x) (sm_mul sb bp.y)) (sm_mul sc bp.z)) o1 (by omega)
  have m6 := fun S => oMul_int (S := S) o1 bp.w (by omega)
  have c3 : cutD [D.int w.a, D.int w.b, D.int w.c, D.int w.d] (some 3) none = [D.int w.d] := by simp [cutD, HT.sIx]
  have c1 : cutD [D.int w.d] (some 1) none = [] := by simp [cutD, HT.sIx]
  have sum : ∀ S, F_sum_at A [.tup [.int w.d], .tup []] S = .ok (.tup [.int w.d, .int 1]) S := fun S => by
    unfold F_sum_at
    rw [fn_ev]
    simp [b_sum_at, st0, oSl, c1]
  have bey : ∀ S, F_beyond A [toW w, .tup [.tup [], toP p]] S = .ok (.tup [.int (w.a * p.x + w.b * p.y + w.c * p.z - w.d * p.w), .int p.w]) S := fun S => by
    unfold F_beyond
    rw [fn_ev]
    simp at m5 m6
    simp [b_beyond, st0, toW, K87.toP, oSl, c3, sum, m1, m2, m3, m4, m5, m6]
  have sin : ∀ S, F_side_in A [toW w, .tup [.tup [], toP p]] S = .ok (.int (sg (w.a * p.x + w.b * p.y + w.c * p.z - w.d * p.w))) S := fun S => by
    unfold F_side_in
    rw [fn_ev]
    simp [b_side_in, st0, bey, oSubB, sg]
  have t0 : ∀ n S, F_tupled A (n + 1) [.tup []] S = .ok (.tup []) (S ++ [[]]) := fun n S => by
    unfold F_tupled
    rw [fn_ev]
    simp [b_tupled, st0, isTy, tyN, itOf]
  have t4 := fun S => tup4 (A := A) (S := S) 1 p.x p.y p.z p.w
  have tc : ∀ S, F_tupled A 4 [.tup [.tup [], toP p]] S = .ok (.tup [.tup [], toP p]) (S ++ [[.tup [], toP p], [], [.int p.x, .int p.y, .int p.z, .int p.w]]) := fun S => by
    unfold F_tupled
    rw [fn_ev]
    simp [b_tupled, st0, isTy, tyN, itOf, t0, K87.toP, t4]
  have sv : ∀ S, F_sure_values A [.tup [], .int 0] S = .ok (.tup []) (S ++ [[], []]) := fun S => by
    have av : ∀ S, F_are_values A [.tup []] S = .ok (.bl true) (S ++ [[]]) := fun S => by
      unfold F_are_values
      rw [fn_ev]
      simp [b_are_values, st0, isTy, itOf, cAll, mapO]
    unfold F_sure_values
    rw [fn_ev]
    simp [b_sure_values, st0, t0, av, oIs]
  have sca : ∀ S, ∃ g, F_sure_case A [.tup [.tup [], toP p], .int 0] S = .ok (.tup [.tup [], toP p]) (S ++ g) := fun S => by
    obtain ⟨g, hg⟩ := ispoint (A := A) (S := S ++ [[.tup [], toP p], [], [.int p.x, .int p.y, .int p.z, .int p.w]]) p
    unfold F_sure_case
    apply Exists.intro
    rw [fn_ev]
    simp [b_sure_case, st0, tc, long_, hg, sv]
    rfl
  obtain ⟨g2, h2⟩ := sca (n1 S)
  unfold F_side
  apply Exists.intro
  rw [fn_ev]
  have ln : ∀ S, cLen [toW w] S = some (.int 4, S) := fun S => rfl
  simp [b_side, st0, h1, ln, h2, sin]
  simp only [e1, List.append_assoc]
  rfl
end K87
namespace K87
open PySem PySem.Spec L2 RZ Sd Sd.R
variable {A : Str → Addr} {S : Store}
/-- tops and bottoms of so many bits -/
structure B2 (n d : Nat) (q : Rat) : Prop where
  n : Sm n q.num
  d : Sm d q.den
theorem sm_addm {a b c : Nat} {i j : Int} (hi : Sm a i) (hj : Sm b j) (h1 : a ≤ c) (h2 : b ≤ c) : Sm (c + 1) (i + j) := by
  have x := sm_mono hi h1
  have y := sm_mono hj h2
  unfold Sm at *
  rw [Nat.pow_succ]
  omega
theorem B2.bd {n d k : Nat} {q : Rat} (h : B2 n d q) (h1 : n ≤ k) (h2 : d ≤ k) : Bd k q := ⟨sm_mono h.n h1, sm_mono h.d h2⟩
theorem B2.divI {n d : Nat} {a b : Int} (ha : Sm n a) (hb : Sm d b) (h0 : b ≠ 0) : B2 n d (Rat.divInt a b) := by
  obtain ⟨h1, h2⟩ := div_num a b h0
  have g := gcd_pos (a := a) h0
  constructor
  · rw [h1]
    unfold Sm at *
    have := div_abs (if 0 < b then a else -a) _ g
    split at this <;> split <;> omega
  · rw [h2]
    unfold Sm at *
    have := div_abs (if 0 < b then b else -b) _ g
    split at this <;> split <;> omega
theorem B2.add {n d n' d' c : Nat} {p q : Rat} (hp : B2 n d p) (hq : B2 n' d' q) (h1 : n + d' ≤ c) (h2 : n' + d ≤ c) : B2 (c + 1) (d + d') (p + q) := by
  rw [add_div]
  exact B2.divI (sm_addm (sm_mul hp.n hq.d) (sm_mul hq.n hp.d) h1 h2) (sm_mul hp.d hq.d) (dd_ne p q)
theorem B2.neg {n d : Nat} {p : Rat} (hp : B2 n d p) : B2 n d (-p) := ⟨sm_neg hp.n, hp.d⟩
theorem B2.sub {n d n' d' c : Nat} {p q : Rat} (hp : B2 n d p) (hq : B2 n' d' q) (h1 : n + d' ≤ c) (h2 : n' + d ≤ c) : B2 (c + 1) (d + d') (p - q) := by
  rw [Rat.sub_eq_add_neg]
  exact B2.add hp hq.neg h1 h2
theorem B2.mul {n d n' d' : Nat} {p q : Rat} (hp : B2 n d p) (hq : B2 n' d' q) : B2 (n + n') (d + d') (p * q) := by
  rw [mul_div]
  exact B2.divI (sm_mul hp.n hq.n) (sm_mul hp.d hq.d) (dd_ne p q)
theorem low2 {a b : Int} {n d : Nat} (h0 : b ≠ 0) (ha : Sm n a) (hb : Sm d b) (h1 : n < 139) (h2 : d < 139) : F__law_low A [.int a, .int b] S = .ok (toD (Rat.divInt a b)) S := low_ h0 (sm_mono ha (by omega : n ≤ 138)) (sm_mono hb (by omega : d ≤ 138)) (by omega)
theorem plus2 {n d n' d' c : Nat} {p q : Rat} (hp : B2 n d p) (hq : B2 n' d' q) (h1 : n + d' ≤ c) (h2 : n' + d ≤ c) (h3 : c < 138) (h4 : d + d' < 139) : F__law_plus A [toD p, toD q] S = .ok (toD (p + q)) S := by
  unfold F__law_plus
  rw [fn_ev]
  have m1 := fun S => oMul_int (S := S) hp.n hq.d (by omega)
  have m2 := fun S => oMul_int (S := S) hq.n hp.d (by omega)
  have m3 := fun S => oMul_int (S := S) hp.d hq.d (by omega)
  have md := fun S => low2 (A := A) (S := S) (a := p.num * q.den + q.num * p.den) (dd_ne p q) (sm_addm (sm_mul hp.n hq.d) (sm_mul hq.n hp.d) h1 h2) (sm_mul hp.d hq.d) (by omega) h4
  rw [add_div]
  simp [toD] at md
  simp [b__law_plus, st0, toD, m1, m2, m3, md]
theorem times2 {n d n' d' : Nat} {p q : Rat} (hp : B2 n d p) (hq : B2 n' d' q) (h3 : n + n' < 139) (h4 : d + d' < 139) : F__law_times A [toD p, toD q] S = .ok (toD (p * q)) S := by
  unfold F__law_times
  rw [fn_ev]
  have m1 := fun S => oMul_int (S := S) hp.n hq.n (by omega)
  have m3 := fun S => oMul_int (S := S) hp.d hq.d (by omega)
  have md := fun S => low2 (A := A) (S := S) (a := p.num * q.num) (dd_ne p q) (sm_mul hp.n hq.n) (sm_mul hp.d hq.d) h3 h4
  rw [mul_div]
  simp [toD] at md
  simp [b__law_times, st0, toD, m1, m3, md]
theorem minus2 {n d n' d' c : Nat} {p q : Rat} (hp : B2 n d p) (hq : B2 n' d' q) (h1 : n + d' ≤ c) (h2 : n' + d ≤ c) (h3 : c < 138) (h4 : d + d' < 139) : F__law_minus A [toD p, toD q] S = .ok (toD (p - q)) S := by
  have h := plus2 (A := A) (S := S) hp hq.neg h1 h2 h3 h4
  rw [← Rat.sub_eq_add_neg] at h
  have e : toD (-q) = .tup [.int (-q.num), .int q.den] := rfl
  rw [e] at h
  unfold F__law_minus
  rw [fn_ev]
  simp [b__law_minus, st0]
  simp [toD] at *
  simp [h]
@[simp] theorem px1 {p : Pt} : oIx (toP p) (.int 1) S = some (.int p.y, S) := by simp [toP]
@[simp] theorem px2 {p : Pt} : oIx (toP p) (.int 2) S = some (.int p.z, S) := by simp [toP]
structure BX (n d : Nat) (p : Pt) : Prop where
  x : B2 n d p.X
  y : B2 n d p.Y
  z : B2 n d p.Z
theorem BP.bx {k : Nat} {p : Pt} (h : BP k p) : BX k k p := by
  have hw : p.w ≠ 0 := by have := p.wp; omega
  exact ⟨B2.divI h.x h.w hw, B2.divI h.y h.w hw, B2.divI h.z h.w hw⟩
theorem lway {p q : Pt} {k : Nat} (bp : BP k p) (bq : BP k q) (hk : k < 60) : Pu (F__law_way A) [toP p, toP q] (.tup [toD (q.X - p.X), toD (q.Y - p.Y), toD (q.Z - p.Z)]) := fun S => by
  have nz : ∀ x : Pt, x.w ≠ 0 := fun x => by have := x.wp; omega
  have l1 := fun S => low2 (A := A) (S := S) (nz p) bp.x bp.w (by omega) (by omega)
  have l2 := fun S => low2 (A := A) (S := S) (nz p) bp.y bp.w (by omega) (by omega)
  have l3 := fun S => low2 (A := A) (S := S) (nz p) bp.z bp.w (by omega) (by omega)
  have l4 := fun S => low2 (A := A) (S := S) (nz q) bq.x bq.w (by omega) (by omega)
  have l5 := fun S => low2 (A := A) (S := S) (nz q) bq.y bq.w (by omega) (by omega)
  have l6 := fun S => low2 (A := A) (S := S) (nz q) bq.z bq.w (by omega) (by omega)
  have m1 := fun S => minus2 (A := A) (S := S) bq.bx.x bp.bx.x (c := k + k) (by omega) (by omega) (by omega) (by omega)
  have m2 := fun S => minus2 (A := A) (S := S) bq.bx.y bp.bx.y (c := k + k) (by omega) (by omega) (by omega) (by omega)
  have m3 := fun S => minus2 (A := A) (S := S) bq.bx.z bp.bx.z (c := k + k) (by omega) (by omega) (by omega) (by omega)
  simp only [Pt.X, Pt.Y, Pt.Z] at m1 m2 m3
  unfold F__law_way
  apply Exists.intro
  rw [fn_ev]
  simp [b__law_way, st0, Sd.iRng1, List.range, List.range.loop, l1, l2, l3, l4, l5, l6, m1, m2, m3, Pt.X, Pt.Y, Pt.Z]
  rfl
theorem gcd_loop2 (b o : Nat) (h : o < fuel) (x0 : Option D) :
    sWhile (tvB (eBin oNe (eVar 2) (eC (.int 0)))) (sNt (.tp [(.nm 1), (.nm 2)]) (eTup (aCons (eVar 2) (aCons (eBin oMod (eVar 1) (eVar 2)) aNil)))) [x0, some (.int b), some (.int o)] S = .nx [x0, some (.int (Nat.gcd b o)), some (.int 0)] S := by
  refine while_run (fun n ρ S' => S' = S ∧ ∃ x y : Nat, n = y ∧ ρ = [x0, some (.int x), some (.int y)] ∧ Nat.gcd x y = Nat.gcd b o) (fun z => z = .nx [x0, some (.int (Nat.gcd b o)), some (.int 0)] S) o h ⟨rfl, b, o, rfl, rfl, rfl⟩ ?_
  rintro n ρ S' ⟨rfl, x, y, rfl, rfl, hg⟩
  by_cases hy : n = 0
  · subst hy
    rw [Nat.gcd_zero_right] at hg
    refine .inl ⟨S', by simp, ?_⟩
    rw [← hg]; rfl
  · have hp : (0 : Int) < n := by omega
    have md := fun i S => oMod_int (S := S) (i := i) hp
    refine .inr ⟨S', by simp [hy], .inl ⟨[x0, some (.int n), some (.int ((x % n : Nat) : Int))], S', x % n, .inl ?_, Nat.mod_lt _ (Nat.pos_of_ne_zero hy), rfl, n, x % n, rfl, rfl, ?_⟩⟩
    · simp [md]
    · rw [← hg, Nat.gcd_comm x n, Nat.gcd_rec n x, Nat.gcd_comm]
theorem lleast {x y z w : Int} {k : Nat} (h : 0 < w) (hx : Sm k x) (hy : Sm k y) (hz : Sm k z) (hw : Sm k w) (hk : k < 100) : Pu (F__law_least A) [.tup [.int x, .int y, .int z, .int w]] (toP (norm x y z w h)) := fun S => by
  have lf : ∀ i : Int, Sm k i → i.natAbs < fuel := fun i hi => by
    have h1 := sm_mono hi (by omega : k ≤ 100)
    unfold Sm at h1
    have : 2 ^ 100 < fuel := by unfold fuel; decide
    omega
  have lp := fun (b : Nat) (i : Int) (hi : Sm k i) (x0 : Option D) (S : Store) => gcd_loop2 (S := S) b i.natAbs (lf i hi) x0
  have e := fun i S => oDiv_int (S := S) (i := i) (j := g4 x y z w) (by have := g4_pos x y z h; omega) (sm_g4 h hw) (by omega)
  have l1 := fun x0 S => lp 0 x hx x0 S
  have l2 := fun b x0 S => lp b y hy x0 S
  have l3 := fun b x0 S => lp b z hz x0 S
  have l4 := fun b x0 S => lp b w hw x0 S
  unfold F__law_least
  apply Exists.intro
  rw [fn_ev]
  simp at l1
  simp [b__law_least, st0, itOf, abs_eq, l1, l2, l3, l4, -x_tvB, -x_eBin]
  simp only [g4] at e
  simp [e, K87.toP, norm, g4]
  rfl
end K87
namespace K87
open PySem PySem.Spec L2 RZ Sd Sd.R
variable {A : Str → Addr} {S : Store}
theorem B2.zero : B2 1 1 0 := ⟨by unfold Sm; decide, by unfold Sm; decide⟩
theorem lsix {p q r s : Pt} (bp : BP 3 p) (bq : BP 3 q) (br : BP 3 r) (bs : BP 3 s) : Pu (F__law_six A) [toP p, toP q, toP r, toP s] (toD (det p q r s)) := fun S => by
  obtain ⟨n1, h1, g1, e1⟩ := (lway (A := A) bp bq (by decide)).op
  obtain ⟨n2, h2, g2, e2⟩ := (lway (A := A) bp br (by decide)).op
  obtain ⟨n3, h3, g3, e3⟩ := (lway (A := A) bp bs (by decide)).op
  have px := bp.bx
  have qx := bq.bx
  have rx := br.bx
  have sx := bs.bx
  have w1 : B2 7 6 (q.X - p.X) := B2.sub qx.x px.x (c := 6) (by decide) (by decide)
  have w2 : B2 7 6 (q.Y - p.Y) := B2.sub qx.y px.y (c := 6) (by decide) (by decide)
  have w3 : B2 7 6 (q.Z - p.Z) := B2.sub qx.z px.z (c := 6) (by decide) (by decide)
  have v1 : B2 7 6 (r.X - p.X) := B2.sub rx.x px.x (c := 6) (by decide) (by decide)
  have v2 : B2 7 6 (r.Y - p.Y) := B2.sub rx.y px.y (c := 6) (by decide) (by decide)
  have v3 : B2 7 6 (r.Z - p.Z) := B2.sub rx.z px.z (c := 6) (by decide) (by decide)
  have u1 : B2 7 6 (s.X - p.X) := B2.sub sx.x px.x (c := 6) (by decide) (by decide)
  have u2 : B2 7 6 (s.Y - p.Y) := B2.sub sx.y px.y (c := 6) (by decide) (by decide)
  have u3 : B2 7 6 (s.Z - p.Z) := B2.sub sx.z px.z (c := 6) (by decide) (by decide)
  have ed : ((0 + (s.X - p.X) * ((q.Y - p.Y) * (r.Z - p.Z) - (q.Z - p.Z) * (r.Y - p.Y))) + (s.Y - p.Y) * ((q.Z - p.Z) * (r.X - p.X) - (q.X - p.X) * (r.Z - p.Z))) + (s.Z - p.Z) * ((q.X - p.X) * (r.Y - p.Y) - (q.Y - p.Y) * (r.X - p.X)) = det p q r s := by
    unfold det
    generalize q.X - p.X = a1
    generalize q.Y - p.Y = a2
    generalize q.Z - p.Z = a3
    generalize r.X - p.X = a4
    generalize r.Y - p.Y = a5
    generalize r.Z - p.Z = a6
    generalize s.X - p.X = a7
    generalize s.Y - p.Y = a8
    generalize s.Z - p.Z = a9
    grind
  generalize det p q r s = dd at *
  generalize q.X - p.X = a1 at *
  generalize q.Y - p.Y = a2 at *
  generalize q.Z - p.Z = a3 at *
  generalize r.X - p.X = a4 at *
  generalize r.Y - p.Y = a5 at *
  generalize r.Z - p.Z = a6 at *
  generalize s.X - p.X = a7 at *
  generalize s.Y - p.Y = a8 at *
  generalize s.Z - p.Z = a9 at *
  have tm : ∀ {x y : Rat}, B2 7 6 x → B2 7 6 y → ∀ S, F__law_times A [toD x, toD y] S = .ok (toD (x * y)) S := fun hx hy S => times2 hx hy (by decide) (by decide)
  have mi : ∀ {x y : Rat}, B2 14 12 x → B2 14 12 y → ∀ S, F__law_minus A [toD x, toD y] S = .ok (toD (x - y)) S := fun hx hy S => minus2 hx hy (c := 26) (by decide) (by decide) (by decide) (by decide)
  have tt : ∀ {x y : Rat}, B2 7 6 x → B2 27 24 y → ∀ S, F__law_times A [toD x, toD y] S = .ok (toD (x * y)) S := fun hx hy S => times2 hx hy (by decide) (by decide)
  have bm : ∀ {x y : Rat}, B2 7 6 x → B2 7 6 y → B2 14 12 (x * y) := fun hx hy => B2.mul hx hy
  have bs' : ∀ {x y : Rat}, B2 14 12 x → B2 14 12 y → B2 27 24 (x - y) := fun hx hy => B2.sub hx hy (c := 26) (by decide) (by decide)
  have bt : ∀ {x y : Rat}, B2 7 6 x → B2 27 24 y → B2 34 30 (x * y) := fun hx hy => B2.mul hx hy
  have c1 := bs' (bm w2 v3) (bm w3 v2)
  have c2 := bs' (bm w3 v1) (bm w1 v3)
  have c3 := bs' (bm w1 v2) (bm w2 v1)
  have s1 : B2 36 31 (0 + a7 * (a2 * a6 - a3 * a5)) := B2.add B2.zero (bt u1 c1) (c := 35) (by decide) (by decide)
  have s2 : B2 67 61 (0 + a7 * (a2 * a6 - a3 * a5) + a8 * (a3 * a4 - a1 * a6)) := B2.add s1 (bt u2 c2) (c := 66) (by decide) (by decide)
  have p1 := fun S => plus2 (A := A) (S := S) B2.zero (bt u1 c1) (c := 35) (by decide) (by decide) (by decide) (by decide)
  have p2 := fun S => plus2 (A := A) (S := S) s1 (bt u2 c2) (c := 66) (by decide) (by decide) (by decide) (by decide)
  have p3 := fun S => plus2 (A := A) (S := S) s2 (bt u3 c3) (c := 97) (by decide) (by decide) (by decide) (by decide)
  rw [ed] at p3
  have z0 : (D.tup [.int 0, .int 1]) = toD 0 := rfl
  have md := fun i S => oMod_int (S := S) (i := i) (j := 3) (by decide)
  unfold F__law_six
  apply Exists.intro
  rw [fn_ev]
  simp only [Rat.zero_add] at p1 p2 p3
  simp [b__law_six, st0, h1, h2, h3, Sd.iRng1, List.range, List.range.loop, md, z0, tm w2 v3, tm w3 v2, tm w3 v1, tm w1 v3, tm w1 v2, tm w2 v1, mi (bm w2 v3) (bm w3 v2), mi (bm w3 v1) (bm w1 v3), mi (bm w1 v2) (bm w2 v1), tt u1 c1, tt u2 c2, tt u3 c3, p1, p2, p3]
  simp only [e1, e2, e3, List.append_assoc]
  rfl
theorem push_at {T : Store} {r : Nat} {x : D} {acc : List D} {k : Store → Res Unit} (h : T[r]? = some acc) (hl : acc.length < 1000) : pushR T r x k = k (T.set r (acc ++ [x])) := by
  unfold pushR
  rw [h]
  dsimp only
  rw [if_pos (by unfold lim; omega)]
theorem Tin.set {c r q : Nat} {T : Store} {x : List D} (h : Tin c r T) (hq : q ≠ r) : Tin c r (T.set q x) := by
  obtain ⟨a, b, n, h1, h2⟩ := h
  exact ⟨a, b, n, by rw [List.getElem?_set_ne hq]; exact h1, h2⟩
theorem sm_div {k : Nat} {a g : Int} (hg : 0 < g) (h : Sm k a) : Sm k (a / g) := by
  have := div_abs a g hg
  unfold Sm at *
  omega
theorem spot_ {c r : Nat} (hT : Tin c r S) (hc : c < 100000) : ∃ p S', F__law_spot A [.lst r, .int 4] S = .ok (toP p) S' ∧ BP 3 p ∧ Tin (c + 4) r S' ∧ (∀ q, q ≠ r → q < S.length → S'[q]? = S[q]?) ∧ S.length ≤ S'.length := by
  have s9 : Sm 5 9 := by unfold Sm; decide
  have s3 : Sm 5 3 := by unfold Sm; decide
  obtain ⟨v1, S1, h1, a1, a2, T1, L1, K1⟩ := take_ (A := A) hT (by omega) (j := 9) (by decide) s9 (by decide)
  obtain ⟨v2, S2, h2, a3, a4, T2, L2', K2⟩ := take_ (A := A) T1 (by omega) (j := 9) (by decide) s9 (by decide)
  obtain ⟨v3, S3, h3, a5, a6, T3, L3, K3⟩ := take_ (A := A) T2 (by omega) (j := 9) (by decide) s9 (by decide)
  obtain ⟨v4, S4, h4, a7, a8, T4, L4, K4⟩ := take_ (A := A) T3 (by omega) (j := 3) (by decide) s3 (by decide)
  have hw : 0 < 1 + v4 := by omega
  have n1 : Sm 3 (v1 - 4) := by unfold Sm; omega
  have n2 : Sm 3 (v2 - 4) := by unfold Sm; omega
  have n3 : Sm 3 (v3 - 4) := by unfold Sm; omega
  have n4 : Sm 3 (1 + v4) := by unfold Sm; omega
  obtain ⟨g, hg⟩ := lleast (A := A) hw n1 n2 n3 n4 (by decide) S4
  have gp : (0 : Int) < g4 (v1 - 4) (v2 - 4) (v3 - 4) (1 + v4) := by have := g4_pos (v1 - 4) (v2 - 4) (v3 - 4) hw; omega
  refine ⟨norm (v1 - 4) (v2 - 4) (v3 - 4) (1 + v4) hw, S4 ++ g, ?_, ⟨sm_div gp n1, sm_div gp n2, sm_div gp n3, sm_div gp n4⟩, T4.app g, fun q hq hl => ?_, by rw [List.length_append]; omega⟩
  · have m : ∀ S, oMul (.int 2) (.int 4) S = some (.int 8, S) := fun S => oMul_int (S := S) (i := 2) (j := 4) (k := 2) (l := 3) (by unfold Sm; decide) (by unfold Sm; decide) (by decide)
    unfold F__law_spot
    rw [fn_ev]
    simp [b__law_spot, st0, m, h1, h2, h3, h4, hg]
  · rw [get_app (by omega), K4 q hq, K3 q hq, K2 q hq, K1 q hq]
theorem tb_dir : fvAt (tb A) (A "direction_between") = some (F_direction_between A) := by simp [tb, fvAt]
theorem tb_plane (hA : Good A) : fvAt (tb A) (A "plane_through") = some (F_plane_through A) := by
  have h1 : ¬ A "direction_between" = A "plane_through" := by intro h; simp [Good, h] at hA
  simp [tb, fvAt, h1]
theorem heard_ok {a : Addr} {F : Fv} {ds : List D} {v : D} {S' : Store} (hF : fvAt (tb A) a = some F) (hl : ds.length = 2 ∨ ds.length = 3) (h : F ds S = .ok v S') : F__law_heard A [.obj a, .tup ds] S = .ok v S' := by
  have c : F__law_call A [.obj a, .tup ds] S = .ok v S' := by
    unfold F__law_call
    rw [fn_ev]
    match ds, hl with
    | [x, y], _ => simp [b__law_call, st0, eCallL, hF, h]
    | [x, y, z], _ => simp [b__law_call, st0, eCallL, hF, h]
  unfold F__law_heard
  rw [fn_ev]
  simp [b__law_heard, st0, sTrys, c]
theorem heard_flat {a : Addr} {F : Fv} {ds : List D} {S' : Store} (hF : fvAt (tb A) a = some F) (hl : ds.length = 2 ∨ ds.length = 3) (h : F ds S = .exc (A "Flat") S') : F__law_heard A [.obj a, .tup ds] S = .ok (.lst S'.length) (S' ++ [[.str "flat", .bl true]]) := by
  have c : F__law_call A [.obj a, .tup ds] S = .exc (A "Flat") S' := by
    unfold F__law_call
    rw [fn_ev]
    match ds, hl with
    | [x, y], _ => simp [b__law_call, st0, eCallL, hF, h]
    | [x, y, z], _ => simp [b__law_call, st0, eCallL, hF, h]
  unfold F__law_heard
  rw [fn_ev]
  simp [b__law_heard, st0, sTrys, c, pickC]
end K87
namespace K87
open PySem PySem.Spec L2 RZ Sd Sd.R
variable {A : Str → Addr} {S : Store}
def t1 (A : Str → Addr) : Sv := (sSet 1 (eCall (F__law_box A) (aCons (eCall (F__law_cells A) (aCons (eVar 0) (aCons (eC (.int 1)) aNil))) (aCons (eC (.int 0)) aNil))))
def t2f1 (A : Str → Addr) : Sv := (sUnl [(.nm 3), (.nm 4), (.nm 5), (.nm 6)] (eLc [22] (iRng1 (aCons (eC (.int 4)) aNil)) (.nm 22) tvYes (eCall (F__law_spot A) (aCons (eVar 1) (aCons (eC (.int 4)) aNil)))))
def t2f2 (A : Str → Addr) : Sv := (sSet 7 (eCall (F__law_way A) (aCons (eVar 3) (aCons (eVar 4) aNil))))
def t2f3 (A : Str → Addr) : Sv := (sSet 8 (eLst (aCons (eCallK (F_place A) 0 1 [0] aNil (aCons (eVar 3) aNil)) (aCons (eCallK (F_moved_by A) 0 2 [0, 1] aNil (aCons (eVar 3) (aCons (eVar 7) aNil))) (aCons (eCallK (F_half_way A) 0 2 [0, 1] aNil (aCons (eVar 3) (aCons (eVar 4) aNil))) (aCons (eCall (F_half_way A) (aCons (eVar 4) (aCons (eVar 3) aNil))) (aCons (eCall (F_point A) (aCons (eBin oIx (eCall (F_place A) (aCons (eVar 5) aNil)) (eC (.int 0))) (aCons (eBin oIx (eCall (F_place A) (aCons (eVar 5) aNil)) (eC (.int 1))) (aCons (eBin oIx (eCall (F_place A) (aCons (eVar 5) aNil)) (eC (.int 2))) aNil)))) aNil)))))))
def t2f4 (A : Str → Addr) : Sv := (sSet 9 (eCall (F_moved_by A) (aCons (eVar 3) (aCons (eCallO cTuple (aCons (eLc [11] (iOf (eVar 7)) (.nm 11) tvYes (eCall (F__law_times A) (aCons (eVar 11) (aCons (eTup (aCons (eC (.int 1)) (aCons (eC (.int 2)) aNil))) aNil)))) aNil)) aNil))))
def t2f5 (A : Str → Addr) : Sv := (sIf (tvNot (tvT (eCall (F__law_same A 5) (aCons (eVar 8) (aCons (eLst (aCons (eCallO cTuple (aCons (eLc [11] (iOf (eSl (eVar 3) oNone (oSome (eC (.int 3))))) (.nm 11) tvYes (eCall (F__law_low A) (aCons (eVar 11) (aCons (eBin oIx (eVar 3) (eC (.int 3))) aNil)))) aNil)) (aCons (eVar 4) (aCons (eVar 9) (aCons (eVar 9) (aCons (eVar 5) aNil)))))) aNil))))) (sRet (eC (.bl false))) sNext)
def t2f6 (A : Str → Addr) : Sv := (sSet 10 (eTup (aCons (eC (.int 0)) (aCons (eC (.int 1)) aNil))))
def t2f7f1 (A : Str → Addr) : Sv := (sSet 10 (eCallK (F_added A) 0 2 [0, 1] aNil (aCons (eVar 10) (aCons (eCall (F_times A) (aCons (eVar 11) (aCons (eVar 11) aNil))) aNil))))
def t2f8 (A : Str → Addr) : Sv := (sIf (tvNot (tvT (eCall (F__law_same A 5) (aCons (eLst (aCons (eCallK (F_square_between A) 0 2 [0, 1] aNil (aCons (eVar 3) (aCons (eVar 4) aNil))) (aCons (eCall (F_square_between A) (aCons (eVar 4) (aCons (eVar 3) aNil))) (aCons (eCall (F_square_between A) (aCons (eVar 3) (aCons (eVar 9) aNil))) aNil)))) (aCons (eLst (aCons (eVar 10) (aCons (eVar 10) (aCons (eCall (F__law_times A) (aCons (eVar 10) (aCons (eTup (aCons (eC (.int 1)) (aCons (eC (.int 4)) aNil))) aNil))) aNil)))) aNil))))) (sRet (eC (.bl false))) sNext)
def t2f9 (A : Str → Addr) : Sv := (sSet 12 (eCall (F__law_heard A) (aCons (eC (.obj (A "direction_between"))) (aCons (eTup (aCons (eVar 3) (aCons (eVar 4) aNil))) aNil))))
def t2f10 (A : Str → Addr) : Sv := (sIf (tvB (eBin oEq (eVar 3) (eVar 4))) (sIf (tvB (eBin oNe (eVar 12) (eLst (aCons (eC (.str "flat")) (aCons (eC (.bl true)) aNil))))) (sRet (eC (.bl false))) sNext) (sSeq (sSet 13 (eCallK (F_time_of A) 0 2 [0, 1] aNil (aCons (eTup (aCons (eVar 3) (aCons (eVar 12) aNil))) (aCons (eVar 4) aNil)))) (sSeq (sIf (tvOr (tvB (eBin oNe (eCall (F_place_at A) (aCons (eTup (aCons (eVar 3) (aCons (eVar 12) aNil))) (aCons (eVar 13) aNil))) (eVar 4))) (tvOr (tvB (eBin oLe (eBin oIx (eVar 13) (eC (.int 0))) (eC (.int 0)))) (tvB (eBin oNe (eCallK (F_least_direction A) 0 1 [0] aNil (aCons (eCallO cTuple (aCons (eLc [11] (iOf (eVar 12)) (.nm 11) tvYes (eBin oMul (eC (.int 5)) (eVar 11))) aNil)) aNil)) (eVar 12))))) (sRet (eC (.bl false))) sNext) (sSeq (sIf (tvB (eBin oNe (eCall (F_direction_between A) (aCons (eVar 4) (aCons (eVar 3) aNil))) (eCallO cTuple (aCons (eLc [11] (iOf (eVar 12)) (.nm 11) tvYes (eBin oSub (eC (.int 0)) (eVar 11))) aNil)))) (sRet (eC (.bl false))) sNext) (sIf (tvOr (tvB (eBin oNe (eCallK (F_place_at A) 0 2 [0, 1] aNil (aCons (eTup (aCons (eVar 3) (aCons (eVar 12) aNil))) (aCons (eCall (F__law_times A) (aCons (eVar 13) (aCons (eTup (aCons (eC (.int 1)) (aCons (eC (.int 2)) aNil))) aNil))) aNil))) (eVar 9))) (tvB (eBin oNe (eCall (F_time_of A) (aCons (eTup (aCons (eVar 4) (aCons (eVar 12) aNil))) (aCons (eVar 3) aNil))) (eCall (F__law_minus A) (aCons (eTup (aCons (eC (.int 0)) (aCons (eC (.int 1)) aNil))) (aCons (eVar 13) aNil)))))) (sRet (eC (.bl false))) sNext)))))
def t2f11 (A : Str → Addr) : Sv := (sSet 14 (eCall (F__law_six A) (aCons (eVar 3) (aCons (eVar 4) (aCons (eVar 5) (aCons (eVar 6) aNil))))))
def t2f12 (A : Str → Addr) : Sv := (sSet 8 (eLst (aCons (eCallK (F_sixfold A) 0 4 [0, 1, 2, 3] aNil (aCons (eVar 3) (aCons (eVar 4) (aCons (eVar 5) (aCons (eVar 6) aNil))))) (aCons (eCall (F_sixfold A) (aCons (eVar 4) (aCons (eVar 3) (aCons (eVar 5) (aCons (eVar 6) aNil))))) (aCons (eCall (F_sixfold A) (aCons (eVar 4) (aCons (eVar 5) (aCons (eVar 3) (aCons (eVar 6) aNil))))) (aCons (eCall (F_sixfold A) (aCons (eVar 3) (aCons (eVar 4) (aCons (eVar 6) (aCons (eVar 5) aNil))))) (aCons (eCall (F_sixfold A) (aCons (eVar 3) (aCons (eVar 3) (aCons (eVar 5) (aCons (eVar 6) aNil))))) aNil)))))))
def t2f13 (A : Str → Addr) : Sv := (sIf (tvNot (tvT (eCall (F__law_same A 5) (aCons (eVar 8) (aCons (eLst (aCons (eVar 14) (aCons (eCall (F__law_minus A) (aCons (eTup (aCons (eC (.int 0)) (aCons (eC (.int 1)) aNil))) (aCons (eVar 14) aNil))) (aCons (eVar 14) (aCons (eCall (F__law_minus A) (aCons (eTup (aCons (eC (.int 0)) (aCons (eC (.int 1)) aNil))) (aCons (eVar 14) aNil))) (aCons (eTup (aCons (eC (.int 0)) (aCons (eC (.int 1)) aNil))) aNil)))))) aNil))))) (sRet (eC (.bl false))) sNext)
def t2f14 (A : Str → Addr) : Sv := (sNt (.tp [(.nm 15), (.nm 16)]) (eTup (aCons (eCall (F__law_way A) (aCons (eVar 3) (aCons (eVar 4) aNil))) (aCons (eCall (F__law_way A) (aCons (eVar 3) (aCons (eVar 5) aNil))) aNil))))
def t2f15 (A : Str → Addr) : Sv := (sSet 17 (eBin oEq (eLc [22] (iRng1 (aCons (eC (.int 3)) aNil)) (.nm 22) (tvB (eBin oNe (eBin oIx (eCall (F__law_minus A) (aCons (eCall (F__law_times A) (aCons (eBin oIx (eVar 15) (eBin oSub (eVar 22) (eC (.int 2)))) (aCons (eBin oIx (eVar 16) (eBin oSub (eVar 22) (eC (.int 1)))) aNil))) (aCons (eCall (F__law_times A) (aCons (eBin oIx (eVar 15) (eBin oSub (eVar 22) (eC (.int 1)))) (aCons (eBin oIx (eVar 16) (eBin oSub (eVar 22) (eC (.int 2)))) aNil))) aNil))) (eC (.int 0))) (eC (.int 0)))) (eC (.int 1))) (eLst aNil)))
def t2f16 (A : Str → Addr) : Sv := (sSet 18 (eCall (F__law_heard A) (aCons (eC (.obj (A "plane_through"))) (aCons (eTup (aCons (eVar 3) (aCons (eVar 4) (aCons (eVar 5) aNil)))) aNil))))
def t2f17 (A : Str → Addr) : Sv := (sIf (tvOr (tvB (eBin oNe (eCallK (F_on_one_line A) 0 3 [0, 1, 2] aNil (aCons (eVar 3) (aCons (eVar 4) (aCons (eVar 5) aNil)))) (eVar 17))) (tvB (eBin oNe (eBin oEq (eVar 18) (eLst (aCons (eC (.str "flat")) (aCons (eC (.bl true)) aNil)))) (eVar 17)))) (sRet (eC (.bl false))) sNext)
def t2f18 (A : Str → Addr) : Sv := (sIf (tvNot (tvT (eVar 17))) (sSeq (sSet 8 (eLst (aCons (eCall (F_plane_through A) (aCons (eVar 4) (aCons (eVar 5) (aCons (eVar 3) aNil)))) (aCons (eCallK (F_plane_through A) 0 3 [0, 1, 2] aNil (aCons (eVar 4) (aCons (eVar 3) (aCons (eVar 5) aNil)))) (aCons (eLc [11] (iOf (eTup (aCons (eVar 3) (aCons (eVar 4) (aCons (eVar 5) aNil))))) (.nm 11) tvYes (eCall (F_side A) (aCons (eVar 18) (aCons (eTup (aCons (eTup aNil) (aCons (eVar 11) aNil))) aNil)))) (aCons (eCall (F_side A) (aCons (eVar 18) (aCons (eTup (aCons (eTup aNil) (aCons (eVar 6) aNil))) aNil))) aNil)))))) (sIf (tvNot (tvT (eCall (F__law_same A 5) (aCons (eVar 8) (aCons (eLst (aCons (eVar 18) (aCons (eCall (F_contrary A) (aCons (eVar 18) aNil)) (aCons (eLst (aCons (eC (.int 0)) (aCons (eC (.int 0)) (aCons (eC (.int 0)) aNil)))) (aCons (eCall (F_compared A) (aCons (eVar 14) (aCons (eTup (aCons (eC (.int 0)) (aCons (eC (.int 1)) aNil))) aNil))) aNil))))) aNil))))) (sRet (eC (.bl false))) sNext)) sNext)
def t2f19 (A : Str → Addr) : Sv := (sPar 19 20 (aCons (eCallO cTuple (aCons (eLc [22] (iRng1 (aCons (eC (.int 3)) aNil)) (.nm 22) tvYes (eBin oSub (eCall (F__law_take A) (aCons (eVar 1) (aCons (eC (.int 9)) aNil))) (eC (.int 4)))) aNil)) (aCons (eCallO cTuple (aCons (eLc [22] (iRng1 (aCons (eC (.int 3)) aNil)) (.nm 22) tvYes (eBin oSub (eCall (F__law_take A) (aCons (eVar 1) (aCons (eC (.int 9)) aNil))) (eC (.int 4)))) aNil)) aNil)))
def t2f20 (A : Str → Addr) : Sv := (sSet 21 (eCallK (F_cross A) 0 2 [0, 1] aNil (aCons (eVar 19) (aCons (eVar 20) aNil))))
def t2f21 (A : Str → Addr) : Sv := (sIf (tvNot (tvT (eCall (F__law_same A 5) (aCons (eLst (aCons (eCallK (F_dot A) 0 2 [0, 1] aNil (aCons (eVar 19) (aCons (eVar 21) aNil))) (aCons (eCall (F_dot A) (aCons (eVar 21) (aCons (eVar 20) aNil))) (aCons (eCall (F_cross A) (aCons (eVar 20) (aCons (eVar 19) aNil))) (aCons (eCall (F_dot A) (aCons (eVar 21) (aCons (eVar 21) aNil))) aNil))))) (aCons (eLst (aCons (eC (.int 0)) (aCons (eC (.int 0)) (aCons (eCallO cTuple (aCons (eLc [11] (iOf (eVar 21)) (.nm 11) tvYes (eBin oSub (eC (.int 0)) (eVar 11))) aNil)) (aCons (eBin oSub (eBin oMul (eCall (F_dot A) (aCons (eVar 19) (aCons (eVar 19) aNil))) (eCall (F_dot A) (aCons (eVar 20) (aCons (eVar 20) aNil)))) (eBin oMul (eCall (F_dot A) (aCons (eVar 19) (aCons (eVar 20) aNil))) (eCall (F_dot A) (aCons (eVar 19) (aCons (eVar 20) aNil))))) aNil))))) aNil))))) (sRet (eC (.bl false))) sNext)
def t2f22 (A : Str → Addr) : Sv := (sIf (tvB (eBin oNe (eCall (F_less A) (aCons (eCall (F_added A) (aCons (eVar 14) (aCons (eVar 10) aNil))) (aCons (eVar 10) aNil))) (eVar 14))) (sRet (eC (.bl false))) sNext)
def t3 (A : Str → Addr) : Sv := (sRet (eC (.bl true)))
section
variable {P : SRes → Prop} {p q : Sv} {ρ ρ' : Sd.Loc} {S' S1 S2 : Store} {ex ey : Ev} {d e : D}
theorem seq_ex (h : p ρ S = .nx ρ' S') (h2 : P (q ρ' S')) : P (sSeq p q ρ S) := by
  rw [x_sSeq, h]; exact h2
theorem seq_for {it : Iv} {t : NT} {b : Sv} {a : Itr} {xs : List D} (I : Nat → Sd.Loc → Store → Prop) (hit : it ρ S = .ok a S1) (hl : xs.length < fuel) (h0 : I 0 ρ S1) (ha : ∀ i ρ S, I i ρ S → a S i = xs[i]?)
    (step : ∀ i d ρ S, xs[i]? = some d → I i ρ S → ∃ ρ1, t.b d ρ = some ρ1 ∧ (fun r : SRes => ∃ ρ2 S2, r = .nx ρ2 S2 ∧ I (i + 1) ρ2 S2) (b ρ1 S)) (h2 : ∀ ρ' S', I xs.length ρ' S' → P (q ρ' S')) : P (sSeq (sFor it t b) q ρ S) := by
  obtain ⟨ρ', S', h, hI⟩ := for_run (b := b) I hit hl h0 ha fun i d ρ S h1 h2 => by
    obtain ⟨ρ1, e1, ρ2, S2, e2, e3⟩ := step i d ρ S h1 h2
    exact ⟨ρ1, ρ2, S2, e1, .inl e2, e3⟩
  rw [x_sSeq, h]
  exact h2 ρ' S' hI
theorem st_same (hx : ex ρ S = .ok d S1) (hy : ey ρ S1 = .ok e S2) (hE : EqD S2 5 d e) (k : ∀ g, P (q ρ (S2 ++ g))) : P (sSeq (sIf (tvNot (tvT (eCall (F__law_same A 5) (aCons ex (aCons ey aNil))))) (sRet (eC (.bl false))) sNext) q ρ S) := by
  obtain ⟨g, hg⟩ := same_ (A := A) 5 hE
  refine seq_ex ?_ (k g)
  simp [hx, hy, hg]
theorem if_same (hx : ex ρ S = .ok d S1) (hy : ey ρ S1 = .ok e S2) (hE : EqD S2 5 d e) : ∃ g, sIf (tvNot (tvT (eCall (F__law_same A 5) (aCons ex (aCons ey aNil))))) (sRet (eC (.bl false))) sNext ρ S = .nx ρ (S2 ++ g) := by
  obtain ⟨g, hg⟩ := same_ (A := A) 5 hE
  exact ⟨g, by simp [hx, hy, hg]⟩
end
theorem sif_t {c : Tv} {p u : Sv} {ρ ρ' : Sd.Loc} {S1 S' : Store} (hc : c ρ S = .ok true S1) (h : p ρ S1 = .nx ρ' S') : sIf c p u ρ S = .nx ρ' S' := by rw [x_sIf, hc, st_ok, if_pos rfl, h]
theorem sif_f {c : Tv} {p u : Sv} {ρ ρ' : Sd.Loc} {S1 S' : Store} (hc : c ρ S = .ok false S1) (h : u ρ S1 = .nx ρ' S') : sIf c p u ρ S = .nx ρ' S' := by rw [x_sIf, hc, st_ok, if_neg Bool.false_ne_true, h]
theorem toD_half : (D.tup [.int 1, .int 2]) = toD (1 / 2) := by
  rw [show (1 / 2 : Rat) = Rat.divInt 1 2 from (Rat.divInt_eq_div 1 2).symm]
  unfold toD
  rw [(div_num 1 2 (by decide)).1, (div_num 1 2 (by decide)).2]
  rfl
theorem toD_zero : (D.tup [.int 0, .int 1]) = toD 0 := rfl
theorem toD_one : (D.tup [.int 1, .int 1]) = toD 1 := rfl
theorem EqD.tup1 {n : Nat} {xs : List D} (hb : xs.length ≤ 1000000) (h : ∀ x ∈ xs, EqD S n x x) : EqD S (n + 1) (.tup xs) (.tup xs) :=
  .tup _ _ _ rfl hb fun i x y h1 h2 => by
    rw [h1] at h2
    cases h2
    exact h x (List.mem_of_getElem? h1)
theorem EqD.lst1 {n r q : Nat} {xs : List D} (hr : S[r]? = some xs) (hq : S[q]? = some xs) (hb : xs.length ≤ 1000000) (h : ∀ x ∈ xs, EqD S n x x) : EqD S (n + 1) (.lst r) (.lst q) :=
  .lst _ _ _ _ _ hr hq rfl hb fun i x y h1 h2 => by
    rw [h1] at h2
    cases h2
    exact h x (List.mem_of_getElem? h1)
theorem EqD.rat (n : Nat) (q : Rat) : EqD S (n + 2) (toD q) (toD q) := .tup1 (by simp) fun x hx => by
  simp at hx
  rcases hx with rfl | rfl <;> exact .int _ _
theorem EqD.pt (n : Nat) (p : Pt) : EqD S (n + 2) (toP p) (toP p) := .tup1 (by simp) fun x hx => by
  simp at hx
  rcases hx with rfl | rfl | rfl | rfl <;> exact .int _ _
theorem EqD.wl (n : Nat) (p : Wl) : EqD S (n + 2) (toW p) (toW p) := .tup1 (by simp) fun x hx => by
  simp at hx
  rcases hx with rfl | rfl | rfl | rfl <;> exact .int _ _
theorem EqD.rat3 (n : Nat) (u v w : Rat) : EqD S (n + 3) (.tup [toD u, toD v, toD w]) (.tup [toD u, toD v, toD w]) := .tup1 (by simp) fun x hx => by
  simp at hx
  rcases hx with rfl | rfl | rfl <;> exact .rat _ _
section
variable {P : SRes → Prop} {q : Sv} {r c0 : Nat} {a b c d : Pt} {s0 s2 s3 s4 s5 s6 s7 s8 s9 s10 s11 s12 s13 s14 s15 s16 s17 s18 s19 s20 s21 s22 : Option D}
theorem b1 (hT : Tin c0 r S) (hc : c0 < 90000) (k : ∀ a b c d s22 S', BP 3 a → BP 3 b → BP 3 c → BP 3 d → Tin (c0 + 16) r S' → P (q [s0, some (.lst r), s2, some (toP a), some (toP b), some (toP c), some (toP d), s7, s8, s9, s10, s11, s12, s13, s14, s15, s16, s17, s18, s19, s20, s21, s22] S')) :
    P (sSeq (t2f1 A) q [s0, some (.lst r), s2, s3, s4, s5, s6, s7, s8, s9, s10, s11, s12, s13, s14, s15, s16, s17, s18, s19, s20, s21, s22] S) := by
  have hr := hT.lt
  have T0 : Tin c0 r (S ++ [[]]) := hT.app _
  obtain ⟨a, S1, h1, Ba, T1, K1, L1⟩ := spot_ (A := A) T0 (by omega)
  have g1 : S1[S.length]? = some [] := by rw [K1 _ (by omega) (by simp)]; simp
  obtain ⟨b, S2, h2, Bb, T2, K2, L2'⟩ := spot_ (A := A) (T1.set (q := S.length) (x := [toP a]) (by omega)) (by omega)
  have l1 : S.length < S1.length := (List.getElem?_eq_some_iff.mp g1).1
  have g2 : S2[S.length]? = some [toP a] := by rw [K2 _ (by omega) (by simpa using l1)]; simp [l1]
  obtain ⟨c, S3, h3, Bc, T3, K3, L3⟩ := spot_ (A := A) (T2.set (q := S.length) (x := [toP a, toP b]) (by omega)) (by omega)
  have l2 : S.length < S2.length := (List.getElem?_eq_some_iff.mp g2).1
  have g3 : S3[S.length]? = some [toP a, toP b] := by rw [K3 _ (by omega) (by simpa using l2)]; simp [l2]
  obtain ⟨d, S4, h4, Bd', T4, K4, L4⟩ := spot_ (A := A) (T3.set (q := S.length) (x := [toP a, toP b, toP c]) (by omega)) (by omega)
  have l3 : S.length < S3.length := (List.getElem?_eq_some_iff.mp g3).1
  have g4 : S4[S.length]? = some [toP a, toP b, toP c] := by rw [K4 _ (by omega) (by simpa using l3)]; simp [l3]
  have l4 : S.length < S4.length := (List.getElem?_eq_some_iff.mp g4).1
  have u1 := fun k => push_at (x := toP a) (k := k) g1 (by simp)
  have u2 := fun k => push_at (x := toP b) (k := k) g2 (by simp)
  have u3 := fun k => push_at (x := toP c) (k := k) g3 (by simp)
  have u4 := fun k => push_at (x := toP d) (k := k) g4 (by simp)
  simp at u1 u2 u3 u4
  refine seq_ex (ρ' := [s0, some (.lst r), s2, some (toP a), some (toP b), some (toP c), some (toP d), s7, s8, s9, s10, s11, s12, s13, s14, s15, s16, s17, s18, s19, s20, s21, s22]) (S' := S4.set S.length [toP a, toP b, toP c, toP d]) ?_ (k a b c d s22 _ Ba Bb Bc Bd' (T4.set (by omega)))
  simp [t2f1, Sd.iRng1, List.range, List.range.loop, h1, u1, h2, u2, h3, u3, h4, u4, l4]
end
end K87
namespace K87
open PySem PySem.Spec L2 RZ Sd Sd.R
variable {A : Str → Addr} {S : Store}
def Ex (S T : Store) : Prop := ∃ g, T = S ++ g
theorem Ex.refl : Ex S S := ⟨[], by simp⟩
theorem Ex.trans {S T U : Store} (h : Ex S T) (h2 : Ex T U) : Ex S U := by
  obtain ⟨g, rfl⟩ := h
  obtain ⟨g2, rfl⟩ := h2
  exact ⟨g ++ g2, by rw [List.append_assoc]⟩
theorem Ex.app {S T g : Store} (h : Ex S T) : Ex S (T ++ g) := h.trans ⟨g, rfl⟩
theorem Tin.ex {c r : Nat} {S T : Store} (h : Tin c r S) (e : Ex S T) : Tin c r T := by
  obtain ⟨g, rfl⟩ := e
  exact h.app g
theorem Pu.at {F : Fv} {ds : List D} {v : D} (h : Pu F ds v) (S : Store) : ∃ T, F ds S = .ok v T ∧ Ex S T := by
  obtain ⟨g, hg⟩ := h S
  exact ⟨_, hg, g, rfl⟩
theorem norm_bp {x y z w : Int} {k : Nat} (h : 0 < w) (hx : Sm k x) (hy : Sm k y) (hz : Sm k z) (hw : Sm k w) : BP k (norm x y z w h) := by
  have gp : (0 : Int) < g4 x y z w := by have := g4_pos x y z h; omega
  exact ⟨sm_div gp hx, sm_div gp hy, sm_div gp hz, sm_div gp hw⟩
def midP (p q : Pt) : Pt := norm (p.x * q.w + q.x * p.w) (p.y * q.w + q.y * p.w) (p.z * q.w + q.z * p.w) (2 * p.w * q.w) (Int.mul_pos (Int.mul_pos (by decide) p.wp) q.wp)
theorem mid_bp {p q : Pt} {k : Nat} (bp : BP k p) (bq : BP k q) : BP (4 * k + 3) (midP p q) := by
  have s2 : Sm 2 2 := by unfold Sm; decide
  exact norm_bp _ (sm_mono (sm_add (sm_mul bp.x bq.w) (sm_mul bq.x bp.w)) (by omega)) (sm_mono (sm_add (sm_mul bp.y bq.w) (sm_mul bq.y bp.w)) (by omega)) (sm_mono (sm_add (sm_mul bp.z bq.w) (sm_mul bq.z bp.w)) (by omega)) (sm_mono (sm_mul (sm_mul s2 bp.w) bq.w) (by omega))
theorem mid_X (p q : Pt) : (midP p q).X = (p.X + q.X) / 2 ∧ (midP p q).Y = (p.Y + q.Y) / 2 ∧ (midP p q).Z = (p.Z + q.Z) / 2 := by
  have q1 := wq p
  have q2 := wq q
  unfold midP
  refine ⟨?_, ?_, ?_⟩
  · rw [norm_X]; simp only [Pt.X, dX, Rat.intCast_add, Rat.intCast_mul]; grind
  · rw [norm_Y]; simp only [Pt.Y, dX, Rat.intCast_add, Rat.intCast_mul]; grind
  · rw [norm_Z]; simp only [Pt.Z, dX, Rat.intCast_add, Rat.intCast_mul]; grind
theorem BP.up {k l : Nat} {p : Pt} (h : BP k p) (hl : k ≤ l) : BP l p := ⟨sm_mono h.x hl, sm_mono h.y hl, sm_mono h.z hl, sm_mono h.w hl⟩
theorem b2half : B2 1 2 (1 / 2) := by
  rw [show (1 / 2 : Rat) = Rat.divInt 1 2 from (Rat.divInt_eq_div 1 2).symm]
  exact B2.divI (by unfold Sm; decide) (by unfold Sm; decide) (by decide)
theorem lowX {p : Pt} {k : Nat} (bp : BP k p) (hk : k < 100) (S : Store) : F__law_low A [.int p.x, .int p.w] S = .ok (toD p.X) S ∧ F__law_low A [.int p.y, .int p.w] S = .ok (toD p.Y) S ∧ F__law_low A [.int p.z, .int p.w] S = .ok (toD p.Z) S := by
  have nz : p.w ≠ 0 := by have := p.wp; omega
  exact ⟨low2 nz bp.x bp.w (by omega) (by omega), low2 nz bp.y bp.w (by omega) (by omega), low2 nz bp.z bp.w (by omega) (by omega)⟩
section
variable {P : SRes → Prop} {q : Sv} {r c0 : Nat} {a b c d : Pt} {s0 s2 s3 s4 s5 s6 s7 s8 s9 s10 s11 s12 s13 s14 s15 s16 s17 s18 s19 s20 s21 s22 : Option D}
theorem b2 (Ba : BP 3 a) (Bb : BP 3 b) (Bc : BP 3 c) (k : ∀ s8 g, P (q [s0, some (.lst r), s2, some (toP a), some (toP b), some (toP c), s6, some (.tup [toD (b.X - a.X), toD (b.Y - a.Y), toD (b.Z - a.Z)]), s8, some (toP (midP a b)), s10, s11, s12, s13, s14, s15, s16, s17, s18, s19, s20, s21, s22] (S ++ g))) :
    P (sSeq (t2f2 A) (sSeq (t2f3 A) (sSeq (t2f4 A) (sSeq (t2f5 A) q))) [s0, some (.lst r), s2, some (toP a), some (toP b), some (toP c), s6, s7, s8, s9, s10, s11, s12, s13, s14, s15, s16, s17, s18, s19, s20, s21, s22] S) := by
  have ax := Ba.bx
  have bx := Bb.bx
  have cx := Bc.bx
  have w1 : B2 7 6 (b.X - a.X) := B2.sub bx.x ax.x (c := 6) (by decide) (by decide)
  have w2 : B2 7 6 (b.Y - a.Y) := B2.sub bx.y ax.y (c := 6) (by decide) (by decide)
  have w3 : B2 7 6 (b.Z - a.Z) := B2.sub bx.z ax.z (c := 6) (by decide) (by decide)
  obtain ⟨mx, my, mz⟩ := mid_X a b
  obtain ⟨b', x1, x2, x3, pm⟩ := moved_ (A := A) (Ba.up (by decide : 3 ≤ 10)) (w1.bd (k := 10) (by decide) (by decide)) (w2.bd (by decide) (by decide)) (w3.bd (by decide) (by decide)) (by decide)
  have eb : b' = b := Pt.ext' (by rw [x1]; grind) (by rw [x2]; grind) (by rw [x3]; grind)
  rw [eb] at pm
  obtain ⟨m1, y1, y2, y3, ph⟩ := half_ (A := A) Ba Bb (by decide)
  have em : m1 = midP a b := Pt.ext' (by rw [y1, mx]) (by rw [y2, my]) (by rw [y3, mz])
  rw [em] at ph
  obtain ⟨m2, z1, z2, z3, ph2⟩ := half_ (A := A) Bb Ba (by decide)
  have em2 : m2 = midP a b := Pt.ext' (by rw [z1, mx]; grind) (by rw [z2, my]; grind) (by rw [z3, mz]; grind)
  rw [em2] at ph2
  obtain ⟨c', v1, v2, v3, pp⟩ := point_ (A := A) (cx.x.bd (k := 3) (by decide) (by decide)) (cx.y.bd (by decide) (by decide)) (cx.z.bd (by decide) (by decide)) (by decide)
  have ec : c' = c := Pt.ext' v1 v2 v3
  rw [ec] at pp
  have t1 := fun S => times2 (A := A) (S := S) w1 b2half (by decide) (by decide)
  have t2 := fun S => times2 (A := A) (S := S) w2 b2half (by decide) (by decide)
  have t3 := fun S => times2 (A := A) (S := S) w3 b2half (by decide) (by decide)
  obtain ⟨m3, u1, u2, u3, pm3⟩ := moved_ (A := A) (Ba.up (by decide : 3 ≤ 10)) ((B2.mul w1 b2half).bd (k := 10) (by decide) (by decide)) ((B2.mul w2 b2half).bd (by decide) (by decide)) ((B2.mul w3 b2half).bd (by decide) (by decide)) (by decide)
  have em3 : m3 = midP a b := Pt.ext' (by rw [u1, mx]; grind) (by rw [u2, my]; grind) (by rw [u3, mz]; grind)
  rw [em3] at pm3
  obtain ⟨S1, h1, E1⟩ := (lway (A := A) Ba Bb (by decide)).at S
  obtain ⟨S2, h2, E2⟩ := (place_ (A := A) Ba (by decide)).at S1
  obtain ⟨S3, h3, E3⟩ := pm.at S2
  obtain ⟨S4, h4, E4⟩ := ph.at S3
  obtain ⟨S5, h5, E5⟩ := ph2.at S4
  obtain ⟨S6, h6, E6⟩ := (place_ (A := A) Bc (by decide)).at S5
  obtain ⟨S7, h7, E7⟩ := (place_ (A := A) Bc (by decide)).at S6
  obtain ⟨S8, h8, E8⟩ := (place_ (A := A) Bc (by decide)).at S7
  obtain ⟨S9, h9, E9⟩ := pp.at S8
  have E : Ex S S9 := ((((((((E1.trans E2).trans E3).trans E4).trans E5).trans E6).trans E7).trans E8).trans E9)
  obtain ⟨T0, h10, E10⟩ := pm3.at (S9 ++ [[.tup [toD a.X, toD a.Y, toD a.Z], toP b, toP (midP a b), toP (midP a b), toP c], [toD ((b.X - a.X) * (1 / 2)), toD ((b.Y - a.Y) * (1 / 2)), toD ((b.Z - a.Z) * (1 / 2))]])
  have lx := fun S => (lowX (A := A) Ba (by decide) S).1
  have ly := fun S => (lowX (A := A) Ba (by decide) S).2.1
  have lz := fun S => (lowX (A := A) Ba (by decide) S).2.2
  refine seq_ex (by simp [t2f2, h1]; exact ⟨rfl, rfl⟩) ?_
  refine seq_ex (by simp [t2f3, h2, h3, h4, h5, h6, h7, h8, h9]; exact ⟨rfl, rfl⟩) ?_
  refine seq_ex (by simp [t2f4, itOf, toD_half, t1, t2, t3, h10]; exact ⟨rfl, rfl⟩) ?_
  have gT : T0[S9.length]? = some [.tup [toD a.X, toD a.Y, toD a.Z], toP b, toP (midP a b), toP (midP a b), toP c] := by
    obtain ⟨g, rfl⟩ := E10
    simp
  have gl : S9.length < T0.length := (List.getElem?_eq_some_iff.mp gT).1
  refine st_same (d := .lst S9.length) (by simp; exact rfl) (by simp [itOf, lx, ly, lz]; exact ⟨rfl, rfl⟩) (EqD.lst1 (n := 4) (xs := [.tup [toD a.X, toD a.Y, toD a.Z], toP b, toP (midP a b), toP (midP a b), toP c]) (by rw [get_app gl]; exact gT) (by simp) (by simp) ?_) fun g => ?_
  · intro x hx
    simp at hx
    rcases hx with rfl | rfl | rfl | rfl
    · exact .rat3 1 _ _ _
    · exact .pt _ _
    · exact .pt _ _
    · exact .pt _ _
  · have hEx : Ex S (T0 ++ [[toD a.X, toD a.Y, toD a.Z], [.tup [toD a.X, toD a.Y, toD a.Z], toP b, toP (midP a b), toP (midP a b), toP c]] ++ g) := ((E.app.trans E10).app).app
    obtain ⟨G, hG⟩ := hEx
    rw [hG]
    exact k _ _
end
end K87
namespace K87
open PySem PySem.Spec L2 RZ Sd Sd.R
variable {A : Str → Addr} {S : Store}
def sq (a b : Pt) : Rat := (b.X - a.X) * (b.X - a.X) + (b.Y - a.Y) * (b.Y - a.Y) + (b.Z - a.Z) * (b.Z - a.Z)
theorem sq_b2 {a b : Pt} (Ba : BP 3 a) (Bb : BP 3 b) : B2 42 36 (sq a b) := by
  have ax := Ba.bx
  have bx := Bb.bx
  have w1 : B2 7 6 (b.X - a.X) := B2.sub bx.x ax.x (c := 6) (by decide) (by decide)
  have w2 : B2 7 6 (b.Y - a.Y) := B2.sub bx.y ax.y (c := 6) (by decide) (by decide)
  have w3 : B2 7 6 (b.Z - a.Z) := B2.sub bx.z ax.z (c := 6) (by decide) (by decide)
  have h1 : B2 27 24 ((b.X - a.X) * (b.X - a.X) + (b.Y - a.Y) * (b.Y - a.Y)) := B2.add (B2.mul w1 w1) (B2.mul w2 w2) (c := 26) (by decide) (by decide)
  have h2 := B2.add h1 (B2.mul w3 w3) (c := 41) (by decide) (by decide)
  exact h2
theorem toD_quarter : (D.tup [.int 1, .int 4]) = toD (1 / 4) := by
  rw [show (1 / 4 : Rat) = Rat.divInt 1 4 from (Rat.divInt_eq_div 1 4).symm]
  unfold toD
  rw [(div_num 1 4 (by decide)).1, (div_num 1 4 (by decide)).2]
  rfl
theorem b2quart : B2 1 3 (1 / 4) := by
  rw [show (1 / 4 : Rat) = Rat.divInt 1 4 from (Rat.divInt_eq_div 1 4).symm]
  exact B2.divI (by unfold Sm; decide) (by unfold Sm; decide) (by decide)
section
variable {P : SRes → Prop} {q : Sv} {r c0 : Nat} {a b c d : Pt} {s0 s2 s3 s4 s5 s6 s7 s8 s9 s10 s11 s12 s13 s14 s15 s16 s17 s18 s19 s20 s21 s22 : Option D}
theorem b3 (Ba : BP 3 a) (Bb : BP 3 b) (k : ∀ s11 T, Ex S T → P (q [s0, some (.lst r), s2, some (toP a), some (toP b), s5, s6, some (.tup [toD (b.X - a.X), toD (b.Y - a.Y), toD (b.Z - a.Z)]), s8, some (toP (midP a b)), some (toD (sq a b)), s11, s12, s13, s14, s15, s16, s17, s18, s19, s20, s21, s22] T)) :
    P (sSeq (t2f6 A) (sSeq (sFor (iOf (eVar 7)) (.nm 11) (t2f7f1 A)) (sSeq (t2f8 A) q)) [s0, some (.lst r), s2, some (toP a), some (toP b), s5, s6, some (.tup [toD (b.X - a.X), toD (b.Y - a.Y), toD (b.Z - a.Z)]), s8, some (toP (midP a b)), s10, s11, s12, s13, s14, s15, s16, s17, s18, s19, s20, s21, s22] S) := by
  have ax := Ba.bx
  have bx := Bb.bx
  have w1 : B2 7 6 (b.X - a.X) := B2.sub bx.x ax.x (c := 6) (by decide) (by decide)
  have w2 : B2 7 6 (b.Y - a.Y) := B2.sub bx.y ax.y (c := 6) (by decide) (by decide)
  have w3 : B2 7 6 (b.Z - a.Z) := B2.sub bx.z ax.z (c := 6) (by decide) (by decide)
  have v1 := (B2.mul w1 w1).bd (k := 100) (by decide) (by decide)
  have v2 := (B2.mul w2 w2).bd (k := 100) (by decide) (by decide)
  have v3 := (B2.mul w3 w3).bd (k := 1000) (by decide) (by decide)
  have f1 := fun S => times_ (A := A) (S := S) (w1.bd (k := 100) (by decide) (by decide)) (w1.bd (by decide) (by decide)) (by decide)
  have f2 := fun S => times_ (A := A) (S := S) (w2.bd (k := 100) (by decide) (by decide)) (w2.bd (by decide) (by decide)) (by decide)
  have f3 := fun S => times_ (A := A) (S := S) (w3.bd (k := 100) (by decide) (by decide)) (w3.bd (by decide) (by decide)) (by decide)
  have a1 := fun S => added (A := A) (S := S) (B2.zero.bd (k := 100) (by decide) (by decide)) v1 (by decide)
  have a2 := fun S => added (A := A) (S := S) v1 v2 (by decide)
  have a3 := fun S => added (A := A) (S := S) ((Bd.add v1 v2).mono (by decide : 100 + 100 + 1 ≤ 1000)) v3 (by decide)
  simp only [Rat.zero_add] at a1
  obtain ⟨mx, my, mz⟩ := mid_X a b
  refine seq_ex (by simp [t2f6, toD_zero]; exact ⟨rfl, rfl⟩) ?_
  refine seq_ex (by simp [t2f7f1, itOf, f1, f2, f3, a1, a2, a3]; exact ⟨rfl, rfl⟩) ?_
  have p2 : Pu (F_square_between A) [toP b, toP a] (toD (sq a b)) := by
    have h := square_ (A := A) Bb Ba (by decide)
    have e : (a.X - b.X) * (a.X - b.X) + (a.Y - b.Y) * (a.Y - b.Y) + (a.Z - b.Z) * (a.Z - b.Z) = sq a b := by unfold sq; grind
    rw [e] at h
    exact h
  have p3 : Pu (F_square_between A) [toP a, toP (midP a b)] (toD (sq a b * (1 / 4))) := by
    have h := square_ (A := A) (Ba.up (by decide : 3 ≤ 15)) (mid_bp Ba Bb) (by decide)
    have e : ((midP a b).X - a.X) * ((midP a b).X - a.X) + ((midP a b).Y - a.Y) * ((midP a b).Y - a.Y) + ((midP a b).Z - a.Z) * ((midP a b).Z - a.Z) = sq a b * (1 / 4) := by rw [mx, my, mz]; unfold sq; grind
    rw [e] at h
    exact h
  have p1 : Pu (F_square_between A) [toP a, toP b] (toD (sq a b)) := square_ (A := A) Ba Bb (by decide)
  obtain ⟨S1, h1, E1⟩ := p1.at (S ++ [gq (b.X - a.X), gq (b.X - a.X), gq 0, gq ((b.X - a.X) * (b.X - a.X)), gq (b.Y - a.Y), gq (b.Y - a.Y), gq ((b.X - a.X) * (b.X - a.X)), gq ((b.Y - a.Y) * (b.Y - a.Y)), gq (b.Z - a.Z), gq (b.Z - a.Z), gq ((b.X - a.X) * (b.X - a.X) + (b.Y - a.Y) * (b.Y - a.Y)), gq ((b.Z - a.Z) * (b.Z - a.Z))])
  obtain ⟨S2, h2, E2⟩ := p2.at S1
  obtain ⟨S3, h3, E3⟩ := p3.at S2
  have tq := fun S => times2 (A := A) (S := S) (sq_b2 Ba Bb) b2quart (by decide) (by decide)
  have es : (b.X - a.X) * (b.X - a.X) + (b.Y - a.Y) * (b.Y - a.Y) + (b.Z - a.Z) * (b.Z - a.Z) = sq a b := rfl
  simp only [es]
  refine st_same (by simp [h1, h2, h3]; exact ⟨rfl, rfl⟩) (by simp [toD_quarter, tq]; exact ⟨rfl, rfl⟩) (EqD.lst1 (n := 4) (xs := [toD (sq a b), toD (sq a b), toD (sq a b * (1 / 4))]) (by simp) (by simp) (by simp) ?_) fun g => ?_
  · intro x hx
    simp at hx
    rcases hx with rfl | rfl <;> exact .rat _ _
  · exact k _ _ ((((Ex.refl.app.trans E1).trans E2).trans E3).app.app)
end
end K87
namespace K87
open PySem PySem.Spec L2 RZ Sd Sd.R
variable {A : Str → Addr} {S : Store}
theorem strOk_flat : PyData.strOk "flat" = true := by decide +kernel
theorem toP_flat {r : Nat} (h : S[r]? = some [.str "flat", .bl true]) : Sd.toP 64 S (.lst r) = some (.list [.str "flat", .bool true]) := by
  unfold Sd.toP
  rw [h]
  simp [mapO, Sd.toP, strOk_flat]
theorem eq_flat {r q : Nat} (h : S[r]? = some [.str "flat", .bl true]) (h2 : S[q]? = some [.str "flat", .bl true]) : oEq (.lst r) (.lst q) S = some (.bl true, S) := by
  unfold oEq
  rw [toP_flat h, toP_flat h2]
  simp [PyData.eqv, PyData.eqvAll]
theorem ne_flat {r q : Nat} (h : S[r]? = some [.str "flat", .bl true]) (h2 : S[q]? = some [.str "flat", .bl true]) : oNe (.lst r) (.lst q) S = some (.bl false, S) := by
  unfold oNe
  rw [toP_flat h, toP_flat h2]
  simp [PyData.eqv, PyData.eqvAll]
@[simp] theorem neV (d e : Dr) : oNe (toV d) (toV e) S = some (.bl (!(decide (d.x = e.x) && (decide (d.y = e.y) && decide (d.z = e.z)))), S) := ne3 _ _ _ _ _ _
theorem ne_rat (p q : Rat) (h : p = q) : oNe (toD p) (toD q) S = some (.bl false, S) := by
  subst h
  unfold toD
  simp
@[simp] theorem ix0 {q : Rat} : oIx (toD q) (.int 0) S = some (.int q.num, S) := by simp [toD]
@[simp] theorem ix1 {q : Rat} : oIx (toD q) (.int 1) S = some (.int q.den, S) := by simp [toD]
def negV (d : Dr) : Dr := ⟨-d.x, -d.y, -d.z, fun ⟨h1, h2, h3⟩ => d.nz ⟨by omega, by omega, by omega⟩⟩
theorem low3_neg (d : Dr) : low3 (negV d) = negV (low3 d) := by
  obtain ⟨d1, d2, d3⟩ := g3_dvd d.x d.y d.z
  have e : g3 (-d.x) (-d.y) (-d.z) = g3 d.x d.y d.z := by unfold g3; simp
  apply dr_ext
  · show -d.x / (g3 (-d.x) (-d.y) (-d.z) : Int) = -(d.x / (g3 d.x d.y d.z : Int)); rw [e]; exact Int.neg_ediv_of_dvd d1
  · show -d.y / (g3 (-d.x) (-d.y) (-d.z) : Int) = -(d.y / (g3 d.x d.y d.z : Int)); rw [e]; exact Int.neg_ediv_of_dvd d2
  · show -d.z / (g3 (-d.x) (-d.y) (-d.z) : Int) = -(d.z / (g3 d.x d.y d.z : Int)); rw [e]; exact Int.neg_ediv_of_dvd d3
section
variable {P : SRes → Prop} {q : Sv} {r c0 : Nat} {a b c d : Pt} {s0 s2 s3 s4 s5 s6 s7 s8 s9 s10 s11 s12 s13 s14 s15 s16 s17 s18 s19 s20 s21 s22 : Option D}
theorem b4 (Ba : BP 3 a) (Bb : BP 3 b) (k : ∀ s12 s13 T, Ex S T → P (q [s0, some (.lst r), s2, some (toP a), some (toP b), s5, s6, s7, s8, some (toP (midP a b)), s10, s11, s12, s13, s14, s15, s16, s17, s18, s19, s20, s21, s22] T)) :
    P (sSeq (t2f9 A) (sSeq (t2f10 A) q) [s0, some (.lst r), s2, some (toP a), some (toP b), s5, s6, s7, s8, some (toP (midP a b)), s10, s11, s12, s13, s14, s15, s16, s17, s18, s19, s20, s21, s22] S) := by
  by_cases hab : a = b
  · subst hab
    obtain ⟨g, hg⟩ := dirb0 (A := A) a S
    have hh := heard_flat (A := A) tb_dir (.inl rfl) hg
    refine seq_ex (by simp [t2f9, hh]; exact ⟨rfl, rfl⟩) ?_
    have nf := fun (T : Store) (r q : Nat) => ne_flat (S := T) (r := r) (q := q)
    have nf1 := nf (S ++ (g ++ [[.str "flat", .bl true], [.str "flat", .bl true]])) (S.length + g.length) (S.length + (g.length + 1)) (by simp) (by simp)
    refine seq_ex (ρ' := [s0, some (.lst r), s2, some (toP a), some (toP a), s5, s6, s7, s8, some (toP (midP a a)), s10, s11, some (.lst (S ++ g).length), s13, s14, s15, s16, s17, s18, s19, s20, s21, s22]) (S' := S ++ (g ++ [[.str "flat", .bl true], [.str "flat", .bl true]])) ?_ (k _ _ _ Ex.refl.app)
    simp [t2f10, nf1]
  · obtain ⟨gg, gp, gx, gy, gz⟩ := low3_eq (wayD a b hab)
    have pd := dirb (A := A) hab Ba Bb (by decide)
    have hba : b ≠ a := fun h => hab h.symm
    have pd2 := dirb (A := A) hba Bb Ba (by decide)
    have en : wayD b a hba = negV (wayD a b hab) := dr_ext (by show a.x * b.w - b.x * a.w = -(b.x * a.w - a.x * b.w); omega) (by show a.y * b.w - b.y * a.w = -(b.y * a.w - a.y * b.w); omega) (by show a.z * b.w - b.z * a.w = -(b.z * a.w - a.z * b.w); omega)
    rw [en, low3_neg] at pd2
    have BD : BV 13 (low3 (wayD a b hab)) := by
      have gp3 : (0 : Int) < g3 (wayD a b hab).x (wayD a b hab).y (wayD a b hab).z := by have := g3_pos (wayD a b hab).nz; omega
      exact ⟨sm_div gp3 (sm_sub (sm_mul Bb.x Ba.w) (sm_mul Ba.x Bb.w)), sm_div gp3 (sm_sub (sm_mul Bb.y Ba.w) (sm_mul Ba.y Bb.w)), sm_div gp3 (sm_sub (sm_mul Bb.z Ba.w) (sm_mul Ba.z Bb.w))⟩
    have sgg : Sm 13 gg := by
      have h1 : ∀ x y : Int, x ≠ 0 → y = x * gg → Sm 13 y → Sm 13 gg := fun x y hx hy hs => by
        unfold Sm at *
        rw [hy, Int.natAbs_mul] at hs
        have : gg.natAbs * 1 ≤ x.natAbs * gg.natAbs := by
          rw [Nat.mul_comm x.natAbs]
          exact Nat.mul_le_mul_left _ (by omega)
        omega
      by_cases x0 : (low3 (wayD a b hab)).x = 0
      · by_cases y0 : (low3 (wayD a b hab)).y = 0
        · exact h1 _ _ (fun z0 => (low3 (wayD a b hab)).nz ⟨x0, y0, z0⟩) gz (sm_sub (sm_mul Bb.z Ba.w) (sm_mul Ba.z Bb.w))
        · exact h1 _ _ y0 gy (sm_sub (sm_mul Bb.y Ba.w) (sm_mul Ba.y Bb.w))
      · exact h1 _ _ x0 gx (sm_sub (sm_mul Bb.x Ba.w) (sm_mul Ba.x Bb.w))
    have ab := Int.mul_pos a.wp b.wp
    have BT : B2 13 6 (Rat.divInt gg (a.w * b.w)) := B2.divI sgg (sm_mul Ba.w Bb.w) (by omega)
    generalize hV : low3 (wayD a b hab) = V at *
    have VV : low3 V = V := by
      obtain ⟨g2, g2p, k1, k2, k3⟩ := low3_eq (wayD a b hab)
      have := low3_mul V (wayD a b hab) gp gx gy gz
      rw [← this, hV]
    have q1 := wq a
    have q2 := wq b
    have tX : (V.x : Rat) * Rat.divInt gg (a.w * b.w) = b.X - a.X := by
      have e := wX a b
      have e2 : (b.x * a.w - a.x * b.w : Int) = V.x * gg := gx
      rw [e2, Rat.intCast_mul] at e
      rw [dX, Rat.intCast_mul]
      grind
    have tY : (V.y : Rat) * Rat.divInt gg (a.w * b.w) = b.Y - a.Y := by
      have e := wY a b
      have e2 : (b.y * a.w - a.y * b.w : Int) = V.y * gg := gy
      rw [e2, Rat.intCast_mul] at e
      rw [dX, Rat.intCast_mul]
      grind
    have tZ : (V.z : Rat) * Rat.divInt gg (a.w * b.w) = b.Z - a.Z := by
      have e := wZ a b
      have e2 : (b.z * a.w - a.z * b.w : Int) = V.z * gg := gz
      rw [e2, Rat.intCast_mul] at e
      rw [dX, Rat.intCast_mul]
      grind
    have pt := time_ (A := A) (Ba.up (by decide : 3 ≤ 13)) (Bb.up (by decide)) BD (by decide) gx gy gz
    have tn : Rat.divInt (-gg) (b.w * a.w) = -Rat.divInt gg (a.w * b.w) := by
      simp only [dX, Rat.intCast_mul, Rat.intCast_neg]
      grind
    have gx' : a.x * b.w - b.x * a.w = V.x * (-gg) := by have e : b.x * a.w - a.x * b.w = V.x * gg := gx; rw [Int.mul_neg]; omega
    have gy' : a.y * b.w - b.y * a.w = V.y * (-gg) := by have e : b.y * a.w - a.y * b.w = V.y * gg := gy; rw [Int.mul_neg]; omega
    have gz' : a.z * b.w - b.z * a.w = V.z * (-gg) := by have e : b.z * a.w - a.z * b.w = V.z * gg := gz; rw [Int.mul_neg]; omega
    have pt2 := time_ (A := A) (Bb.up (by decide : 3 ≤ 13)) (Ba.up (by decide)) BD (by decide) gx' gy' gz'
    rw [tn] at pt2
    have tp : ¬ (Rat.divInt gg (a.w * b.w)).num ≤ 0 := by
      obtain ⟨n1, _⟩ := div_num gg (a.w * b.w) (by omega)
      rw [if_pos ab] at n1
      have g0 := gcd_pos (a := gg) (b := a.w * b.w) (by omega)
      have := Int.ediv_pos_of_pos_of_dvd gp (by omega) (Int.gcd_dvd_left .. : (Int.gcd gg (a.w * b.w) : Int) ∣ gg)
      omega
    generalize ht : Rat.divInt gg (a.w * b.w) = t at *
    obtain ⟨r1, x1, x2, x3, pp⟩ := placeat (A := A) (Ba.up (by decide : 3 ≤ 20)) (⟨sm_mono BD.x (by decide), sm_mono BD.y (by decide), sm_mono BD.z (by decide)⟩ : BV 20 V) (BT.bd (k := 20) (by decide) (by decide)) (by decide)
    have er : r1 = b := Pt.ext' (by rw [x1, tX]; grind) (by rw [x2, tY]; grind) (by rw [x3, tZ]; grind)
    rw [er] at pp
    obtain ⟨mx, my, mz⟩ := mid_X a b
    obtain ⟨r2, y1, y2, y3, pp2⟩ := placeat (A := A) (Ba.up (by decide : 3 ≤ 20)) (⟨sm_mono BD.x (by decide), sm_mono BD.y (by decide), sm_mono BD.z (by decide)⟩ : BV 20 V) ((B2.mul BT b2half).bd (k := 20) (by decide) (by decide)) (by decide)
    have er2 : r2 = midP a b := Pt.ext' (by rw [y1, mx, ← Rat.mul_assoc, tX]; grind) (by rw [y2, my, ← Rat.mul_assoc, tY]; grind) (by rw [y3, mz, ← Rat.mul_assoc, tZ]; grind)
    rw [er2] at pp2
    have five : ∀ i : Int, Sm 13 i → ∀ S, oMul (.int 5) (.int i) S = some (.int (5 * i), S) := fun i hi S => oMul_int (show Sm 3 5 by unfold Sm; decide) hi (by decide)
    have nz5 : ¬ (5 * V.x = 0 ∧ 5 * V.y = 0 ∧ 5 * V.z = 0) := fun ⟨h1, h2, h3⟩ => V.nz ⟨by omega, by omega, by omega⟩
    have sv5 : ∀ i : Int, Sm 13 i → Sm 20 (5 * i) := fun i hi => by unfold Sm at *; omega
    have pl := least_ (A := A) ⟨5 * V.x, 5 * V.y, 5 * V.z, nz5⟩ (sv5 _ BD.x) (sv5 _ BD.y) (sv5 _ BD.z) (by decide)
    have e5 : low3 ⟨5 * V.x, 5 * V.y, 5 * V.z, nz5⟩ = V := (low3_mul V ⟨5 * V.x, 5 * V.y, 5 * V.z, nz5⟩ (k := 5) (by decide) (Int.mul_comm _ _) (Int.mul_comm _ _) (Int.mul_comm _ _)).trans VV
    rw [e5] at pl
    have th := fun S => times2 (A := A) (S := S) BT b2half (by decide) (by decide)
    have mn := fun S => minus2 (A := A) (S := S) B2.zero BT (c := 14) (by decide) (by decide) (by decide) (by decide)
    have z0 : (0 : Rat) - t = -t := by grind
    simp only [z0] at mn
    obtain ⟨S1, h1, E1⟩ := pd.at S
    have hh := heard_ok (A := A) tb_dir (.inl rfl) h1
    obtain ⟨S2, h2, E2⟩ := pt.at S1
    obtain ⟨S3, h3, E3⟩ := pp.at S2
    obtain ⟨S4, h4, E4⟩ := pl.at (S3 ++ [[.int (5 * V.x), .int (5 * V.y), .int (5 * V.z)]])
    obtain ⟨S5, h5, E5⟩ := pd2.at S4
    obtain ⟨S6, h6, E6⟩ := pp2.at (S5 ++ [[.int (-V.x), .int (-V.y), .int (-V.z)]])
    obtain ⟨S7, h7, E7⟩ := pt2.at S6
    have h4' : F_least_direction A [.tup [.int (5 * V.x), .int (5 * V.y), .int (5 * V.z)]] (S3 ++ [[.int (5 * V.x), .int (5 * V.y), .int (5 * V.z)]]) = .ok (toV V) S4 := h4
    have nn : oNe (toV (negV V)) (.tup [.int (-V.x), .int (-V.y), .int (-V.z)]) (S5 ++ [[.int (-V.x), .int (-V.y), .int (-V.z)]]) = some (.bl false, S5 ++ [[.int (-V.x), .int (-V.y), .int (-V.z)]]) := by
      show oNe (toV (negV V)) (toV (negV V)) _ = _
      simp
    have nr := ne_rat (S := S7) (-t) (-t) rfl
    have iV : ∀ S, items (toV V) S = some [.int V.x, .int V.y, .int V.z] := fun S => rfl
    have oV : itOf (toV V) = some (itSeq [.int V.x, .int V.y, .int V.z]) := rfl
    refine seq_ex (by simp [t2f9, hh]; exact ⟨rfl, rfl⟩) ?_
    refine seq_ex (ρ' := [s0, some (.lst r), s2, some (toP a), some (toP b), s5, s6, s7, s8, some (toP (midP a b)), s10, s11, some (toV V), some (toD t), s14, s15, s16, s17, s18, s19, s20, s21, s22]) (S' := S7) ?_ (k _ _ _ ((((((E1.trans E2).trans E3).trans (Ex.refl.app.trans E4)).trans E5).trans (Ex.refl.app.trans E6)).trans E7))
    simp [t2f10, hab, h2, h3, tp, oV, five _ BD.x, five _ BD.y, five _ BD.z, h4', h5, nn, toD_half, th, h6, h7, toD_zero, mn, nr]
end
end K87
namespace K87
open PySem PySem.Spec L2 RZ Sd Sd.R
variable {A : Str → Addr} {S : Store}
@[simp] theorem perm_3 {x y z : D} : perm [0, 1, 2] [x, y, z] = [x, y, z] := rfl
@[simp] theorem perm_4 {x y z w : D} : perm [0, 1, 2, 3] [x, y, z, w] = [x, y, z, w] := rfl
theorem way_b2 {p q : Pt} (bp : BP 3 p) (bq : BP 3 q) : B2 7 6 (q.X - p.X) ∧ B2 7 6 (q.Y - p.Y) ∧ B2 7 6 (q.Z - p.Z) :=
  ⟨B2.sub bq.bx.x bp.bx.x (c := 6) (by decide) (by decide), B2.sub bq.bx.y bp.bx.y (c := 6) (by decide) (by decide), B2.sub bq.bx.z bp.bx.z (c := 6) (by decide) (by decide)⟩
theorem det_b2 {p q r s : Pt} (bp : BP 3 p) (bq : BP 3 q) (br : BP 3 r) (bs : BP 3 s) : B2 98 91 (det p q r s) := by
  obtain ⟨w1, w2, w3⟩ := way_b2 bp bq
  obtain ⟨v1, v2, v3⟩ := way_b2 bp br
  obtain ⟨u1, u2, u3⟩ := way_b2 bp bs
  have bt : ∀ {x1 x2 x3 x4 y : Rat}, B2 7 6 x1 → B2 7 6 x2 → B2 7 6 x3 → B2 7 6 x4 → B2 7 6 y → B2 34 30 ((x1 * x2 - x3 * x4) * y) := fun h1 h2 h3 h4 hy => B2.mul (B2.sub (B2.mul h1 h2) (B2.mul h3 h4) (c := 26) (by decide) (by decide)) hy
  have t1 := bt w2 v3 w3 v2 u1
  have t2 := bt w3 v1 w1 v3 u2
  have t3 := bt w1 v2 w2 v1 u3
  have a1 := B2.add t1 t2 (c := 64) (by decide) (by decide)
  have a2 := B2.add a1 t3 (c := 95) (by decide) (by decide)
  exact ⟨sm_mono a2.n (by decide), sm_mono a2.d (by decide)⟩
theorem det_ba (a b c d : Pt) : det b a c d = -det a b c d := by unfold det; grind
theorem det_bc (a b c d : Pt) : det b c a d = det a b c d := by unfold det; grind
theorem det_dc (a b c d : Pt) : det a b d c = -det a b c d := by unfold det; grind
theorem det_aa (a c d : Pt) : det a a c d = 0 := by unfold det; grind
section
variable {P : SRes → Prop} {q : Sv} {r c0 : Nat} {a b c d : Pt} {s0 s2 s3 s4 s5 s6 s7 s8 s9 s10 s11 s12 s13 s14 s15 s16 s17 s18 s19 s20 s21 s22 : Option D}
theorem b5 (Ba : BP 3 a) (Bb : BP 3 b) (Bc : BP 3 c) (Bd' : BP 3 d) (k : ∀ s8 T, Ex S T → P (q [s0, some (.lst r), s2, some (toP a), some (toP b), some (toP c), some (toP d), s7, s8, s9, s10, s11, s12, s13, some (toD (det a b c d)), s15, s16, s17, s18, s19, s20, s21, s22] T)) :
    P (sSeq (t2f11 A) (sSeq (t2f12 A) (sSeq (t2f13 A) q)) [s0, some (.lst r), s2, some (toP a), some (toP b), some (toP c), some (toP d), s7, s8, s9, s10, s11, s12, s13, s14, s15, s16, s17, s18, s19, s20, s21, s22] S) := by
  obtain ⟨S1, h1, E1⟩ := (lsix (A := A) Ba Bb Bc Bd').at S
  obtain ⟨S2, h2, E2⟩ := (six_ (A := A) Ba Bb Bc Bd' (by decide)).at S1
  obtain ⟨S3, h3, E3⟩ := (six_ (A := A) Bb Ba Bc Bd' (by decide)).at S2
  obtain ⟨S4, h4, E4⟩ := (six_ (A := A) Bb Bc Ba Bd' (by decide)).at S3
  obtain ⟨S5, h5, E5⟩ := (six_ (A := A) Ba Bb Bd' Bc (by decide)).at S4
  obtain ⟨S6, h6, E6⟩ := (six_ (A := A) Ba Ba Bc Bd' (by decide)).at S5
  rw [det_ba] at h3
  rw [det_bc] at h4
  rw [det_dc] at h5
  rw [det_aa] at h6
  have mn := fun S => minus2 (A := A) (S := S) B2.zero (det_b2 Ba Bb Bc Bd') (c := 99) (by decide) (by decide) (by decide) (by decide)
  generalize det a b c d = D0 at *
  have z0 : (0 : Rat) - D0 = -D0 := by grind
  simp only [z0] at mn
  refine seq_ex (by simp [t2f11, h1]; exact ⟨rfl, rfl⟩) ?_
  refine seq_ex (by simp [t2f12, h2, h3, h4, h5, h6]; exact ⟨rfl, rfl⟩) ?_
  refine st_same (by simp; exact ⟨rfl, rfl⟩) (by simp [toD_zero, mn]; exact ⟨rfl, rfl⟩) (EqD.lst1 (n := 4) (xs := [toD D0, toD (-D0), toD D0, toD (-D0), toD 0]) (by simp) (by simp) (by simp) ?_) fun g => ?_
  · intro x hx
    simp at hx
    rcases hx with rfl | rfl | rfl | rfl | rfl <;> exact .rat _ _
  · exact k _ _ ((((((E1.trans E2).trans E3).trans E4).trans E5).trans E6).app.app)
end
end K87
namespace K87
open PySem PySem.Spec L2 RZ Sd Sd.R
variable {A : Str → Addr} {S : Store}
theorem u_bca (a b c : Pt) : ux b c a * b.w * (a.w * a.w) = ux a b c * a.w * (b.w * b.w) ∧ uy b c a * b.w * (a.w * a.w) = uy a b c * a.w * (b.w * b.w) ∧ uz b c a * b.w * (a.w * a.w) = uz a b c * a.w * (b.w * b.w) := by
  refine ⟨?_, ?_, ?_⟩
  · unfold ux; grind
  · unfold uy; grind
  · unfold uz; grind
theorem u_bac (a b c : Pt) : ux b a c * b.w * (a.w * a.w) = -(ux a b c * a.w) * (b.w * b.w) ∧ uy b a c * b.w * (a.w * a.w) = -(uy a b c * a.w) * (b.w * b.w) ∧ uz b a c * b.w * (a.w * a.w) = -(uz a b c * a.w) * (b.w * b.w) := by
  refine ⟨?_, ?_, ?_⟩
  · unfold ux; grind
  · unfold uy; grind
  · unfold uz; grind
theorem d_bca (a b c : Pt) : (ux b c a * b.x + uy b c a * b.y + uz b c a * b.z) * (a.w * a.w) = (ux a b c * a.x + uy a b c * a.y + uz a b c * a.z) * (b.w * b.w) := by unfold ux uy uz; grind
theorem d_bac (a b c : Pt) : (ux b a c * b.x + uy b a c * b.y + uz b a c * b.z) * (a.w * a.w) = -(ux a b c * a.x + uy a b c * a.y + uz a b c * a.z) * (b.w * b.w) := by unfold ux uy uz; grind
theorem p_ab (a b c : Pt) : ux a b c * (b.x * a.w - a.x * b.w) + uy a b c * (b.y * a.w - a.y * b.w) + uz a b c * (b.z * a.w - a.z * b.w) = 0 := by unfold ux uy uz; grind
theorem p_ac (a b c : Pt) : ux a b c * (c.x * a.w - a.x * c.w) + uy a b c * (c.y * a.w - a.y * c.w) + uz a b c * (c.z * a.w - a.z * c.w) = 0 := by unfold ux uy uz; grind
theorem mul_z {x y : Int} (hy : y ≠ 0) (h : x * y = 0) : x = 0 := (Int.mul_eq_zero.mp h).resolve_right hy
theorem fl_bca {a b c : Pt} (h : ¬ Fl a b c) : ¬ Fl b c a := fun ⟨h1, h2, h3⟩ => by
  obtain ⟨e1, e2, e3⟩ := u_bca a b c
  have aw : a.w ≠ 0 := by have := a.wp; omega
  have bw : b.w * b.w ≠ 0 := Int.mul_ne_zero (by have := b.wp; omega) (by have := b.wp; omega)
  rw [h1, Int.zero_mul, Int.zero_mul] at e1
  rw [h2, Int.zero_mul, Int.zero_mul] at e2
  rw [h3, Int.zero_mul, Int.zero_mul] at e3
  exact h ⟨mul_z aw (mul_z bw e1.symm), mul_z aw (mul_z bw e2.symm), mul_z aw (mul_z bw e3.symm)⟩
theorem fl_bac {a b c : Pt} (h : ¬ Fl a b c) : ¬ Fl b a c := fun ⟨h1, h2, h3⟩ => by
  obtain ⟨e1, e2, e3⟩ := u_bac a b c
  have aw : a.w ≠ 0 := by have := a.wp; omega
  have bw : b.w * b.w ≠ 0 := Int.mul_ne_zero (by have := b.wp; omega) (by have := b.wp; omega)
  rw [h1, Int.zero_mul, Int.zero_mul] at e1
  rw [h2, Int.zero_mul, Int.zero_mul] at e2
  rw [h3, Int.zero_mul, Int.zero_mul] at e3
  have z1 := mul_z bw e1.symm
  have z2 := mul_z bw e2.symm
  have z3 := mul_z bw e3.symm
  exact h ⟨mul_z aw (by omega), mul_z aw (by omega), mul_z aw (by omega)⟩
theorem w_bca {a b c : Pt} (h : ¬ Fl a b c) : lowW (pw b c a (fl_bca h)) = lowW (pw a b c h) := by
  obtain ⟨e1, e2, e3⟩ := u_bca a b c
  exact lowW_prop _ _ (Int.mul_pos b.wp b.wp) (Int.mul_pos a.wp a.wp) e1 e2 e3 (d_bca a b c)
theorem w_bac {a b c : Pt} (h : ¬ Fl a b c) : lowW (pw b a c (fl_bac h)) = negW (lowW (pw a b c h)) := by
  obtain ⟨e1, e2, e3⟩ := u_bac a b c
  rw [← lowW_neg]
  exact lowW_prop _ _ (Int.mul_pos b.wp b.wp) (Int.mul_pos a.wp a.wp) e1 e2 e3 (d_bac a b c)
/-- how far a point lies before the plane -/
theorem far_eq {a b c : Pt} (h : ¬ Fl a b c) (p : Pt) : ∃ g : Int, 0 < g ∧ ((lowW (pw a b c h)).a * p.x + (lowW (pw a b c h)).b * p.y + (lowW (pw a b c h)).c * p.z - (lowW (pw a b c h)).d * p.w) * g = ux a b c * (p.x * a.w - a.x * p.w) + uy a b c * (p.y * a.w - a.y * p.w) + uz a b c * (p.z * a.w - a.z * p.w) := by
  obtain ⟨e1, e2, e3, e4⟩ := lowW_eq (pw a b c h)
  have gp := (pw a b c h).gp
  refine ⟨(pw a b c h).g, by omega, ?_⟩
  have f1 : ux a b c * a.w = (lowW (pw a b c h)).a * (pw a b c h).g := e1
  have f2 : uy a b c * a.w = (lowW (pw a b c h)).b * (pw a b c h).g := e2
  have f3 : uz a b c * a.w = (lowW (pw a b c h)).c * (pw a b c h).g := e3
  have f4 : ux a b c * a.x + uy a b c * a.y + uz a b c * a.z = (lowW (pw a b c h)).d * (pw a b c h).g := e4
  generalize (lowW (pw a b c h)).a = wa at *
  generalize (lowW (pw a b c h)).b = wb at *
  generalize (lowW (pw a b c h)).c = wc at *
  generalize (lowW (pw a b c h)).d = wd at *
  generalize ((pw a b c h).g : Int) = g at *
  generalize ux a b c = u1 at *
  generalize uy a b c = u2 at *
  generalize uz a b c = u3 at *
  clear e1 e2 e3 e4 gp
  have x1 : (wa * p.x + wb * p.y + wc * p.z - wd * p.w) * g = (wa * g) * p.x + (wb * g) * p.y + (wc * g) * p.z - (wd * g) * p.w := by clear f1 f2 f3 f4; grind
  rw [x1, ← f1, ← f2, ← f3, ← f4]
  clear f1 f2 f3 f4 x1
  grind
theorem sg_mul {x g y : Int} (hg : 0 < g) (h : x * g = y) : sg x = sg y := by
  have h1 : (0 < x) = (0 < y) := by
    subst h
    apply propext
    constructor
    · intro hx; exact Int.mul_pos hx hg
    · intro hx
      rcases Int.lt_or_le 0 x with z | z
      · exact z
      · have := Int.mul_nonpos_of_nonpos_of_nonneg z (Int.le_of_lt hg)
        omega
  have h2 : (x < 0) = (y < 0) := by
    subst h
    apply propext
    constructor
    · intro hx; exact Int.mul_neg_of_neg_of_pos hx hg
    · intro hx
      rcases Int.lt_or_le x 0 with z | z
      · exact z
      · have := Int.mul_nonneg z (Int.le_of_lt hg)
        omega
  unfold sg
  simp only [h1, h2]
theorem sg_det (a b c d : Pt) : sg (ux a b c * (d.x * a.w - a.x * d.w) + uy a b c * (d.y * a.w - a.y * d.w) + uz a b c * (d.z * a.w - a.z * d.w)) = cmpQ (det a b c d) 0 := by
  have h := num_det a b c d
  generalize ux a b c * (d.x * a.w - a.x * d.w) + uy a b c * (d.y * a.w - a.y * d.w) + uz a b c * (d.z * a.w - a.z * d.w) = n at *
  have pos : ∀ p : Pt, (0 : Rat) < p.w := fun p => Rat.intCast_pos.mpr p.wp
  have hp : (0 : Rat) < (a.w : Rat) ^ 3 * b.w * c.w * d.w := Rat.mul_pos (Rat.mul_pos (Rat.mul_pos (Rat.pow_pos (pos a)) (pos b)) (pos c)) (pos d)
  generalize (a.w : Rat) ^ 3 * b.w * c.w * d.w = m at *
  generalize det a b c d = D0 at *
  have z : (0 : Rat) = 0 * m := by grind
  have h1 : (0 < n) = (0 < D0) := by
    apply propext
    rw [← Rat.intCast_pos, h]
    conv => lhs; lhs; rw [z]
    exact Rat.mul_lt_mul_right hp
  have h2 : (n < 0) = (D0 < 0) := by
    apply propext
    rw [← Rat.intCast_neg_iff, h]
    conv => lhs; rhs; rw [z]
    exact Rat.mul_lt_mul_right hp
  unfold sg cmpQ
  simp only [h1, h2]
end K87
namespace K87
open PySem PySem.Spec L2 RZ Sd Sd.R
variable {A : Str → Addr} {S : Store}
@[simp] theorem atm1 {x y z : D} : atI [x, y, z] (-1) = some z := rfl
@[simp] theorem atm2 {x y z : D} : atI [x, y, z] (-2) = some y := rfl
theorem toP_ones {r : Nat} {n : Nat} (hn : n ≤ 3) (h : S[r]? = some (List.replicate n (.int 1))) : Sd.toP 64 S (.lst r) = some (.list (List.replicate n (.int 1))) := by
  unfold Sd.toP
  rw [h]
  match n, hn with
  | 0, _ => simp [mapO]
  | 1, _ => simp [mapO, Sd.toP]
  | 2, _ => simp [mapO, Sd.toP]
  | 3, _ => simp [mapO, Sd.toP]
theorem eq_ones {r q : Nat} {xs : List D} {n : Nat} (hn : n ≤ 3) (hx : xs = List.replicate n (.int 1)) (h : S[r]? = some xs) (h2 : S[q]? = some []) : oEq (.lst r) (.lst q) S = some (.bl (decide (n = 0)), S) := by
  subst hx
  have e2 := toP_ones (S := S) (r := q) (n := 0) (by decide) h2
  unfold oEq
  rw [toP_ones hn h, e2]
  match n, hn with
  | 0, _ => simp [PyData.eqv, PyData.eqvAll]
  | 1, _ => simp [PyData.eqv, PyData.eqvAll]
  | 2, _ => simp [PyData.eqv, PyData.eqvAll]
  | 3, _ => simp [PyData.eqv, PyData.eqvAll]
theorem eqW_flat {w : Wl} {q : Nat} (h2 : S[q]? = some [.str "flat", .bl true]) : oEq (toW w) (.lst q) S = some (.bl false, S) := by
  unfold oEq
  rw [toP_flat h2, show Sd.toP 64 S (toW w) = _ from toP_four S w.a w.b w.c w.d]
  simp [PyData.eqv]
/-- the crossed ways from the coordinates -/
def nx (a b c : Pt) : Rat := (b.Y - a.Y) * (c.Z - a.Z) - (b.Z - a.Z) * (c.Y - a.Y)
def ny (a b c : Pt) : Rat := (b.Z - a.Z) * (c.X - a.X) - (b.X - a.X) * (c.Z - a.Z)
def nz (a b c : Pt) : Rat := (b.X - a.X) * (c.Y - a.Y) - (b.Y - a.Y) * (c.X - a.X)
theorem pw_ne (a b c : Pt) : (a.w : Rat) * a.w * b.w * c.w ≠ 0 := by
  intro h
  rcases Rat.mul_eq_zero.mp h with h | h
  · rcases Rat.mul_eq_zero.mp h with h | h
    · rcases Rat.mul_eq_zero.mp h with h | h <;> exact wq a h
    · exact wq b h
  · exact wq c h
theorem zero_iff {i : Int} {x m : Rat} (h : (i : Rat) = x * m) (hm : m ≠ 0) : (x.num = 0) = (i = 0) := by
  apply propext
  rw [Rat.num_eq_zero, ← Rat.intCast_eq_zero_iff, h]
  constructor
  · intro h; rw [h]; exact Rat.zero_mul _
  · intro h; exact (Rat.mul_eq_zero.mp h).resolve_right hm
theorem nx0 (a b c : Pt) : ((nx a b c).num = 0) = (ux a b c = 0) := zero_iff (uX a b c) (pw_ne a b c)
theorem ny0 (a b c : Pt) : ((ny a b c).num = 0) = (uy a b c = 0) := zero_iff (uY a b c) (pw_ne a b c)
theorem nz0 (a b c : Pt) : ((nz a b c).num = 0) = (uz a b c = 0) := zero_iff (uZ a b c) (pw_ne a b c)
section
variable {P : SRes → Prop} {q : Sv} {r c0 : Nat} {a b c d : Pt} {s0 s2 s3 s4 s5 s6 s7 s8 s9 s10 s11 s12 s13 s14 s15 s16 s17 s18 s19 s20 s21 s22 : Option D}
theorem b6 (Ba : BP 3 a) (Bb : BP 3 b) (Bc : BP 3 c) (k : ∀ s15 s16 T, Ex S T → P (q [s0, some (.lst r), s2, some (toP a), some (toP b), some (toP c), s6, s7, s8, s9, s10, s11, s12, s13, s14, s15, s16, some (.bl (decide (Fl a b c))), s18, s19, s20, s21, s22] T)) :
    P (sSeq (t2f14 A) (sSeq (t2f15 A) q) [s0, some (.lst r), s2, some (toP a), some (toP b), some (toP c), s6, s7, s8, s9, s10, s11, s12, s13, s14, s15, s16, s17, s18, s19, s20, s21, s22] S) := by
  obtain ⟨w1, w2, w3⟩ := way_b2 Ba Bb
  obtain ⟨v1, v2, v3⟩ := way_b2 Ba Bc
  obtain ⟨S1, h1, E1⟩ := (lway (A := A) Ba Bb (by decide)).at S
  obtain ⟨S2, h2, E2⟩ := (lway (A := A) Ba Bc (by decide)).at S1
  have tm : ∀ {x y : Rat}, B2 7 6 x → B2 7 6 y → ∀ S, F__law_times A [toD x, toD y] S = .ok (toD (x * y)) S := fun hx hy S => times2 hx hy (by decide) (by decide)
  have mi : ∀ {x y : Rat}, B2 14 12 x → B2 14 12 y → ∀ S, F__law_minus A [toD x, toD y] S = .ok (toD (x - y)) S := fun hx hy S => minus2 hx hy (c := 26) (by decide) (by decide) (by decide) (by decide)
  have m1 : ∀ S, F__law_minus A [toD ((b.Y - a.Y) * (c.Z - a.Z)), toD ((b.Z - a.Z) * (c.Y - a.Y))] S = .ok (toD (nx a b c)) S := mi (B2.mul w2 v3) (B2.mul w3 v2)
  have m2 : ∀ S, F__law_minus A [toD ((b.Z - a.Z) * (c.X - a.X)), toD ((b.X - a.X) * (c.Z - a.Z))] S = .ok (toD (ny a b c)) S := mi (B2.mul w3 v1) (B2.mul w1 v3)
  have m3 : ∀ S, F__law_minus A [toD ((b.X - a.X) * (c.Y - a.Y)), toD ((b.Y - a.Y) * (c.X - a.X))] S = .ok (toD (nz a b c)) S := mi (B2.mul w1 v2) (B2.mul w2 v1)
  have t1 := tm w2 v3
  have t2 := tm w3 v2
  have t3 := tm w3 v1
  have t4 := tm w1 v3
  have t5 := tm w1 v2
  have t6 := tm w2 v1
  have zx := nx0 a b c
  have zy := ny0 a b c
  have zz := nz0 a b c
  refine seq_ex (by simp [t2f14, h1, h2]; exact ⟨rfl, rfl⟩) ?_
  have fin : ∀ n xs, n ≤ 3 → xs = List.replicate n (.int 1) → decide (n = 0) = decide (Fl a b c) → eLc [22] (Sd.iRng1 (aCons (eC (.int 3)) aNil)) (.nm 22) (tvB (eBin oNe (eBin oIx (eCall (F__law_minus A) (aCons (eCall (F__law_times A) (aCons (eBin oIx (eVar 15) (eBin oSub (eVar 22) (eC (.int 2)))) (aCons (eBin oIx (eVar 16) (eBin oSub (eVar 22) (eC (.int 1)))) aNil))) (aCons (eCall (F__law_times A) (aCons (eBin oIx (eVar 15) (eBin oSub (eVar 22) (eC (.int 1)))) (aCons (eBin oIx (eVar 16) (eBin oSub (eVar 22) (eC (.int 2)))) aNil))) aNil))) (eC (.int 0))) (eC (.int 0)))) (eC (.int 1)) [s0, some (.lst r), s2, some (toP a), some (toP b), some (toP c), s6, s7, s8, s9, s10, s11, s12, s13, s14, some (.tup [toD (b.X - a.X), toD (b.Y - a.Y), toD (b.Z - a.Z)]), some (.tup [toD (c.X - a.X), toD (c.Y - a.Y), toD (c.Z - a.Z)]), s17, s18, s19, s20, s21, s22] S2 = .ok (.lst S2.length) (S2 ++ [xs]) →
      P (sSeq (t2f15 A) q [s0, some (.lst r), s2, some (toP a), some (toP b), some (toP c), s6, s7, s8, s9, s10, s11, s12, s13, s14, some (.tup [toD (b.X - a.X), toD (b.Y - a.Y), toD (b.Z - a.Z)]), some (.tup [toD (c.X - a.X), toD (c.Y - a.Y), toD (c.Z - a.Z)]), s17, s18, s19, s20, s21, s22] S2) := fun n xs hn hx hd he => by
    have eo := eq_ones (S := S2 ++ [xs, []]) (r := S2.length) (q := S2.length + 1) hn hx (by simp) (by simp)
    rw [hd] at eo
    refine seq_ex (S' := S2 ++ [xs, []]) (ρ' := [s0, some (.lst r), s2, some (toP a), some (toP b), some (toP c), s6, s7, s8, s9, s10, s11, s12, s13, s14, some (.tup [toD (b.X - a.X), toD (b.Y - a.Y), toD (b.Z - a.Z)]), some (.tup [toD (c.X - a.X), toD (c.Y - a.Y), toD (c.Z - a.Z)]), some (.bl (decide (Fl a b c))), s18, s19, s20, s21, s22]) ?_ (k _ _ _ ((E1.trans E2).app))
    unfold t2f15
    rw [x_sSet, x_eBin, he, bind_ok]
    have e2 : ∀ ρ T, eLst aNil ρ T = .ok (.lst T.length) (T ++ [[]]) := fun ρ T => by simp
    rw [e2, bind_ok]
    have l2 : (S2 ++ [xs]).length = S2.length + 1 := by simp
    have l3 : S2 ++ [xs] ++ [[]] = S2 ++ [xs, []] := by simp
    rw [l2, l3, eo]
    rfl
  by_cases hx : ux a b c = 0 <;> by_cases hy : uy a b c = 0 <;> by_cases hz : uz a b c = 0
  · exact fin 0 [] (by decide) rfl (by simp [hx, hy, hz]) (by simp [Sd.iRng1, List.range, List.range.loop, t1, t2, t3, t4, t5, t6, m1, m2, m3, zx, zy, zz, hx, hy, hz])
  · exact fin 1 [.int 1] (by decide) rfl (by simp [hx, hy, hz]) (by simp [Sd.iRng1, List.range, List.range.loop, t1, t2, t3, t4, t5, t6, m1, m2, m3, zx, zy, zz, hx, hy, hz])
  · exact fin 1 [.int 1] (by decide) rfl (by simp [hx, hy, hz]) (by simp [Sd.iRng1, List.range, List.range.loop, t1, t2, t3, t4, t5, t6, m1, m2, m3, zx, zy, zz, hx, hy, hz])
  · exact fin 2 [.int 1, .int 1] (by decide) rfl (by simp [hx, hy, hz]) (by simp [Sd.iRng1, List.range, List.range.loop, t1, t2, t3, t4, t5, t6, m1, m2, m3, zx, zy, zz, hx, hy, hz])
  · exact fin 1 [.int 1] (by decide) rfl (by simp [hx, hy, hz]) (by simp [Sd.iRng1, List.range, List.range.loop, t1, t2, t3, t4, t5, t6, m1, m2, m3, zx, zy, zz, hx, hy, hz])
  · exact fin 2 [.int 1, .int 1] (by decide) rfl (by simp [hx, hy, hz]) (by simp [Sd.iRng1, List.range, List.range.loop, t1, t2, t3, t4, t5, t6, m1, m2, m3, zx, zy, zz, hx, hy, hz])
  · exact fin 2 [.int 1, .int 1] (by decide) rfl (by simp [hx, hy, hz]) (by simp [Sd.iRng1, List.range, List.range.loop, t1, t2, t3, t4, t5, t6, m1, m2, m3, zx, zy, zz, hx, hy, hz])
  · exact fin 3 [.int 1, .int 1, .int 1] (by decide) rfl (by simp [hx, hy, hz]) (by simp [Sd.iRng1, List.range, List.range.loop, t1, t2, t3, t4, t5, t6, m1, m2, m3, zx, zy, zz, hx, hy, hz])
end
end K87
namespace K87
open PySem PySem.Spec L2 RZ Sd Sd.R
variable {A : Str → Addr} {S : Store}
theorem low_sm {a b c : Pt} (Ba : BP 3 a) (Bb : BP 3 b) (Bc : BP 3 c) (h : ¬ Fl a b c) : Sm 200 (lowW (pw a b c h)).a ∧ Sm 200 (lowW (pw a b c h)).b ∧ Sm 200 (lowW (pw a b c h)).c ∧ Sm 200 (lowW (pw a b c h)).d := by
  obtain ⟨sx, sy, sz⟩ := sm_u Ba Bb Bc
  have gp : (0 : Int) < (pw a b c h).g := by have := (pw a b c h).gp; omega
  exact ⟨sm_div gp (sm_mono (sm_mul sx Ba.w) (by decide)), sm_div gp (sm_mono (sm_mul sy Ba.w) (by decide)), sm_div gp (sm_mono (sm_mul sz Ba.w) (by decide)), sm_div gp (sm_mono (sm_add (sm_add (sm_mul sx Ba.x) (sm_mul sy Ba.y)) (sm_mul sz Ba.z)) (by decide))⟩
theorem side_at {a b c p : Pt} {n : Int} (Ba : BP 3 a) (Bb : BP 3 b) (Bc : BP 3 c) (Bp : BP 3 p) (h : ¬ Fl a b c) (hn : sg (ux a b c * (p.x * a.w - a.x * p.w) + uy a b c * (p.y * a.w - a.y * p.w) + uz a b c * (p.z * a.w - a.z * p.w)) = n) :
    Pu (F_side A) [toW (lowW (pw a b c h)), .tup [.tup [], toP p]] (.int n) := by
  obtain ⟨s1, s2, s3, s4⟩ := low_sm Ba Bb Bc h
  obtain ⟨g, gp, hg⟩ := far_eq h p
  have := side_ (A := A) (lowW_pr _) s1 s2 s3 s4 (Bp.up (by decide : 3 ≤ 200)) (by decide)
  rw [sg_mul gp hg, hn] at this
  exact this
section
variable {P : SRes → Prop} {q : Sv} {r c0 : Nat} {a b c d : Pt} {s0 s2 s3 s4 s5 s6 s7 s8 s9 s10 s11 s12 s13 s14 s15 s16 s17 s18 s19 s20 s21 s22 : Option D}
theorem b7 (hA : Good A) (Ba : BP 3 a) (Bb : BP 3 b) (Bc : BP 3 c) (Bd' : BP 3 d) (k : ∀ s8 s18 T, Ex S T → P (q [s0, some (.lst r), s2, some (toP a), some (toP b), some (toP c), some (toP d), s7, s8, s9, s10, s11, s12, s13, some (toD (det a b c d)), s15, s16, some (.bl (decide (Fl a b c))), s18, s19, s20, s21, s22] T)) :
    P (sSeq (t2f16 A) (sSeq (t2f17 A) (sSeq (t2f18 A) q)) [s0, some (.lst r), s2, some (toP a), some (toP b), some (toP c), some (toP d), s7, s8, s9, s10, s11, s12, s13, some (toD (det a b c d)), s15, s16, some (.bl (decide (Fl a b c))), s18, s19, s20, s21, s22] S) := by
  by_cases hf : Fl a b c
  · obtain ⟨g, hg⟩ := plane0 (A := A) hf Ba Bb Bc (by decide) S
    have hh := heard_flat (A := A) (tb_plane hA) (.inr rfl) hg
    obtain ⟨T, h1, g2, rfl⟩ := (line_ (A := A) Ba Bb Bc (by decide)).at (S ++ g ++ [[.str "flat", .bl true]])
    have eo := eq_flat (S := S ++ (g ++ ([.str "flat", .bl true] :: (g2 ++ [[.str "flat", .bl true]])))) (r := S.length + g.length) (q := S.length + (g.length + (g2.length + 1))) (by simp) (by simp)
    have df : decide (Fl a b c) = true := decide_eq_true hf
    rw [df] at h1 k ⊢
    simp at h1 hh
    refine seq_ex (by simp [t2f16, hh]; exact ⟨rfl, rfl⟩) ?_
    refine seq_ex (S' := S ++ (g ++ ([.str "flat", .bl true] :: (g2 ++ [[.str "flat", .bl true]])))) (by simp [t2f17, h1, eo]; exact rfl) ?_
    refine seq_ex (by simp [t2f18]; exact ⟨rfl, rfl⟩) ?_
    exact k _ _ _ Ex.refl.app
  · have df : decide (Fl a b c) = false := decide_eq_false hf
    rw [df] at k ⊢
    have pb := plane_ (A := A) (fl_bca hf) Bb Bc Ba (by decide)
    rw [w_bca hf] at pb
    have pc := plane_ (A := A) (fl_bac hf) Bb Ba Bc (by decide)
    rw [w_bac hf] at pc
    have sa := side_at (A := A) (n := 0) Ba Bb Bc Ba hf (by
      have e : ux a b c * (a.x * a.w - a.x * a.w) + uy a b c * (a.y * a.w - a.y * a.w) + uz a b c * (a.z * a.w - a.z * a.w) = 0 := by simp
      rw [e]; rfl)
    have sb := side_at (A := A) (n := 0) Ba Bb Bc Bb hf (by rw [p_ab]; rfl)
    have sc := side_at (A := A) (n := 0) Ba Bb Bc Bc hf (by rw [p_ac]; rfl)
    have sd := side_at (A := A) (n := cmpQ (det a b c d) 0) Ba Bb Bc Bd' hf (sg_det a b c d)
    have ct := contrary_ (A := A) (lowW (pw a b c hf)) (lowW_pr _)
    have pa := plane_ (A := A) hf Ba Bb Bc (by decide)
    have D2 := (det_b2 Ba Bb Bc Bd').bd (k := 100) (by decide) (by decide)
    have cq := fun S => compared_ (A := A) (S := S) D2 (B2.zero.bd (k := 100) (by decide) (by decide)) (by decide)
    generalize lowW (pw a b c hf) = W at *
    generalize det a b c d = D0 at *
    obtain ⟨T0, h0, E0⟩ := pa.at S
    have hh := heard_ok (A := A) (tb_plane hA) (.inr rfl) h0
    obtain ⟨T, h1, E1⟩ := (line_ (A := A) Ba Bb Bc (by decide)).at T0
    rw [df] at h1
    have eo := eqW_flat (w := W) (S := T ++ [[.str "flat", .bl true]]) (q := T.length) (by simp)
    refine seq_ex (by simp [t2f16, hh]; exact ⟨rfl, rfl⟩) ?_
    refine seq_ex (S' := T ++ [[.str "flat", .bl true]]) (by simp [t2f17, h1, eo]; exact rfl) ?_
    obtain ⟨S1, k1, F1⟩ := pb.at (T ++ [[.str "flat", .bl true]])
    obtain ⟨S2, k2, F2⟩ := pc.at S1
    have lc : ∃ g, eLc [11] (iOf (eTup (aCons (eVar 3) (aCons (eVar 4) (aCons (eVar 5) aNil))))) (.nm 11) tvYes (eCall (F_side A) (aCons (eVar 18) (aCons (eTup (aCons (eTup aNil) (aCons (eVar 11) aNil))) aNil))) [s0, some (.lst r), s2, some (toP a), some (toP b), some (toP c), some (toP d), s7, s8, s9, s10, s11, s12, s13, some (toD D0), s15, s16, some (.bl false), some (toW W), s19, s20, s21, s22] S2 = .ok (.lst S2.length) (S2 ++ [[.int 0, .int 0, .int 0]] ++ g) :=
      lc_new (xs := [toP a, toP b, toP c]) [.int 0, .int 0, .int 0] (a := itSeq [toP a, toP b, toP c]) (S := S2) (S1 := S2) (by simp [itOf]) rfl (by simp) (fun i g => rfl) (fun i dd y g e1 e2 => by
        have hy : y = .int 0 := by
          match i, e2 with
          | 0, e2 => exact (Option.some.inj e2).symm
          | 1, e2 => exact (Option.some.inj e2).symm
          | 2, e2 => exact (Option.some.inj e2).symm
        subst hy
        have hd : ∀ T, ∃ g', F_side A [toW W, .tup [.tup [], dd]] T = .ok (.int 0) (T ++ g') := by
          match i, e1 with
          | 0, e1 => cases e1; exact sa
          | 1, e1 => cases e1; exact sb
          | 2, e1 => cases e1; exact sc
        obtain ⟨g', hg'⟩ := hd (S2 ++ g)
        exact ⟨_, g', nb_nm, rfl, by simp [hg', -y_wipe]; simp [hg']⟩)
    obtain ⟨g, hg⟩ := lc
    obtain ⟨S3, k3, F3⟩ := sd.at (S2 ++ [[.int 0, .int 0, .int 0]] ++ g)
    obtain ⟨S4, k4, F4⟩ := ct.at (S3 ++ [[toW W, toW (negW W), .lst S2.length, .int (cmpQ D0 0)]])
    have X : sSet 8 (eLst (aCons (eCall (F_plane_through A) (aCons (eVar 4) (aCons (eVar 5) (aCons (eVar 3) aNil)))) (aCons (eCallK (F_plane_through A) 0 3 [0, 1, 2] aNil (aCons (eVar 4) (aCons (eVar 3) (aCons (eVar 5) aNil)))) (aCons (eLc [11] (iOf (eTup (aCons (eVar 3) (aCons (eVar 4) (aCons (eVar 5) aNil))))) (.nm 11) tvYes (eCall (F_side A) (aCons (eVar 18) (aCons (eTup (aCons (eTup aNil) (aCons (eVar 11) aNil))) aNil)))) (aCons (eCall (F_side A) (aCons (eVar 18) (aCons (eTup (aCons (eTup aNil) (aCons (eVar 6) aNil))) aNil))) aNil)))))
        [s0, some (.lst r), s2, some (toP a), some (toP b), some (toP c), some (toP d), s7, s8, s9, s10, s11, s12, s13, some (toD D0), s15, s16, some (.bl false), some (toW W), s19, s20, s21, s22] (T ++ [[.str "flat", .bl true]]) =
        .nx [s0, some (.lst r), s2, some (toP a), some (toP b), some (toP c), some (toP d), s7, some (.lst S3.length), s9, s10, s11, s12, s13, some (toD D0), s15, s16, some (.bl false), some (toW W), s19, s20, s21, s22] (S3 ++ [[toW W, toW (negW W), .lst S2.length, .int (cmpQ D0 0)]]) := by
      simp only [List.append_assoc, List.singleton_append] at hg k3
      simp [k1, k2, hg, k3, -y_eLc, -x_iOf]
    have hS2 : S2[S2.length]? = none := by simp
    have g3 : S3[S2.length]? = some [.int 0, .int 0, .int 0] := by
      obtain ⟨gg, rfl⟩ := F3
      simp
    have l3 : S2.length < S3.length := (List.getElem?_eq_some_iff.mp g3).1
    have g4 : S4[S2.length]? = some [.int 0, .int 0, .int 0] := by
      obtain ⟨gg, rfl⟩ := F4
      rw [List.append_assoc, get_app l3]; exact g3
    have g5 : S4[S3.length]? = some [toW W, toW (negW W), .lst S2.length, .int (cmpQ D0 0)] := by
      obtain ⟨gg, rfl⟩ := F4
      simp
    have l4 : S3.length < S4.length := (List.getElem?_eq_some_iff.mp g5).1
    obtain ⟨gz, hz⟩ := if_same (A := A) (S := S3 ++ [[toW W, toW (negW W), .lst S2.length, .int (cmpQ D0 0)]]) (ρ := [s0, some (.lst r), s2, some (toP a), some (toP b), some (toP c), some (toP d), s7, some (.lst S3.length), s9, s10, s11, s12, s13, some (toD D0), s15, s16, some (.bl false), some (toW W), s19, s20, s21, s22])
      (ex := eVar 8) (ey := eLst (aCons (eVar 18) (aCons (eCall (F_contrary A) (aCons (eVar 18) aNil)) (aCons (eLst (aCons (eC (.int 0)) (aCons (eC (.int 0)) (aCons (eC (.int 0)) aNil)))) (aCons (eCall (F_compared A) (aCons (eVar 14) (aCons (eTup (aCons (eC (.int 0)) (aCons (eC (.int 1)) aNil))) aNil))) aNil)))))
      (d := .lst S3.length) (e := .lst (S4.length + 3)) (S1 := S3 ++ [[toW W, toW (negW W), .lst S2.length, .int (cmpQ D0 0)]]) (S2 := S4 ++ [[.int 0, .int 0, .int 0], gq D0, gq 0, [toW W, toW (negW W), .lst S4.length, .int (cmpQ D0 0)]])
      (by simp) (by simp [k4, toD_zero, cq]) (.lst 4 _ _ [toW W, toW (negW W), .lst S2.length, .int (cmpQ D0 0)] [toW W, toW (negW W), .lst S4.length, .int (cmpQ D0 0)] (by rw [get_app l4]; exact g5) (by simp) rfl (by simp) fun i x y hx hy => by
        match i, hx, hy with
        | 0, hx, hy => cases hx; cases hy; exact .wl _ _
        | 1, hx, hy => cases hx; cases hy; exact .wl _ _
        | 2, hx, hy =>
          cases hx; cases hy
          refine .lst1 (n := 3) (xs := [.int 0, .int 0, .int 0]) (by rw [get_app (by omega)]; exact g4) (by simp) (by simp) fun x hx => ?_
          simp at hx
          subst hx
          exact .int _ _
        | 3, hx, hy => cases hx; cases hy; exact .int _ _)
    refine seq_ex (sif_t (S1 := T ++ [[.str "flat", .bl true]]) (by simp) (show sSeq _ _ _ _ = _ from by rw [x_sSeq, X, sq_nx]; exact hz)) ?_
    exact k _ _ _ ((((((((E0.trans E1).app).trans F1).trans F2).app.app.trans F3).app).trans F4).app.app)
end
end K87
namespace K87
open PySem PySem.Spec L2 RZ Sd Sd.R
variable {A : Str → Addr} {S : Store}
section
variable {P : SRes → Prop} {q : Sv} {r c0 : Nat} {a b c d : Pt} {s0 s2 s3 s4 s5 s6 s7 s8 s9 s10 s11 s12 s13 s14 s15 s16 s17 s18 s19 s20 s21 s22 : Option D}
theorem draw3 (hT : Tin c0 r S) (hc : c0 < 100000) : ∃ x y z T, Sm 3 x ∧ Sm 3 y ∧ Sm 3 z ∧ Tin (c0 + 3) r T ∧
    eCallO cTuple (aCons (eLc [22] (Sd.iRng1 (aCons (eC (.int 3)) aNil)) (.nm 22) tvYes (eBin oSub (eCall (F__law_take A) (aCons (eVar 1) (aCons (eC (.int 9)) aNil))) (eC (.int 4)))) aNil) [s0, some (.lst r), s2, s3, s4, s5, s6, s7, s8, s9, s10, s11, s12, s13, s14, s15, s16, s17, s18, s19, s20, s21, s22] S = .ok (.tup [.int x, .int y, .int z]) T := by
  have hr := hT.lt
  have s9 : Sm 5 9 := by unfold Sm; decide
  obtain ⟨v1, S1, h1, a1, a2, T1, L1, K1⟩ := take_ (A := A) (hT.app [[]]) (by omega) (j := 9) (by decide) s9 (by decide)
  have g1 : S1[S.length]? = some [] := by rw [K1 _ (by omega)]; simp
  obtain ⟨v2, S2, h2, a3, a4, T2, L2', K2⟩ := take_ (A := A) (T1.set (q := S.length) (x := [.int (v1 - 4)]) (by omega)) (by omega) (j := 9) (by decide) s9 (by decide)
  have l1 : S.length < S1.length := (List.getElem?_eq_some_iff.mp g1).1
  have g2 : S2[S.length]? = some [.int (v1 - 4)] := by rw [K2 _ (by omega)]; simp [l1]
  obtain ⟨v3, S3, h3, a5, a6, T3, L3, K3⟩ := take_ (A := A) (T2.set (q := S.length) (x := [.int (v1 - 4), .int (v2 - 4)]) (by omega)) (by omega) (j := 9) (by decide) s9 (by decide)
  have l2 : S.length < S2.length := (List.getElem?_eq_some_iff.mp g2).1
  have g3 : S3[S.length]? = some [.int (v1 - 4), .int (v2 - 4)] := by rw [K3 _ (by omega)]; simp [l2]
  have l3 : S.length < S3.length := (List.getElem?_eq_some_iff.mp g3).1
  have u1 := fun k => push_at (x := .int (v1 - 4)) (k := k) g1 (by simp)
  have u2 := fun k => push_at (x := .int (v2 - 4)) (k := k) g2 (by simp)
  have u3 := fun k => push_at (x := .int (v3 - 4)) (k := k) g3 (by simp)
  simp at u1 u2 u3
  refine ⟨v1 - 4, v2 - 4, v3 - 4, S3.set S.length [.int (v1 - 4), .int (v2 - 4), .int (v3 - 4)], by unfold Sm; omega, by unfold Sm; omega, by unfold Sm; omega, T3.set (by omega), ?_⟩
  simp [Sd.iRng1, List.range, List.range.loop, h1, u1, h2, u2, h3, u3, l3]
theorem b8 (hT : Tin c0 r S) (hc : c0 < 90000) (D2 : Bd 100 D0) (Q2 : Bd 100 Q0) (k : ∀ s8 s11 s19 s20 s21 T, Tin (c0 + 6) r T → P (.nx [s0, some (.lst r), s2, s3, s4, s5, s6, s7, s8, s9, some (toD Q0), s11, s12, s13, some (toD D0), s15, s16, s17, s18, s19, s20, s21, s22] T)) :
    P (sSeq (t2f19 A) (sSeq (t2f20 A) (sSeq (t2f21 A) (t2f22 A))) [s0, some (.lst r), s2, s3, s4, s5, s6, s7, s8, s9, some (toD Q0), s11, s12, s13, some (toD D0), s15, s16, s17, s18, s19, s20, s21, s22] S) := by
  obtain ⟨x1, x2, x3, T1, sx1, sx2, sx3, Tn1, e1⟩ := draw3 (A := A) (s0 := s0) (s2 := s2) (s3 := s3) (s4 := s4) (s5 := s5) (s6 := s6) (s7 := s7) (s8 := s8) (s9 := s9) (s10 := some (toD Q0)) (s11 := s11) (s12 := s12) (s13 := s13) (s14 := some (toD D0)) (s15 := s15) (s16 := s16) (s17 := s17) (s18 := s18) (s19 := s19) (s20 := s20) (s21 := s21) (s22 := s22) hT (by omega)
  obtain ⟨y1, y2, y3, T2, sy1, sy2, sy3, Tn2, e2⟩ := draw3 (A := A) (s0 := s0) (s2 := s2) (s3 := s3) (s4 := s4) (s5 := s5) (s6 := s6) (s7 := s7) (s8 := s8) (s9 := s9) (s10 := some (toD Q0)) (s11 := s11) (s12 := s12) (s13 := s13) (s14 := some (toD D0)) (s15 := s15) (s16 := s16) (s17 := s17) (s18 := s18) (s19 := s19) (s20 := s20) (s21 := s21) (s22 := s22) Tn1 (by omega)
  have cr := fun S => cross_ (A := A) (S := S) sx1 sx2 sx3 sy1 sy2 sy3 (by decide)
  have cr2 := fun S => cross_ (A := A) (S := S) sy1 sy2 sy3 sx1 sx2 sx3 (by decide)
  have z1 := sm_sub (sm_mul sx2 sy3) (sm_mul sx3 sy2)
  have z2 := sm_sub (sm_mul sx3 sy1) (sm_mul sx1 sy3)
  have z3 := sm_sub (sm_mul sx1 sy2) (sm_mul sx2 sy1)
  have d1 := fun S => dot_ (A := A) (S := S) sx1 sx2 sx3 z1 z2 z3 (by decide)
  have d2 := fun S => dot_ (A := A) (S := S) z1 z2 z3 sy1 sy2 sy3 (by decide)
  have d3 := fun S => dot_ (A := A) (S := S) z1 z2 z3 z1 z2 z3 (by decide)
  have d4 := fun S => dot_ (A := A) (S := S) sx1 sx2 sx3 sx1 sx2 sx3 (by decide)
  have d5 := fun S => dot_ (A := A) (S := S) sy1 sy2 sy3 sy1 sy2 sy3 (by decide)
  have d6 := fun S => dot_ (A := A) (S := S) sx1 sx2 sx3 sy1 sy2 sy3 (by decide)
  have m1 := fun S => oMul_int (S := S) (sm_add (sm_add (sm_mul sx1 sx1) (sm_mul sx2 sx2)) (sm_mul sx3 sx3)) (sm_add (sm_add (sm_mul sy1 sy1) (sm_mul sy2 sy2)) (sm_mul sy3 sy3)) (by decide)
  have m2 := fun S => oMul_int (S := S) (sm_add (sm_add (sm_mul sx1 sy1) (sm_mul sx2 sy2)) (sm_mul sx3 sy3)) (sm_add (sm_add (sm_mul sx1 sy1) (sm_mul sx2 sy2)) (sm_mul sx3 sy3)) (by decide)
  have i1 : x1 * (x2 * y3 - x3 * y2) + x2 * (x3 * y1 - x1 * y3) + x3 * (x1 * y2 - x2 * y1) = 0 := by grind
  have i2 : (x2 * y3 - x3 * y2) * y1 + (x3 * y1 - x1 * y3) * y2 + (x1 * y2 - x2 * y1) * y3 = 0 := by grind
  have i3 : (x2 * y3 - x3 * y2) * (x2 * y3 - x3 * y2) + (x3 * y1 - x1 * y3) * (x3 * y1 - x1 * y3) + (x1 * y2 - x2 * y1) * (x1 * y2 - x2 * y1) = (x1 * x1 + x2 * x2 + x3 * x3) * (y1 * y1 + y2 * y2 + y3 * y3) - (x1 * y1 + x2 * y2 + x3 * y3) * (x1 * y1 + x2 * y2 + x3 * y3) := by grind
  have i4 : y2 * x3 - y3 * x2 = -(x2 * y3 - x3 * y2) := by grind
  have i5 : y3 * x1 - y1 * x3 = -(x3 * y1 - x1 * y3) := by grind
  have i6 : y1 * x2 - y2 * x1 = -(x1 * y2 - x2 * y1) := by grind
  simp only [i1] at d1
  simp only [i2] at d2
  simp only [i3] at d3
  simp only [i4, i5, i6] at cr2
  generalize x2 * y3 - x3 * y2 = c1 at *
  generalize x3 * y1 - x1 * y3 = c2 at *
  generalize x1 * y2 - x2 * y1 = c3 at *
  generalize x1 * x1 + x2 * x2 + x3 * x3 = n1 at *
  generalize y1 * y1 + y2 * y2 + y3 * y3 = n2 at *
  generalize x1 * y1 + x2 * y2 + x3 * y3 = n3 at *
  have f1 := fun S => added (A := A) (S := S) D2 Q2 (by decide)
  have f2 := fun S => less_ (A := A) (S := S) (Bd.add D2 Q2) (Q2.mono (by decide)) (by decide)
  have e3 : D0 + Q0 - Q0 = D0 := Rat.add_sub_cancel
  rw [e3] at f2
  have nr := fun S => ne_rat (S := S) D0 D0 rfl
  refine seq_ex (S' := T2) (ρ' := [s0, some (.lst r), s2, s3, s4, s5, s6, s7, s8, s9, some (toD Q0), s11, s12, s13, some (toD D0), s15, s16, s17, s18, some (.tup [.int x1, .int x2, .int x3]), some (.tup [.int y1, .int y2, .int y3]), s21, s22]) (by
    unfold t2f19
    rw [x_sPar, x_aCons, e1, bind_ok, x_aCons, e2]
    simp) ?_
  refine seq_ex (by simp [t2f20, cr]; exact ⟨rfl, rfl⟩) ?_
  refine st_same (by simp [d1, d2, cr2, d3]; exact ⟨rfl, rfl⟩) (by simp [itOf, d4, d5, d6, m1, m2]; exact ⟨rfl, rfl⟩) (EqD.lst1 (n := 4) (xs := [.int 0, .int 0, .tup [.int (-c1), .int (-c2), .int (-c3)], .int (n1 * n2 - n3 * n3)]) (by simp) (by simp) (by simp) ?_) fun g => ?_
  · intro x hx
    simp at hx
    rcases hx with rfl | rfl | rfl
    · exact .int _ _
    · refine .tup1 (by simp) fun x hx => ?_
      simp at hx
      rcases hx with rfl | rfl | rfl <;> exact .int _ _
    · exact .int _ _
  · have e : ∀ ρ T, ρ = [s0, some (.lst r), s2, s3, s4, s5, s6, s7, s8, s9, some (toD Q0), s11, s12, s13, some (toD D0), s15, s16, s17, s18, some (.tup [.int x1, .int x2, .int x3]), some (.tup [.int y1, .int y2, .int y3]), some (.tup [.int c1, .int c2, .int c3]), s22] → ∃ g, t2f22 A ρ T = .nx ρ (T ++ g) := fun ρ T e => by
      subst e
      exact ⟨_, by simp [t2f22, f1, f2, nr]; rfl⟩
    obtain ⟨g2, hg2⟩ := e _ _ rfl
    rw [hg2]
    exact k _ _ _ _ _ _ (((Tn2.app _).app g).app g2)
end
end K87
namespace K87
open PySem PySem.Spec L2 RZ Sd Sd.R
variable {A : Str → Addr} {S : Store}
theorem turn {P : SRes → Prop} {r c0 : Nat} {s0 s2 s3 s4 s5 s6 s7 s8 s9 s10 s11 s12 s13 s14 s15 s16 s17 s18 s19 s20 s21 s22 : Option D} (hA : Good A) (T0 : Tin c0 r S) (hc : c0 < 80000)
    (k : ∀ s3 s4 s5 s6 s7 s8 s9 s10 s11 s12 s13 s14 s15 s16 s17 s18 s19 s20 s21 s22 T, Tin (c0 + 16 + 6) r T → P (.nx [s0, some (.lst r), s2, s3, s4, s5, s6, s7, s8, s9, s10, s11, s12, s13, s14, s15, s16, s17, s18, s19, s20, s21, s22] T)) :
    P (sSeq (t2f1 A) (sSeq (t2f2 A) (sSeq (t2f3 A) (sSeq (t2f4 A) (sSeq (t2f5 A) (sSeq (t2f6 A) (sSeq (sFor (iOf (eVar 7)) (.nm 11) (t2f7f1 A)) (sSeq (t2f8 A) (sSeq (t2f9 A) (sSeq (t2f10 A) (sSeq (t2f11 A) (sSeq (t2f12 A) (sSeq (t2f13 A) (sSeq (t2f14 A) (sSeq (t2f15 A) (sSeq (t2f16 A) (sSeq (t2f17 A) (sSeq (t2f18 A) (sSeq (t2f19 A) (sSeq (t2f20 A) (sSeq (t2f21 A) (t2f22 A)))))))))))))))))))))
      [s0, some (.lst r), s2, s3, s4, s5, s6, s7, s8, s9, s10, s11, s12, s13, s14, s15, s16, s17, s18, s19, s20, s21, s22] S) := by
  refine b1 T0 (by omega) fun a b c d s22 S1 Ba Bb Bc Bd' T1 => ?_
  refine b2 Ba Bb Bc fun s8 g2 => ?_
  refine b3 Ba Bb fun s11 S3 E3 => ?_
  refine b4 Ba Bb fun s12 s13 S4 E4 => ?_
  refine b5 Ba Bb Bc Bd' fun s8 S5 E5 => ?_
  refine b6 Ba Bb Bc fun s15 s16 S6 E6 => ?_
  refine b7 hA Ba Bb Bc Bd' fun s8 s18 S7 E7 => ?_
  have T7 : Tin (c0 + 16) r S7 := (((((((T1.app g2).ex E3).ex E4).ex E5).ex E6).ex E7))
  refine b8 T7 (by omega) ((det_b2 Ba Bb Bc Bd').bd (by decide) (by decide)) ((sq_b2 Ba Bb).bd (by decide) (by decide)) fun s8 s11 s19 s20 s21 T8 h8 => ?_
  exact k _ _ _ _ _ _ _ _ _ _ _ _ _ _ _ _ _ _ _ _ _ h8
theorem pure (A : Str → Addr) (hA : Good A) (ns : List Int) (hl : ns.length ≤ 63) (hb : ∀ z ∈ ns, Builtin.Int.intBits z ≤ 1048576) : ∃ S, F_law A [.fz (ns.map .int)] [] = .ok (.bl true) S := by
  obtain ⟨q, v, S1, h1, h2, h3⟩ := cells_ (A := A) (S := []) hl hb
  obtain ⟨S2, h4, T⟩ := box_ (A := A) h2 h3
  unfold F_law
  rw [fn_ev]
  unfold b_law
  refine seq_ex (P := fun r => ∃ S, r.res = .ok (.bl true) S) (by simp [st0, h1, h4]; exact ⟨rfl, rfl⟩) ?_
  refine seq_for (P := fun r => ∃ S, r.res = .ok (.bl true) S) (a := itRng 0 3) (xs := [.int 0, .int 1, .int 2]) (S1 := S2)
    (fun i ρ T => (∃ s2 s3 s4 s5 s6 s7 s8 s9 s10 s11 s12 s13 s14 s15 s16 s17 s18 s19 s20 s21 s22, ρ = [some (.fz (ns.map .int)), some (.lst S1.length), s2, s3, s4, s5, s6, s7, s8, s9, s10, s11, s12, s13, s14, s15, s16, s17, s18, s19, s20, s21, s22]) ∧ Tin (22 * i) S1.length T)
    (by simp [Sd.iRng1]) (by simp [fuel]) ⟨⟨_, _, _, _, _, _, _, _, _, _, _, _, _, _, _, _, _, _, _, _, _, rfl⟩, T⟩ (fun i ρ T _ => ?_) ?_ ?_
  · unfold itRng
    match i with
    | 0 => rfl
    | 1 => rfl
    | 2 => rfl
    | i + 3 => simp
  · rintro i d ρ T hi ⟨⟨s2, s3, s4, s5, s6, s7, s8, s9, s10, s11, s12, s13, s14, s15, s16, s17, s18, s19, s20, s21, s22, rfl⟩, T0⟩
    have hi4 : i < 3 := (List.getElem?_eq_some_iff.mp hi).1
    refine ⟨_, nb_nm, ?_⟩
    refine turn (A := A) (P := fun r => ∃ ρ2 S2, r = .nx ρ2 S2 ∧ (∃ s2 s3 s4 s5 s6 s7 s8 s9 s10 s11 s12 s13 s14 s15 s16 s17 s18 s19 s20 s21 s22, ρ2 = [some (.fz (ns.map .int)), some (.lst S1.length), s2, s3, s4, s5, s6, s7, s8, s9, s10, s11, s12, s13, s14, s15, s16, s17, s18, s19, s20, s21, s22]) ∧ Tin (22 * (i + 1)) S1.length S2) (s2 := some d) hA T0 (by omega) fun s3 s4 s5 s6 s7 s8 s9 s10 s11 s12 s13 s14 s15 s16 s17 s18 s19 s20 s21 s22 S' T1 => ?_
    exact ⟨_, _, rfl, ⟨_, _, _, _, _, _, _, _, _, _, _, _, _, _, _, _, _, _, _, _, _, rfl⟩, T1⟩
  · rintro ρ T ⟨⟨s2, s3, s4, s5, s6, s7, s8, s9, s10, s11, s12, s13, s14, s15, s16, s17, s18, s19, s20, s21, s22, rfl⟩, T0⟩
    exact ⟨T, rfl⟩
end K87
open PySem PySem.W PyProof.Rows in
set_option maxRecDepth 100000 in
set_option maxHeartbeats 0 in
theorem PySem.Challenge.cw_solidseen_k87_across_points_planes_and_v_holds : PySem.Challenge.rw_solidseen_k87_across_points_planes_and_v.Holds := by
  w_on; o_law; k_head; (case hw => w_witness2)
  k_fill
  refine Sd.walk_law (l := PySem.Challenge.rw_solidseen_k87_across_points_planes_and_v) (k := 9) rfl rfl ⟨rfl, by decide, by decide⟩ (fun w h Y => PySem.W.kIn_of Y) ?F
  case F =>
    intro w mg fa h KX G hmg
    refine' K87.all_mk KX G hmg K87.pure ?a_is_number ?l_is_number ?c_is_number ?k_is_number ?a_is_from ?l_is_from ?c_is_from ?k_is_from ?a_is_long ?l_is_long ?c_is_long ?k_is_long ?a_tupled ?l_tupled ?c_tupled ?k_tupled ?a_is_row ?l_is_row ?c_is_row ?k_is_row ?a_divisor ?l_divisor ?c_divisor ?k_divisor ?a_is_fraction ?l_is_fraction ?c_is_fraction ?k_is_fraction ?a_sure_fraction ?l_sure_fraction ?c_sure_fraction ?k_sure_fraction ?a_made ?l_made ?c_made ?k_made ?a_two ?l_two ?c_two ?k_two ?a_added ?l_added ?c_added ?k_added ?a_less ?l_less ?c_less ?k_less ?a_times ?l_times ?c_times ?k_times ?a_compared ?l_compared ?c_compared ?k_compared ?a_is_point ?l_is_point ?c_is_point ?k_is_point ?a_is_direction ?l_is_direction ?c_is_direction ?k_is_direction ?a_is_ray ?l_is_ray ?c_is_ray ?k_is_ray ?a_sure_point ?l_sure_point ?c_sure_point ?k_sure_point ?a_sure_direction ?l_sure_direction ?c_sure_direction ?k_sure_direction ?a_sure_ray ?l_sure_ray ?c_sure_ray ?k_sure_ray ?a_parted ?l_parted ?c_parted ?k_parted ?a_spot ?l_spot ?c_spot ?k_spot ?a_point ?l_point ?c_point ?k_point ?a_place ?l_place ?c_place ?k_place ?a_cross ?l_cross ?c_cross ?k_cross ?a_dot ?l_dot ?c_dot ?k_dot ?a_least_direction ?l_least_direction ?c_least_direction ?k_least_direction ?a_way_between ?l_way_between ?c_way_between ?k_way_between ?a_direction_between ?l_direction_between ?c_direction_between ?k_direction_between ?a_moved_by ?l_moved_by ?c_moved_by ?k_moved_by ?a_half_way ?l_half_way ?c_half_way ?k_half_way ?a_square_between ?l_square_between ?c_square_between ?k_square_between ?a_place_at ?l_place_at ?c_place_at ?k_place_at ?a_time_of ?l_time_of ?c_time_of ?k_time_of ?a_upright ?l_upright ?c_upright ?k_upright ?a_on_one_line ?l_on_one_line ?c_on_one_line ?k_on_one_line ?a_plane_through ?l_plane_through ?c_plane_through ?k_plane_through ?a_sixfold ?l_sixfold ?c_sixfold ?k_sixfold ?a_is_wall ?l_is_wall ?c_is_wall ?k_is_wall ?a_sure_wall ?l_sure_wall ?c_sure_wall ?k_sure_wall ?a_are_values ?l_are_values ?c_are_values ?k_are_values ?a_sure_values ?l_sure_values ?c_sure_values ?k_sure_values ?a_sure_case ?l_sure_case ?c_sure_case ?k_sure_case ?a_other_side ?l_other_side ?c_other_side ?k_other_side ?a_contrary ?l_contrary ?c_contrary ?k_contrary ?a_sum_at ?l_sum_at ?c_sum_at ?k_sum_at ?a_beyond ?l_beyond ?c_beyond ?k_beyond ?a_side_in ?l_side_in ?c_side_in ?k_side_in ?a_side ?l_side ?c_side ?k_side ?a__law_box ?l__law_box ?c__law_box ?k__law_box ?a__law_take ?l__law_take ?c__law_take ?k__law_take ?a__law_cells ?l__law_cells ?c__law_cells ?k__law_cells ?a__law_same ?l__law_same ?c__law_same ?k__law_same ?a__law_least ?l__law_least ?c__law_least ?k__law_least ?a__law_spot ?l__law_spot ?c__law_spot ?k__law_spot ?a__law_low ?l__law_low ?c__law_low ?k__law_low ?a__law_times ?l__law_times ?c__law_times ?k__law_times ?a__law_call ?l__law_call ?c__law_call ?k__law_call ?a__law_plus ?l__law_plus ?c__law_plus ?k__law_plus ?a__law_minus ?l__law_minus ?c__law_minus ?k__law_minus ?a__law_heard ?l__law_heard ?c__law_heard ?k__law_heard ?a__law_way ?l__law_way ?c__law_way ?k__law_way ?a__law_six ?l__law_six ?c__law_six ?k__law_six ?a_law ?l_law ?c_law ?k_law ?a_CanNot ?e_CanNot ?k_CanNot ?b_CanNot ?t_CanNot ?a_Flat ?e_Flat ?k_Flat ?b_Flat ?t_Flat ?a_Unfit ?e_Unfit ?k_Unfit ?b_Unfit ?t_Unfit ?m_CanNot ?v_CanNot ?p1_CanNot ?p2_CanNot ?p3_CanNot ?p4_CanNot ?p5_CanNot ?p6 ?p7 ?m_Flat ?v_Flat ?p1_Flat ?p2_Flat ?p3_Flat ?p4_Flat ?p5_Flat ?m_Flat_CanNot ?ne_Flat_CanNot ?z_ValueError ?z_abs ?z_all ?z_any ?z_bool ?z_enumerate ?z_int ?z_isinstance ?z_len ?z_list ?z_range ?z_str ?z_tuple ?z_zip ?z_gcd ?hnd
    (case a_is_number => k_is)
    (case l_is_number => k_is)
    (case c_is_number => k_is)
    (case k_is_number => k_is)
    (case a_is_from => k_is)
    (case l_is_from => k_is)
    (case c_is_from => k_is)
    (case k_is_from => k_is)
    (case a_is_long => k_is)
    (case l_is_long => k_is)
    (case c_is_long => k_is)
    (case k_is_long => k_is)
    (case a_tupled => k_is)
    (case l_tupled => k_is)
    (case c_tupled => k_is)
    (case k_tupled => k_is)
    (case a_is_row => k_is)
    (case l_is_row => k_is)
    (case c_is_row => k_is)
    (case k_is_row => k_is)
    (case a_divisor => k_is)
    (case l_divisor => k_is)
    (case c_divisor => k_is)
    (case k_divisor => k_is)
    (case a_is_fraction => k_is)
    (case l_is_fraction => k_is)
    (case c_is_fraction => k_is)
    (case k_is_fraction => k_is)
    (case a_sure_fraction => k_is)
    (case l_sure_fraction => k_is)
    (case c_sure_fraction => k_is)
    (case k_sure_fraction => k_is)
    (case a_made => k_is)
    (case l_made => k_is)
    (case c_made => k_is)
    (case k_made => k_is)
    (case a_two => k_is)
    (case l_two => k_is)
    (case c_two => k_is)
    (case k_two => k_is)
    (case a_added => k_is)
    (case l_added => k_is)
    (case c_added => k_is)
    (case k_added => k_is)
    (case a_less => k_is)
    (case l_less => k_is)
    (case c_less => k_is)
    (case k_less => k_is)
    (case a_times => k_is)
    (case l_times => k_is)
    (case c_times => k_is)
    (case k_times => k_is)
    (case a_compared => k_is)
    (case l_compared => k_is)
    (case c_compared => k_is)
    (case k_compared => k_is)
    (case a_is_point => k_is)
    (case l_is_point => k_is)
    (case c_is_point => k_is)
    (case k_is_point => k_is)
    (case a_is_direction => k_is)
    (case l_is_direction => k_is)
    (case c_is_direction => k_is)
    (case k_is_direction => k_is)
    (case a_is_ray => k_is)
    (case l_is_ray => k_is)
    (case c_is_ray => k_is)
    (case k_is_ray => k_is)
    (case a_sure_point => k_is)
    (case l_sure_point => k_is)
    (case c_sure_point => k_is)
    (case k_sure_point => k_is)
    (case a_sure_direction => k_is)
    (case l_sure_direction => k_is)
    (case c_sure_direction => k_is)
    (case k_sure_direction => k_is)
    (case a_sure_ray => k_is)
    (case l_sure_ray => k_is)
    (case c_sure_ray => k_is)
    (case k_sure_ray => k_is)
    (case a_parted => k_is)
    (case l_parted => k_is)
    (case c_parted => k_is)
    (case k_parted => k_is)
    (case a_spot => k_is)
    (case l_spot => k_is)
    (case c_spot => k_is)
    (case k_spot => k_is)
    (case a_point => k_is)
    (case l_point => k_is)
    (case c_point => k_is)
    (case k_point => k_is)
    (case a_place => k_is)
    (case l_place => k_is)
    (case c_place => k_is)
    (case k_place => k_is)
    (case a_cross => k_is)
    (case l_cross => k_is)
    (case c_cross => k_is)
    (case k_cross => k_is)
    (case a_dot => k_is)
    (case l_dot => k_is)
    (case c_dot => k_is)
    (case k_dot => k_is)
    (case a_least_direction => k_is)
    (case l_least_direction => k_is)
    (case c_least_direction => k_is)
    (case k_least_direction => k_is)
    (case a_way_between => k_is)
    (case l_way_between => k_is)
    (case c_way_between => k_is)
    (case k_way_between => k_is)
    (case a_direction_between => k_is)
    (case l_direction_between => k_is)
    (case c_direction_between => k_is)
    (case k_direction_between => k_is)
    (case a_moved_by => k_is)
    (case l_moved_by => k_is)
    (case c_moved_by => k_is)
    (case k_moved_by => k_is)
    (case a_half_way => k_is)
    (case l_half_way => k_is)
    (case c_half_way => k_is)
    (case k_half_way => k_is)
    (case a_square_between => k_is)
    (case l_square_between => k_is)
    (case c_square_between => k_is)
    (case k_square_between => k_is)
    (case a_place_at => k_is)
    (case l_place_at => k_is)
    (case c_place_at => k_is)
    (case k_place_at => k_is)
    (case a_time_of => k_is)
    (case l_time_of => k_is)
    (case c_time_of => k_is)
    (case k_time_of => k_is)
    (case a_upright => k_is)
    (case l_upright => k_is)
    (case c_upright => k_is)
    (case k_upright => k_is)
    (case a_on_one_line => k_is)
    (case l_on_one_line => k_is)
    (case c_on_one_line => k_is)
    (case k_on_one_line => k_is)
    (case a_plane_through => k_is)
    (case l_plane_through => k_is)
    (case c_plane_through => k_is)
    (case k_plane_through => k_is)
    (case a_sixfold => k_is)
    (case l_sixfold => k_is)
    (case c_sixfold => k_is)
    (case k_sixfold => k_is)
    (case a_is_wall => k_is)
    (case l_is_wall => k_is)
    (case c_is_wall => k_is)
    (case k_is_wall => k_is)
    (case a_sure_wall => k_is)
    (case l_sure_wall => k_is)
    (case c_sure_wall => k_is)
    (case k_sure_wall => k_is)
    (case a_are_values => k_is)
    (case l_are_values => k_is)
    (case c_are_values => k_is)
    (case k_are_values => k_is)
    (case a_sure_values => k_is)
    (case l_sure_values => k_is)
    (case c_sure_values => k_is)
    (case k_sure_values => k_is)
    (case a_sure_case => k_is)
    (case l_sure_case => k_is)
    (case c_sure_case => k_is)
    (case k_sure_case => k_is)
    (case a_other_side => k_is)
    (case l_other_side => k_is)
    (case c_other_side => k_is)
    (case k_other_side => k_is)
    (case a_contrary => k_is)
    (case l_contrary => k_is)
    (case c_contrary => k_is)
    (case k_contrary => k_is)
    (case a_sum_at => k_is)
    (case l_sum_at => k_is)
    (case c_sum_at => k_is)
    (case k_sum_at => k_is)
    (case a_beyond => k_is)
    (case l_beyond => k_is)
    (case c_beyond => k_is)
    (case k_beyond => k_is)
    (case a_side_in => k_is)
    (case l_side_in => k_is)
    (case c_side_in => k_is)
    (case k_side_in => k_is)
    (case a_side => k_is)
    (case l_side => k_is)
    (case c_side => k_is)
    (case k_side => k_is)
    (case a__law_box => k_is)
    (case l__law_box => k_is)
    (case c__law_box => k_is)
    (case k__law_box => k_is)
    (case a__law_take => k_is)
    (case l__law_take => k_is)
    (case c__law_take => k_is)
    (case k__law_take => k_is)
    (case a__law_cells => k_is)
    (case l__law_cells => k_is)
    (case c__law_cells => k_is)
    (case k__law_cells => k_is)
    (case a__law_same => k_is)
    (case l__law_same => k_is)
    (case c__law_same => k_is)
    (case k__law_same => k_is)
    (case a__law_least => k_is)
    (case l__law_least => k_is)
    (case c__law_least => k_is)
    (case k__law_least => k_is)
    (case a__law_spot => k_is)
    (case l__law_spot => k_is)
    (case c__law_spot => k_is)
    (case k__law_spot => k_is)
    (case a__law_low => k_is)
    (case l__law_low => k_is)
    (case c__law_low => k_is)
    (case k__law_low => k_is)
    (case a__law_times => k_is)
    (case l__law_times => k_is)
    (case c__law_times => k_is)
    (case k__law_times => k_is)
    (case a__law_call => k_is)
    (case l__law_call => k_is)
    (case c__law_call => k_is)
    (case k__law_call => k_is)
    (case a__law_plus => k_is)
    (case l__law_plus => k_is)
    (case c__law_plus => k_is)
    (case k__law_plus => k_is)
    (case a__law_minus => k_is)
    (case l__law_minus => k_is)
    (case c__law_minus => k_is)
    (case k__law_minus => k_is)
    (case a__law_heard => k_is)
    (case l__law_heard => k_is)
    (case c__law_heard => k_is)
    (case k__law_heard => k_is)
    (case a__law_way => k_is)
    (case l__law_way => k_is)
    (case c__law_way => k_is)
    (case k__law_way => k_is)
    (case a__law_six => k_is)
    (case l__law_six => k_is)
    (case c__law_six => k_is)
    (case k__law_six => k_is)
    (case a_law => k_is)
    (case l_law => k_is)
    (case c_law => k_is)
    (case k_law => k_is)
    (case a_CanNot => k_is)
    (case e_CanNot => k_exc)
    (case k_CanNot => k_is)
    (case b_CanNot => k_is)
    (case t_CanNot => k_is)
    (case a_Flat => k_is)
    (case e_Flat => k_exc)
    (case k_Flat => k_is)
    (case b_Flat => k_is)
    (case t_Flat => k_is)
    (case a_Unfit => k_is)
    (case e_Unfit => k_exc)
    (case k_Unfit => k_is)
    (case b_Unfit => k_is)
    (case t_Unfit => k_is)
    (case m_CanNot => first | rfl | k_is)
    (case v_CanNot => k_is)
    (case p1_CanNot => k_is)
    (case p2_CanNot => k_is)
    (case p3_CanNot => k_is)
    (case p4_CanNot => k_is)
    (case p5_CanNot => k_is)
    (case p6 => k_is)
    (case p7 => k_is)
    (case m_Flat => first | rfl | k_is)
    (case v_Flat => k_is)
    (case p1_Flat => k_is)
    (case p2_Flat => k_is)
    (case p3_Flat => k_is)
    (case p4_Flat => k_is)
    (case p5_Flat => k_is)
    (case m_Flat_CanNot => k_is)
    (case ne_Flat_CanNot => decide)
    (case z_ValueError => k_is)
    (case z_abs => k_is)
    (case z_all => k_is)
    (case z_any => k_is)
    (case z_bool => k_is)
    (case z_enumerate => k_is)
    (case z_int => k_is)
    (case z_isinstance => k_is)
    (case z_len => k_is)
    (case z_list => k_is)
    (case z_range => k_is)
    (case z_str => k_is)
    (case z_tuple => k_is)
    (case z_zip => k_is)
    (case z_gcd => k_is)
    (case hnd => decide)
#print axioms PySem.Challenge.cw_solidseen_k87_across_points_planes_and_v_holds
