import PyProof.Rows.All
import Wide.All
import OpenK.AllK
import Wide.FinOn
import HandS.ForMost
import HandS.ForExc
import HandS.CallSlots
import HandS.ExcInit
import HandS.ExcField
import HandS.ExcIs
import HandS.ExcValue
import KE.KExcSuper
import HandS.Flow
import HandS.TryOnly
import HandS.Style
import HandS.Wide
import HandS.IsInst
import HandS.Replace
import HandS.RaiseMore
import HandS.TupMul
import PySem.Challenge.RW_wholeoverlaps_k01_numbers_of_fields
set_option Elab.async false
set_option linter.all false
set_option maxRecDepth 100000
set_option maxHeartbeats 4000000
/-! Fw1: values as plain data, environments, outcomes; what they say of the abstract heap. -/
namespace Fw
open PySem PySem.Spec PyProof.Rows L2
abbrev St := L2.St

abbrev Wd := List Nat
/-- a text by its signs -/
def st (x : Wd) : Str := ⟨x.toArray⟩
theorem st_toList (x : Wd) : (st x).cps.toList = x := by simp [st]
theorem st_len (x : Wd) : (st x).length = x.length := by simp [st, Str.length]
theorem st_of (x : Str) : st x.cps.toList = x := by cases x; simp [st]
theorem st_inj {x y : Wd} (h : st x = st y) : x = y := by rw [← st_toList x, h, st_toList]
theorem st_append (x y : Wd) : st x ++ st y = st (x ++ y) := by
  have h : (st x ++ st y).cps.toList = x ++ y := by
    have := TL.tl_append (st x) (st y)
    simpa [TL.tl, st_toList] using this
  rw [← st_of (st x ++ st y), h]

/-- plain data -/
inductive Dt where
  | non | bl (b : Bool) | int (i : Int) | str (x : Wd) | tup (xs : List Dt) | lst (xs : List Dt) | exo (c : Str) (d : Dt)

/-- an exception of the class at C, its dict at dx -/
def xo (a C dx : Addr) : HO := .ext fun h => ∃ oe vs, h.get? a = some oe ∧ oe.cls = .ref C ∧ oe.dict = some dx ∧ oe.data = .fields vs
/-- the class's name -/
def clsNm (K : PySem.W.Frag) (C : Addr) : Option Str := (PySem.W.clsIn K C).map (·.name)

mutual
def Rep (K : PySem.W.Frag) (F : Hp) : Dt → V → Prop
  | .non, v => v = .non
  | .bl b, v => v = .bl b
  | .int i, v => v = .int i
  | .str x, v => v = .str (st x)
  | .tup ds, v => ∃ a xs, v = .ref a ∧ SqT K F a xs ∧ Reps K F ds xs
  | .lst ds, v => ∃ a xs, v = .ref a ∧ F a = some (.lst xs) ∧ Reps K F ds xs
  | .exo c d, v => ∃ a C dx vv, v = .ref a ∧ clsNm K C = some c ∧ F a = some (xo a C dx) ∧ F dx = some (.xd [("value", vv)]) ∧ Rep K F d vv
def Reps (K : PySem.W.Frag) (F : Hp) : List Dt → List V → Prop
  | [], xs => xs = []
  | d :: ds, xs => ∃ v r, xs = v :: r ∧ Rep K F d v ∧ Reps K F ds r
end

theorem Same.seqT {K : PySem.W.Frag} {H H' : Hp} {a : Addr} {xs : List V} (e : Same H H') (h : SqT K H a xs) : SqT K H' a xs := by
  rcases h with (h | ⟨o, h⟩) | h
  · exact .inl (.inl (e _ _ h))
  · exact .inl (.inr ⟨o, e _ _ h⟩)
  · exact .inr h

mutual
theorem Rep.mono {K : PySem.W.Frag} {F F' : Hp} (s : Same F F') : ∀ (d : Dt) (v : V), Rep K F d v → Rep K F' d v
  | .non, v, h => h
  | .bl _, v, h => h
  | .int _, v, h => h
  | .str _, v, h => h
  | .tup ds, v, ⟨a, xs, e, q, r⟩ => ⟨a, xs, e, Same.seqT s q, Reps.mono s ds xs r⟩
  | .lst ds, v, ⟨a, xs, e, q, r⟩ => ⟨a, xs, e, s _ _ q, Reps.mono s ds xs r⟩
  | .exo c d, v, ⟨a, C, dx, vv, e, n, q, q2, r⟩ => ⟨a, C, dx, vv, e, n, s _ _ q, s _ _ q2, Rep.mono s d vv r⟩
theorem Reps.mono {K : PySem.W.Frag} {F F' : Hp} (s : Same F F') : ∀ (ds : List Dt) (xs : List V), Reps K F ds xs → Reps K F' ds xs
  | [], xs, h => h
  | d :: ds, xs, ⟨v, r, e, q, t⟩ => ⟨v, r, e, Rep.mono s d v q, Reps.mono s ds r t⟩
end

section
variable {K : PySem.W.Frag} {F F' H H' : Hp}
theorem Reps.length : ∀ {ds : List Dt} {xs : List V}, Reps K F ds xs → ds.length = xs.length
  | [], xs, h => by have h : xs = [] := h; subst h; rfl
  | d :: ds, xs, ⟨v, r, e, q, t⟩ => by rw [e, List.length_cons, List.length_cons, Reps.length t]
theorem Reps.get : ∀ {ds : List Dt} {xs : List V} {i : Nat} {d : Dt}, Reps K F ds xs → ds[i]? = some d → ∃ v, xs[i]? = some v ∧ Rep K F d v
  | [], xs, i, d, h, e => by simp at e
  | d :: ds, xs, 0, d', ⟨v, r, e, q, t⟩, h => by
    simp at h; subst h; subst e
    exact ⟨v, rfl, q⟩
  | d :: ds, xs, i + 1, d', ⟨v, r, e, q, t⟩, h => by
    subst e
    simpa using Reps.get (i := i) t (by simpa using h)
theorem Reps.get' : ∀ {ds : List Dt} {xs : List V} {i : Nat} {v : V}, Reps K F ds xs → xs[i]? = some v → ∃ d, ds[i]? = some d ∧ Rep K F d v
  | [], xs, i, d, h, e => by have h : xs = [] := h; subst h; simp at e
  | d :: ds, xs, 0, v', ⟨v, r, e, q, t⟩, h => by
    subst e; simp at h; subst h
    exact ⟨d, rfl, q⟩
  | d :: ds, xs, i + 1, v', ⟨v, r, e, q, t⟩, h => by
    subst e
    simpa using Reps.get' (i := i) t (by simpa using h)
theorem Reps.append : ∀ {ds es : List Dt} {xs ys : List V}, Reps K F ds xs → Reps K F es ys → Reps K F (ds ++ es) (xs ++ ys)
  | [], es, xs, ys, h, g => by have h : xs = [] := h; subst h; exact g
  | d :: ds, es, xs, ys, ⟨v, r, e, q, t⟩, g => by subst e; exact ⟨v, r ++ ys, rfl, q, Reps.append t g⟩
theorem Reps.nil : Reps K F [] [] := rfl
theorem Reps.cons {d : Dt} {ds : List Dt} {v : V} {r : List V} (q : Rep K F d v) (t : Reps K F ds r) : Reps K F (d :: ds) (v :: r) := ⟨v, r, rfl, q, t⟩
theorem Reps.one {d : Dt} {v : V} (q : Rep K F d v) : Reps K F [d] [v] := .cons q .nil
theorem Reps.take : ∀ {ds : List Dt} {xs : List V} (n : Nat), Reps K F ds xs → Reps K F (ds.take n) (xs.take n)
  | _, _, 0, _ => rfl
  | [], xs, n + 1, h => by have h : xs = [] := h; subst h; rfl
  | d :: ds, xs, n + 1, ⟨v, r, e, q, t⟩ => by subst e; exact ⟨v, r.take n, rfl, q, Reps.take n t⟩
theorem Reps.drop : ∀ {ds : List Dt} {xs : List V} (n : Nat), Reps K F ds xs → Reps K F (ds.drop n) (xs.drop n)
  | _, _, 0, h => h
  | [], xs, n + 1, h => by have h : xs = [] := h; subst h; rfl
  | d :: ds, xs, n + 1, ⟨v, r, e, q, t⟩ => by subst e; exact Reps.drop n t
theorem Reps.set : ∀ {ds : List Dt} {xs : List V} (i : Nat) {d : Dt} {v : V}, Rep K F d v → Reps K F ds xs → Reps K F (ds.set i d) (xs.set i v)
  | [], xs, i, d, v, _, h => by have h : xs = [] := h; subst h; rfl
  | d :: ds, xs, 0, d', v', q', ⟨v, r, e, q, t⟩ => by subst e; exact ⟨v', r, rfl, q', t⟩
  | d :: ds, xs, i + 1, d', v', q', ⟨v, r, e, q, t⟩ => by subst e; exact ⟨v, r.set i v', rfl, q, Reps.set i q' t⟩
theorem Reps.ints : ∀ (ns : List Int), Reps K F (ns.map Dt.int) (ns.map V.int)
  | [] => rfl
  | n :: ns => ⟨.int n, ns.map V.int, rfl, rfl, Reps.ints ns⟩
theorem Reps.of_all : ∀ {ds : List Dt} {xs : List V}, ds.length = xs.length → (∀ (i : Nat) d v, ds[i]? = some d → xs[i]? = some v → Rep K F d v) → Reps K F ds xs
  | [], [], _, _ => rfl
  | d :: ds, v :: xs, hl, h => ⟨v, xs, rfl, h 0 d v rfl rfl, Reps.of_all (by simpa using hl) fun i d' v' e1 e2 => h (i + 1) d' v' (by simpa using e1) (by simpa using e2)⟩
  | [], _ :: _, hl, _ => by simp at hl
  | _ :: _, [], hl, _ => by simp at hl
end

/-- a slot: nothing told, a value for good, a list of one's own -/
inductive Sl where
  | un | val (d : Dt) | own (ds : List Dt) | scr (ns : List Int)
abbrev En := List Sl

def SlOk (K : PySem.W.Frag) (F H : Hp) : Sl → Option V → Prop
  | .un, _ => True
  | .val d, o => ∃ v, o = some v ∧ Rep K F d v
  | .own ds, o => ∃ a xs, o = some (.ref a) ∧ H a = some (.lst xs) ∧ F a = none ∧ Reps K F ds xs
  | .scr ns, o => ∃ a, o = some (.ref a) ∧ SqL K F a (ns.map V.int)

/-- the addresses of one's own lists -/
def Own (en : En) (σ : St) (a : Addr) : Prop := ∃ (i : Nat) (ds : List Dt), en[i]? = some (.own ds) ∧ σ[i]? = some (some (.ref a))

structure Rel (K : PySem.W.Frag) (F H : Hp) (en : En) (σ : St) : Prop where
  sub : Same F H
  len : en.length = σ.length
  ok : ∀ (i : Nat) s o, en[i]? = some s → σ[i]? = some o → SlOk K F H s o
  ne : ∀ (i j : Nat) ds es a, en[i]? = some (.own ds) → en[j]? = some (.own es) → σ[i]? = some (some (.ref a)) → σ[j]? = some (some (.ref a)) → i = j

structure Post (F H : Hp) (A : Addr → Prop) (F' H' : Hp) (A' : Addr → Prop) : Prop where
  sub : Same F F'
  keep : ∀ b o, H b = some o → ¬ A b → H' b = some o
  there : ∀ b, H' b = none → H b = none
  frz : ∀ b o, F' b = some o → F b = some o ∨ H b = none ∨ A b
  own : ∀ b, A' b → A b ∨ H b = none

section
variable {K : PySem.W.Frag} {F F' F'' H H' H'' : Hp} {A A' A'' : Addr → Prop} {en en' : En} {σ σ' : St}
theorem Post.refl : Post F H A F H A := ⟨Same.refl _, fun _ _ h _ => h, fun _ h => h, fun _ _ h => .inl h, fun _ h => .inl h⟩
theorem Post.trans (p : Post F H A F' H' A') (q : Post F' H' A' F'' H'' A'') : Post F H A F'' H'' A'' := by
  refine ⟨p.sub.trans q.sub, fun b o h n => ?_, fun b h => p.there b (q.there b h), fun b o h => ?_, fun b h => ?_⟩
  · refine q.keep b o (p.keep b o h n) fun z => ?_
    rcases p.own b z with z | z
    · exact n z
    · rw [h] at z; cases z
  · rcases q.frz b o h with z | z | z
    · exact p.frz b o z
    · exact .inr (.inl (p.there b z))
    · rcases p.own b z with z | z
      · exact .inr (.inr z)
      · exact .inr (.inl z)
  · rcases q.own b h with z | z
    · exact p.own b z
    · exact .inr (p.there b z)

/-- new things alone -/
structure Grow (F H F' H' : Hp) : Prop where
  sub : Same F F'
  keep : Same H H'
  in' : Same F' H'
  frz : ∀ b o, F' b = some o → F b = some o ∨ H b = none
theorem Grow.refl (s : Same F H) : Grow F H F H := ⟨Same.refl _, Same.refl _, s, fun _ _ h => .inl h⟩
theorem Grow.trans (p : Grow F H F' H') (q : Grow F' H' F'' H'') : Grow F H F'' H'' := ⟨p.sub.trans q.sub, p.keep.trans q.keep, q.in', fun b o h => by
  rcases q.frz b o h with z | z
  · exact p.frz b o z
  · exact .inr (p.keep.free z)⟩
theorem Grow.post (g : Grow F H F' H') : Post F H A F' H' A := ⟨g.sub, fun b o h _ => g.keep b o h, fun b h => g.keep.free h, fun b o h => (g.frz b o h).imp id .inl, fun _ h => .inl h⟩
theorem SlOk.grow {s : Sl} {o : Option V} (g : Grow F H F' H') (h : SlOk K F H s o) : SlOk K F' H' s o := by
  cases s with
  | un => trivial
  | val d => obtain ⟨v, e, r⟩ := h; exact ⟨v, e, Rep.mono g.sub _ _ r⟩
  | scr ns => obtain ⟨a, e, r⟩ := h; exact ⟨a, e, g.sub.seq r⟩
  | own ds =>
    obtain ⟨a, xs, e, h1, h2, r⟩ := h
    refine ⟨a, xs, e, g.keep _ _ h1, ?_, Reps.mono g.sub _ _ r⟩
    cases q : F' a with
    | none => rfl
    | some u =>
      rcases g.frz a u q with z | z
      · rw [h2] at z; cases z
      · rw [h1] at z; cases z
theorem Rel.grow (g : Grow F H F' H') (r : Rel K F H en σ) : Rel K F' H' en σ := ⟨g.in', r.len, fun i s o h1 h2 => (r.ok i s o h1 h2).grow g, r.ne⟩
end
theorem same_new {H : Hp} {p : Addr} {o : HO} (h : H p = none) : Same H (upd H p o) := fun b x e => by
  rw [upd_ne (ne_of_none e h)]
  exact e
theorem same_upd2 {F H : Hp} {p : Addr} {o : HO} (s : Same F H) : Same (upd F p o) (upd H p o) := fun b x e => by
  by_cases hb : b = p
  · subst hb; rw [upd_same] at e ⊢; exact e
  · rw [upd_ne hb] at e ⊢; exact s _ _ e
/-- a new tracked thing, for good -/
theorem grow_frz {F H : Hp} {p : Addr} {o : HO} (s : Same F H) (n : H p = none) : Grow F H (upd F p o) (upd H p o) :=
  ⟨same_new (s.free n), same_new n, same_upd2 s, fun b u e => by
    by_cases hb : b = p
    · subst hb; exact .inr n
    · rw [upd_ne hb] at e; exact .inl e⟩
/-- a new tracked thing, one's own -/
theorem grow_own {F H : Hp} {p : Addr} {o : HO} (s : Same F H) (n : H p = none) : Grow F H F (upd H p o) :=
  ⟨Same.refl _, same_new n, s.trans (same_new n), fun b u e => .inl e⟩

/-- an expression's outcome -/
inductive Out (α : Type) where
  | ok (a : α) (en : En) | exc (c : Str) (d : Dt) (en : En) | stuck
abbrev M (α : Type) := En → Out α
/-- what an expression hands on: data, what stands in a slot, a new list -/
inductive Res where
  | dat (d : Dt) | slt (i : Nat) | new (ds : List Dt)
def ResOk (K : PySem.W.Frag) (F H : Hp) (en : En) (σ : St) (v : V) : Res → Prop
  | .dat d => Rep K F d v
  | .slt i => σ[i]? = some (some v)
  | .new ds => ∃ a xs, v = .ref a ∧ H a = some (.lst xs) ∧ F a = none ∧ ¬ Own en σ a ∧ Reps K F ds xs

/-- a new list is newer than H -/
def Fresh (H : Hp) (v : V) : Res → Prop
  | .new _ => ∀ a, v = .ref a → H a = none
  | _ => True

/-- an exception's own class, its dict -/
def ExcOk (K : PySem.W.Frag) (mg : Str → Option Value) (F H : Hp) (cls : Value) (dx : Option Addr) (c : Str) (d : Dt) : Prop :=
  ∃ C dd v, clsNm K C = some c ∧ cls = .ref C ∧ dx = some dd ∧ F dd = some (.xd [("value", v)]) ∧ Rep K F d v

/-- what is wanted behind an outcome -/
def OutOk {α : Type} (K : PySem.W.Frag) (mg : Str → Option Value) (W : WX) (F H : Hp) (en : En) (σ : St) (o : Out α) (P : Hp → Hp → En → α → Prop) : Prop :=
  match o with
  | .ok r en' => ∀ F' H', Rel K F' H' en' σ → Post F H (Own en σ) F' H' (Own en' σ) → P F' H' en' r
  | .exc c d en' => ∀ cls dx F' H', Rel K F' H' en' σ → Post F H (Own en σ) F' H' (Own en' σ) → ExcOk K mg F' H' cls dx c d → W cls dx σ H'
  | .stuck => False
def tE (K : PySem.W.Frag) (mg : Str → Option Value) (W : WX) (m : M Res) : TE := fun σ H Q => ∃ F en, Rel K F H en σ ∧
  OutOk K mg W F H en σ (m en) fun F' H' en' r => ∀ v, ResOk K F' H' en' σ v r → Fresh H v r → Q v H'
def tV (K : PySem.W.Frag) (mg : Str → Option Value) (W : WX) (m : M Dt) : TE := fun σ H Q => ∃ F en, Rel K F H en σ ∧
  OutOk K mg W F H en σ (m en) fun F' H' en' d => ∀ v, Rep K F' d v → Q v H'
def tT (K : PySem.W.Frag) (mg : Str → Option Value) (W : WX) (m : M Bool) : TT := fun σ H Q => ∃ F en, Rel K F H en σ ∧
  OutOk K mg W F H en σ (m en) fun F' H' en' b => Q b H'
def tVs (K : PySem.W.Frag) (mg : Str → Option Value) (W : WX) (m : M (List Dt)) : TA := fun σ H Q => ∃ F en, Rel K F H en σ ∧
  OutOk K mg W F H en σ (m en) fun F' H' en' ds => ∀ vs, Reps K F' ds vs → Q vs H'
def RsOk (K : PySem.W.Frag) (F H : Hp) (en : En) (σ : St) : List Res → List V → Prop
  | [], vs => vs = []
  | r :: rs, vs => ∃ v t, vs = v :: t ∧ (∀ ds, r ≠ .new ds) ∧ ResOk K F H en σ v r ∧ RsOk K F H en σ rs t
def tOs (K : PySem.W.Frag) (mg : Str → Option Value) (W : WX) (m : M (List Res)) : TA := fun σ H Q => ∃ F en, Rel K F H en σ ∧
  OutOk K mg W F H en σ (m en) fun F' H' en' rs => ∀ vs, RsOk K F' H' en' σ rs vs → Q vs H'

/-- one outcome behind another -/
theorem OutOk.bind {β : Type} {K : PySem.W.Frag} {mg : Str → Option Value} {W : WX} {F H F1 H1 : Hp} {en en1 : En} {σ : St} {o : Out β} {P : Hp → Hp → En → β → Prop}
    (p : Post F H (Own en σ) F1 H1 (Own en1 σ)) (h : OutOk K mg W F H en σ o P) : OutOk K mg W F1 H1 en1 σ o P := by
  cases o with
  | ok r en' => exact fun F' H' r' p' => h F' H' r' (p.trans p')
  | exc c d en' => exact fun cls dx F' H' r' p' x => h cls dx F' H' r' (p.trans p') x
  | stuck => exact h
theorem OutOk.imp {α : Type} {K : PySem.W.Frag} {mg : Str → Option Value} {W : WX} {F H : Hp} {en : En} {σ : St} {o : Out α} {P P' : Hp → Hp → En → α → Prop}
    (h : OutOk K mg W F H en σ o P) (i : ∀ F' H' en' r, Rel K F' H' en' σ → P F' H' en' r → P' F' H' en' r) : OutOk K mg W F H en σ o P' := by
  cases o with
  | ok r en' => exact fun F' H' r' p' => i _ _ _ _ r' (h F' H' r' p')
  | exc c d en' => exact h
  | stuck => exact h

/-! ### freezing -/
section
variable {K : PySem.W.Frag} {F F' H H' : Hp} {en en' : En} {σ : St} {a : Addr} {xs : List V} {ds : List Dt}
theorem same_frz (s : Same F H) (h : H a = some (.lst xs)) : Same (upd F a (.lst xs)) H := fun b o e => by
  by_cases hb : b = a
  · subst hb; rw [upd_same] at e; rw [h]; exact e
  · rw [upd_ne hb] at e; exact s _ _ e
/-- a list that is not in a slot of one's own stays for good -/
theorem freeze_new (r : Rel K F H en σ) (h : H a = some (.lst xs)) (n : F a = none) (no : ¬ Own en σ a) : Rel K (upd F a (.lst xs)) H en σ := by
  refine ⟨same_frz r.sub h, r.len, fun i s o h1 h2 => ?_, r.ne⟩
  have q := r.ok i s o h1 h2
  cases s with
  | un => trivial
  | val d => obtain ⟨v, e, q⟩ := q; exact ⟨v, e, Rep.mono (same_new n) _ _ q⟩
  | scr ns => obtain ⟨b, e, q⟩ := q; exact ⟨b, e, (same_new n).seq q⟩
  | own es =>
    obtain ⟨b, ys, e, h3, h4, q⟩ := q
    refine ⟨b, ys, e, h3, ?_, Reps.mono (same_new n) _ _ q⟩
    rw [upd_ne ?_]
    · exact h4
    · rintro rfl
      exact no ⟨i, es, h1, by rw [h2, e]⟩
theorem rep_frozen (n : F a = none) (q : Reps K F ds xs) : Rep K (upd F a (.lst xs)) (.lst ds) (.ref a) := ⟨a, xs, rfl, upd_same, Reps.mono (same_new n) _ _ q⟩
theorem post_freeze {A A' : Addr → Prop} (n : F a = none) (hA : A a) (hs : ∀ b, A' b → A b) : Post F H A (upd F a (.lst xs)) H A' :=
  ⟨same_new n, fun _ _ h _ => h, fun _ h => h, fun b o e => by
    by_cases hb : b = a
    · subst hb; exact .inr (.inr hA)
    · rw [upd_ne hb] at e; exact .inl e, fun b h => .inl (hs b h)⟩
/-- a slot of one's own stays for good -/
theorem freeze_slot {i : Nat} (r : Rel K F H en σ) (hi : en[i]? = some (.own ds)) {v : V} (hv : σ[i]? = some (some v)) :
    ∃ F', Rel K F' H (en.set i (.val (.lst ds))) σ ∧ Post F H (Own en σ) F' H (Own (en.set i (.val (.lst ds))) σ) ∧ Rep K F' (.lst ds) v := by
  obtain ⟨a, xs, e, h1, h2, q⟩ := r.ok i _ _ hi hv
  cases e
  have hlt : i < en.length := (List.getElem?_eq_some_iff.mp hi).1
  have hown : ∀ b, Own (en.set i (.val (.lst ds))) σ b → Own en σ b := by
    rintro b ⟨j, es, e1, e2⟩
    by_cases hj : j = i
    · subst hj; rw [List.getElem?_set_self hlt] at e1; cases e1
    · rw [List.getElem?_set_ne (Ne.symm hj)] at e1; exact ⟨j, es, e1, e2⟩
  refine ⟨upd F a (.lst xs), ⟨same_frz r.sub h1, by rw [List.length_set]; exact r.len, fun j s o e1 e2 => ?_, fun j k es fs b e1 e2 e3 e4 => ?_⟩, post_freeze h2 ⟨i, ds, hi, hv⟩ hown, rep_frozen h2 q⟩
  · by_cases hj : j = i
    · subst hj
      rw [List.getElem?_set_self hlt] at e1; cases e1
      rw [hv] at e2; cases e2
      exact ⟨_, rfl, rep_frozen h2 q⟩
    · rw [List.getElem?_set_ne (Ne.symm hj)] at e1
      have p := r.ok j s o e1 e2
      cases s with
      | un => trivial
      | val d => obtain ⟨v, e, p⟩ := p; exact ⟨v, e, Rep.mono (same_new h2) _ _ p⟩
      | scr ns => obtain ⟨b, e, p⟩ := p; exact ⟨b, e, (same_new h2).seq p⟩
      | own es =>
        obtain ⟨b, ys, e, h3, h4, p⟩ := p
        refine ⟨b, ys, e, h3, ?_, Reps.mono (same_new h2) _ _ p⟩
        rw [upd_ne ?_]
        · exact h4
        · rintro rfl
          exact hj (r.ne j i _ _ _ e1 hi (by rw [e2, e]) hv)
  · by_cases hj : j = i
    · subst hj; rw [List.getElem?_set_self hlt] at e1; cases e1
    · by_cases hk : k = i
      · subst hk; rw [List.getElem?_set_self hlt] at e2; cases e2
      · rw [List.getElem?_set_ne (Ne.symm hj)] at e1
        rw [List.getElem?_set_ne (Ne.symm hk)] at e2
        exact r.ne j k es fs b e1 e2 e3 e4
end

def Out.bind {α β : Type} (o : Out α) (f : α → En → Out β) : Out β :=
  match o with
  | .ok a en => f a en
  | .exc c d en => .exc c d en
  | .stuck => .stuck
/-- as data: a slot of one's own is kept for good -/
def toV (r : Res) (en : En) : Out Dt :=
  match r with
  | .dat d => .ok d en
  | .new ds => .ok (.lst ds) en
  | .slt i => match en[i]? with
    | some (.val d) => .ok d en
    | some (.own ds) => .ok (.lst ds) (en.set i (.val (.lst ds)))
    | _ => .stuck
/-- as an operand: a new list is kept for good -/
def toO (r : Res) (en : En) : Out Res :=
  match r with
  | .new ds => .ok (.dat (.lst ds)) en
  | r => .ok r en
/-- what an operand is worth, looked at -/
def vw (en : En) (r : Res) : Option Dt :=
  match r with
  | .dat d => some d
  | .new ds => some (.lst ds)
  | .slt i => match en[i]? with
    | some (.val d) => some d
    | some (.own ds) => some (.lst ds)
    | _ => none
/-- data that is looked at: a list may be one's own -/
def Vw (K : PySem.W.Frag) (F H : Hp) (d : Dt) (v : V) : Prop :=
  match d with
  | .lst ds => ∃ a xs, v = .ref a ∧ H a = some (.lst xs) ∧ Reps K F ds xs
  | d => Rep K F d v
theorem Vw.of {K : PySem.W.Frag} {F H : Hp} {d : Dt} {v : V} (s : Same F H) (h : Rep K F d v) : Vw K F H d v := by
  cases d with
  | lst ds => obtain ⟨a, xs, e, q, r⟩ := h; exact ⟨a, xs, e, s _ _ q, r⟩
  | _ => exact h

section
variable {K : PySem.W.Frag} {mg : Str → Option Value} {W : WX} {F F' H H' : Hp} {en en' : En} {σ : St} {v : V}
theorem ResOk.vw {r : Res} {d : Dt} (R : Rel K F H en σ) (h : ResOk K F H en σ v r) (e : vw en r = some d) : Vw K F H d v := by
  cases r with
  | dat d' => cases e; exact Vw.of R.sub h
  | new ds => cases e; obtain ⟨a, xs, e, h1, _, _, q⟩ := h; exact ⟨a, xs, e, h1, q⟩
  | slt i =>
    have h : σ[i]? = some (some v) := h
    unfold Fw.vw at e
    cases q : en[i]? with
    | none => simp only [q] at e; cases e
    | some s =>
      have p := R.ok i s _ q h
      cases s with
      | un => simp only [q] at e; cases e
      | scr ns => simp only [q] at e; cases e
      | val d' => simp only [q] at e; cases e; obtain ⟨v', e, p⟩ := p; cases e; exact Vw.of R.sub p
      | own ds => simp only [q] at e; cases e; obtain ⟨a, xs, e, h1, _, p⟩ := p; cases e; exact ⟨a, xs, rfl, h1, p⟩
theorem toV_ok {F1 H1 : Hp} {en1 : En} {r : Res} {P : Hp → Hp → En → Dt → Prop} (p : Post F H (Own en σ) F1 H1 (Own en1 σ)) (R : Rel K F1 H1 en1 σ) (h : ResOk K F1 H1 en1 σ v r) (fr : Fresh H v r)
    (hp : OutOk K mg W F H en σ (toV r en1) P) : ∃ F' en' d, Rel K F' H1 en' σ ∧ Post F H (Own en σ) F' H1 (Own en' σ) ∧ Rep K F' d v ∧ P F' H1 en' d := by
  cases r with
  | dat d => exact ⟨F1, en1, d, R, p, h, hp F1 H1 R p⟩
  | new ds =>
    obtain ⟨a, xs, e, h1, h2, h3, q⟩ := h
    subst e
    have R' := freeze_new R h1 h2 h3
    have p' : Post F H (Own en σ) (upd F1 a (.lst xs)) H1 (Own en1 σ) := ⟨p.sub.trans (same_new h2), p.keep, p.there, fun b o e => by
      by_cases hb : b = a
      · subst hb; exact .inr (.inl (fr _ rfl))
      · rw [upd_ne hb] at e; exact p.frz b o e, p.own⟩
    exact ⟨_, en1, .lst ds, R', p', rep_frozen h2 q, hp _ _ R' p'⟩
  | slt i =>
    have h : σ[i]? = some (some v) := h
    unfold Fw.toV at hp
    cases q : en1[i]? with
    | none => simp only [q] at hp; exact hp.elim
    | some s =>
      have pp := R.ok i s _ q h
      cases s with
      | un => simp only [q] at hp; exact hp.elim
      | scr ns => simp only [q] at hp; exact hp.elim
      | val d' => simp only [q] at hp; obtain ⟨v', e, pp⟩ := pp; cases e; exact ⟨F1, en1, d', R, p, pp, hp F1 H1 R p⟩
      | own ds =>
        simp only [q] at hp
        obtain ⟨F', R', p', r'⟩ := freeze_slot R q h
        exact ⟨F', _, _, R', p.trans p', r', hp F' H1 R' (p.trans p')⟩
/-- as an operand -/
theorem toO_ok {F1 H1 : Hp} {en1 : En} {r : Res} {P : Hp → Hp → En → Res → Prop} (p : Post F H (Own en σ) F1 H1 (Own en1 σ)) (R : Rel K F1 H1 en1 σ) (h : ResOk K F1 H1 en1 σ v r) (fr : Fresh H v r)
    (hp : OutOk K mg W F H en σ (toO r en1) P) : ∃ F' r', Rel K F' H1 en1 σ ∧ Post F H (Own en σ) F' H1 (Own en1 σ) ∧ (∀ ds, r' ≠ .new ds) ∧ ResOk K F' H1 en1 σ v r' ∧ P F' H1 en1 r' := by
  cases r with
  | dat d => exact ⟨F1, _, R, p, (fun _ z => by cases z), h, hp F1 H1 R p⟩
  | slt i => exact ⟨F1, _, R, p, (fun _ z => by cases z), h, hp F1 H1 R p⟩
  | new ds =>
    obtain ⟨a, xs, e, h1, h2, h3, q⟩ := h
    subst e
    have R' := freeze_new R h1 h2 h3
    have p' : Post F H (Own en σ) (upd F1 a (.lst xs)) H1 (Own en1 σ) := ⟨p.sub.trans (same_new h2), p.keep, p.there, fun b o e => by
      by_cases hb : b = a
      · subst hb; exact .inr (.inl (fr _ rfl))
      · rw [upd_ne hb] at e; exact p.frz b o e, p.own⟩
    exact ⟨_, .dat (.lst ds), R', p', (fun _ z => by cases z), rep_frozen h2 q, hp _ _ R' p'⟩
/-- an operand stays one -/
theorem ResOk.keep {F1 H1 : Hp} {en1 : En} {r : Res} (s : Same F F1) (n : ∀ ds, r ≠ .new ds) (h : ResOk K F H en σ v r) : ResOk K F1 H1 en1 σ v r := by
  cases r with
  | dat d => exact Rep.mono s _ _ h
  | slt i => exact h
  | new ds => exact absurd rfl (n ds)
theorem OutOk.ofBind {α β : Type} {o : Out α} {f : α → En → Out β} {P : Hp → Hp → En → β → Prop} (h : OutOk K mg W F H en σ (o.bind f) P) :
    OutOk K mg W F H en σ o fun F1 H1 en1 a => Rel K F1 H1 en1 σ ∧ Post F H (Own en σ) F1 H1 (Own en1 σ) ∧ OutOk K mg W F H en σ (f a en1) P := by
  cases o with
  | ok a en1 => exact fun F1 H1 R p => ⟨R, p, h⟩
  | exc c d en1 => exact h
  | stuck => exact h
end
end Fw

/-! Fw2: expressions as functions of the environment. -/
namespace Fw
open PySem PySem.Spec PyProof.Rows L2

theorem PE.imp {X : Cx} {e : Expr} {t t' : TE} (h : PE X e t) (i : ∀ σ H Q, t' σ H Q → t σ H Q) : PE X e t' := ⟨fun pins s σ H Q I q => h.run pins s σ H Q I (i σ H Q q)⟩
theorem PT.imp {X : Cx} {e : Expr} {t t' : TT} (h : PT X e t) (i : ∀ σ H Q, t' σ H Q → t σ H Q) : PT X e t' := ⟨fun pins s σ H Q I q => h.run pins s σ H Q I (i σ H Q q)⟩
theorem PA.imp {X : Cx} {e : List Expr} {t t' : TA} (h : PA X e t) (i : ∀ σ H Q, t' σ H Q → t σ H Q) : PA X e t' := ⟨fun pos pins s σ H Q I q => h.run pos pins s σ H Q I (i σ H Q q)⟩

/-- a new thing by a built-in's rule -/
def PrOk (K : PySem.W.Frag) (H F' H' : Hp) (v : V) : Res → Prop
  | .dat d => Rep K F' d v
  | .new ds => ∃ a xs, v = .ref a ∧ H a = none ∧ H' a = some (.lst xs) ∧ F' a = none ∧ Reps K F' ds xs
  | .slt _ => False
section
variable {K : PySem.W.Frag} {mg : Str → Option Value} {W : WX} {F F' H H' : Hp} {en en' : En} {σ : St} {v : V}
theorem Rel.own_there {a : Addr} (R : Rel K F H en σ) (h : Own en σ a) : ∃ xs, H a = some (.lst xs) ∧ F a = none := by
  obtain ⟨i, ds, e1, e2⟩ := h
  obtain ⟨b, xs, e, h1, h2, _⟩ := R.ok i _ _ e1 e2
  cases e
  exact ⟨xs, h1, h2⟩
theorem PrOk.res {c : Res} (R : Rel K F H en σ) (h : PrOk K H F' H' v c) : ResOk K F' H' en σ v c ∧ Fresh H v c := by
  cases c with
  | dat d => exact ⟨h, trivial⟩
  | new ds =>
    obtain ⟨a, xs, e, n, h1, h2, q⟩ := h
    refine ⟨⟨a, xs, e, h1, h2, fun z => ?_, q⟩, fun b eb => ?_⟩
    · obtain ⟨ys, y, _⟩ := R.own_there z
      rw [n] at y; cases y
    · rw [e] at eb; cases eb; exact n
  | slt i => exact h.elim
/-- an outcome that is a built-in's result -/
def lift (en : En) (c : Option Res) : Out Res := match c with
  | some r => .ok r en
  | none => .stuck
theorem lift_ok {c : Option Res} {Q : VK} {H0 : Hp} (p : ∀ b, H b = none → H0 b = none) (R : Rel K F H en σ)
    (hp : OutOk K mg W F H en σ (lift en c) fun F' H' en' r => ∀ v, ResOk K F' H' en' σ v r → Fresh H0 v r → Q v H') :
    ∃ r, c = some r ∧ ∀ F' H' v, Grow F H F' H' → PrOk K H F' H' v r → Q v H' := by
  cases c with
  | none => exact hp.elim
  | some r =>
    refine ⟨r, rfl, fun F' H' v g q => ?_⟩
    obtain ⟨q1, q2⟩ := q.res R
    refine hp F' H' (R.grow g) g.post v q1 ?_
    cases r with
    | new ds => exact fun a e => p a (q2 a e)
    | _ => trivial
end

/-! ### operands -/
def eOpd (m : M Res) : M Res := fun en => (m en).bind toO
def eVal (m : M Res) : M Dt := fun en => (m en).bind toV
def eNil : M (List Res) := fun en => .ok [] en
def eCons (m : M Res) (ms : M (List Res)) : M (List Res) := fun en => (eOpd m en).bind fun r en1 => (ms en1).bind fun rs en2 => .ok (r :: rs) en2
def vNil : M (List Dt) := fun en => .ok [] en
def vCons (m : M Res) (ms : M (List Dt)) : M (List Dt) := fun en => (eVal m en).bind fun r en1 => (ms en1).bind fun rs en2 => .ok (r :: rs) en2
def vws (en : En) : List Res → Option (List Dt)
  | [] => some []
  | r :: rs => match vw en r, vws en rs with
    | some d, some ds => some (d :: ds)
    | _, _ => none

section
variable {X : Cx} {W : WX} {e a b : Expr} {es : List Expr} {m ma mb : M Res} {ms : M (List Res)} {pos : Pos}
theorem rv_of (h : PE X e (tE X.K X.mg W m)) : PE X e (tV X.K X.mg W (eVal m)) := PE.imp h fun σ H Q ⟨F, en, R, h⟩ =>
  ⟨F, en, R, (OutOk.ofBind h).imp fun F1 H1 en1 r _ ⟨R1, p1, hp⟩ v hv fr => by
    obtain ⟨F', en', d, _, _, rep, q⟩ := toV_ok p1 R1 hv fr hp
    exact q v rep⟩

/-- an operand, then what follows -/
theorem opd {K : PySem.W.Frag} {mg : Str → Option Value} {F H : Hp} {en : En} {σ : St} {β : Type} {k : Res → En → Out β} {P : Hp → Hp → En → β → Prop} (h : OutOk K mg W F H en σ ((eOpd m en).bind k) P) :
    OutOk K mg W F H en σ (m en) fun F1 H1 en1 r0 => ∀ v, ResOk K F1 H1 en1 σ v r0 → Fresh H v r0 →
      ∃ F2 r, Rel K F2 H1 en1 σ ∧ Post F H (Own en σ) F2 H1 (Own en1 σ) ∧ (∀ ds, r ≠ .new ds) ∧ ResOk K F2 H1 en1 σ v r ∧ OutOk K mg W F2 H1 en1 σ (k r en1) P :=
  (OutOk.ofBind (OutOk.ofBind h)).imp fun F1 H1 en1 r0 _ ⟨R1, p1, hp⟩ v hv fr => by
    obtain ⟨F2, r, R2, p2, n, hv2, _, _, q⟩ := toO_ok p1 R1 hv fr hp
    exact ⟨F2, r, R2, p2, n, hv2, q.bind p2⟩
/-- a value, then what follows -/
theorem vald {K : PySem.W.Frag} {mg : Str → Option Value} {F H : Hp} {en : En} {σ : St} {β : Type} {k : Dt → En → Out β} {P : Hp → Hp → En → β → Prop} (h : OutOk K mg W F H en σ ((eVal m en).bind k) P) :
    OutOk K mg W F H en σ (m en) fun F1 H1 en1 r0 => ∀ v, ResOk K F1 H1 en1 σ v r0 → Fresh H v r0 →
      ∃ F2 en2 d, Rel K F2 H1 en2 σ ∧ Post F H (Own en σ) F2 H1 (Own en2 σ) ∧ Rep K F2 d v ∧ OutOk K mg W F2 H1 en2 σ (k d en2) P :=
  (OutOk.ofBind (OutOk.ofBind h)).imp fun F1 H1 en1 r0 _ ⟨R1, p1, hp⟩ v hv fr => by
    obtain ⟨F2, en2, d, R2, p2, hv2, _, _, q⟩ := toV_ok p1 R1 hv fr hp
    exact ⟨F2, en2, d, R2, p2, hv2, q.bind p2⟩
theorem rs_nil : PA X [] (tOs X.K X.mg W eNil) := PA.imp pa_nil fun σ H Q ⟨F, en, R, h⟩ => h F H R .refl [] rfl
theorem rs_cons (h1 : PE X e (tE X.K X.mg W m)) (h2 : PA X es (tOs X.K X.mg W ms)) (hs : starEach (e :: es) X.env = (false, eval e X.env) :: starEach es X.env := by rfl) : PA X (e :: es) (tOs X.K X.mg W (eCons m ms)) :=
  PA.imp (pa_cons h1 h2 hs) fun σ H Q ⟨F, en, R, h⟩ => ⟨F, en, R, (opd h).imp fun F1 H1 en1 r0 _ q v hv fr => by
    obtain ⟨F2, r, R2, p2, n, hv2, q⟩ := q v hv fr
    refine ⟨F2, en1, R2, (OutOk.ofBind q).imp fun F3 H3 en3 rs R3 ⟨_, p3, q3⟩ vs hvs => ?_⟩
    exact q3 F3 H3 R3 p3 (v :: vs) ⟨v, vs, rfl, n, hv2.keep p3.sub n, hvs⟩⟩
theorem vs_nil : PA X [] (tVs X.K X.mg W vNil) := PA.imp pa_nil fun σ H Q ⟨F, en, R, h⟩ => h F H R .refl [] rfl
theorem vs_cons {ms : M (List Dt)} (h1 : PE X e (tE X.K X.mg W m)) (h2 : PA X es (tVs X.K X.mg W ms)) (hs : starEach (e :: es) X.env = (false, eval e X.env) :: starEach es X.env := by rfl) : PA X (e :: es) (tVs X.K X.mg W (vCons m ms)) :=
  PA.imp (pa_cons h1 h2 hs) fun σ H Q ⟨F, en, R, h⟩ => ⟨F, en, R, (vald h).imp fun F1 H1 en1 r0 _ q v hv fr => by
    obtain ⟨F2, en2, d, R2, p2, hv2, q⟩ := q v hv fr
    refine ⟨F2, en2, R2, (OutOk.ofBind q).imp fun F3 H3 en3 rs R3 ⟨_, p3, q3⟩ vs hvs => ?_⟩
    exact q3 F3 H3 R3 p3 (v :: vs) ⟨v, vs, rfl, Rep.mono p3.sub _ _ hv2, hvs⟩⟩

/-! ### displays, names, constants -/
def eTup (ms : M (List Dt)) : M Res := fun en => (ms en).bind fun ds en1 => if ds.length ≤ sizeLine then .ok (.dat (.tup ds)) en1 else .stuck
def eLst (ms : M (List Dt)) : M Res := fun en => (ms en).bind fun ds en1 => if ds.length ≤ sizeLine then .ok (.new ds) en1 else .stuck
theorem re_tup {x1} {ms : M (List Dt)} (h : PA X es (tVs X.K X.mg W ms)) : PE X (.Tuple es x1 pos) (tE X.K X.mg W (eTup ms)) :=
  PE.imp (pe_tup h) fun σ H Q ⟨F, en, R, h⟩ => ⟨F, en, R, (OutOk.ofBind h).imp fun F1 H1 en1 ds _ ⟨R1, p1, q⟩ vs hvs => by
    by_cases hz : ds.length ≤ sizeLine
    · rw [if_pos hz] at q
      refine ⟨by rw [← hvs.length]; exact hz, fun p np => ?_⟩
      have g : Grow F1 H1 (upd F1 p (.tup vs)) (upd H1 p (.tup vs)) := grow_frz R1.sub np
      exact q _ _ (R1.grow g) (p1.trans g.post) _ ⟨p, vs, rfl, .inl (.inl upd_same), Reps.mono g.sub _ _ hvs⟩ trivial
    · rw [if_neg hz] at q; exact q.elim⟩
theorem re_lst {ms : M (List Dt)} (h : PA X es (tVs X.K X.mg W ms)) : PE X (.List es pos) (tE X.K X.mg W (eLst ms)) :=
  PE.imp (pe_lst h) fun σ H Q ⟨F, en, R, h⟩ => ⟨F, en, R, (OutOk.ofBind h).imp fun F1 H1 en1 ds _ ⟨R1, p1, q⟩ vs hvs => by
    by_cases hz : ds.length ≤ sizeLine
    · rw [if_pos hz] at q
      refine ⟨by rw [← hvs.length]; exact hz, fun p np => ?_⟩
      have g : Grow F1 H1 F1 (upd H1 p (.lst vs)) := grow_own R1.sub np
      refine q _ _ (R1.grow g) (p1.trans g.post) _ ⟨p, vs, rfl, upd_same, R1.sub.free np, fun z => ?_, hvs⟩ fun a e => ?_
      · obtain ⟨_, y, _⟩ := R1.own_there z
        rw [np] at y; cases y
      · cases e; exact p1.there _ np
    · rw [if_neg hz] at q; exact q.elim⟩
def eVar (i : Nat) : M Res := fun en => match en[i]? with
  | some .un => .stuck
  | none => .stuck
  | _ => .ok (.slt i) en
def eDat (d : Dt) : M Res := fun en => .ok (.dat d) en
theorem re_var (i : Nat) {x : Str} (hN : X.N[i]? = some x := by rfl) (hv : Vis X.env.scope x := by first | exact Or.inl rfl | exact Or.inr (Or.inl rfl) | exact Or.inr (Or.inr rfl)) (hd : (x == ("__debug__" : Str)) = false := by decide)
    (hcd : (x == ("__classdict__" : Str)) = false := by decide) : PE X (.Name x pos) (tE X.K X.mg W (eVar i)) :=
  PE.imp (pe_var (i := i) hN hv hd hcd) fun σ H Q ⟨F, en, R, h⟩ => by
    unfold eVar at h
    cases q : en[i]? with
    | none => simp only [q] at h; exact h.elim
    | some s =>
      have hi : i < σ.length := by rw [← R.len]; exact (List.getElem?_eq_some_iff.mp q).1
      obtain ⟨o, ho⟩ : ∃ o, σ[i]? = some o := ⟨σ[i], List.getElem?_eq_getElem hi⟩
      have p := R.ok i s o q ho
      have fin : ∀ v, o = some v → OutOk X.K X.mg W F H en σ (.ok (.slt i) en) (fun F' H' en' r => ∀ v, ResOk X.K F' H' en' σ v r → Fresh H v r → Q v H') → tVar i σ H Q := fun v e h => by
        subst e
        exact ⟨v, ho, h F H R .refl v ho trivial⟩
      cases s with
      | un => simp only [q] at h; exact h.elim
      | val d => simp only [q] at h; obtain ⟨v, e, _⟩ := p; exact fin v e h
      | own ds => simp only [q] at h; obtain ⟨a, xs, e, _⟩ := p; exact fin _ e h
      | scr ns => simp only [q] at h; obtain ⟨a, e, _⟩ := p; exact fin _ e h
theorem re_dat {d : Dt} {v : V} (h : PE X e (tC v)) (hr : ∀ K F, Rep K F d v) : PE X e (tE X.K X.mg W (eDat d)) :=
  PE.imp h fun σ H Q ⟨F, en, R, h⟩ => h F H R .refl v (hr _ _) trivial
theorem re_int {i j} : PE X (.Constant (.int i) j pos) (tE X.K X.mg W (eDat (.int i))) := re_dat pe_int fun _ _ => rfl
theorem re_bl {i j} : PE X (.Constant (.bool i) j pos) (tE X.K X.mg W (eDat (.bl i))) := re_dat pe_bl fun _ _ => rfl
theorem re_non {j} : PE X (.Constant .none j pos) (tE X.K X.mg W (eDat .non)) := re_dat pe_non fun _ _ => rfl
theorem re_str (x : Wd) {z : Str} {j} (hz : z = st x := by rfl) : PE X (.Constant (.str z) j pos) (tE X.K X.mg W (eDat (.str x))) := re_dat pe_str fun _ _ => by
  show V.str z = V.str (st x)
  rw [hz]
/-- a module's text or number -/
theorem re_gdat {x : Str} {d : Dt} {v : V} {u : Value} (hg : Gl X x) (hm : X.mg x = some u) (r : RelV v u) (hr : ∀ K F, Rep K F d v) (hd : (x == ("__debug__" : Str)) = false := by decide) : PE X (.Name x pos) (tE X.K X.mg W (eDat d)) :=
  re_dat (pe_glob hg hm r hd) hr

/-! ### built-in operations -/
def VwAll (K : PySem.W.Frag) (F H : Hp) : List Dt → List V → Prop
  | [], vs => vs = []
  | d :: ds, vs => ∃ v t, vs = v :: t ∧ Vw K F H d v ∧ VwAll K F H ds t
def Prim1 (X : Cx) (op : Value → Sem Value) (f : Dt → Option Res) : Prop := ∃ r : V → Hp → VK → Prop, UnR X op r ∧ ∀ F H (a : Dt) (x : V) (c : Res) (Q : VK), Same F H → Vw X.K F H a x → f a = some c →
  (∀ F' H' v, Grow F H F' H' → PrOk X.K H F' H' v c → Q v H') → r x H Q
def Prim2R (X : Cx) (R : (R2) → Prop) (f : Dt → Dt → Option Res) : Prop := ∃ r : R2, R r ∧ ∀ F H (a b : Dt) (x y : V) (c : Res) (Q : VK), Same F H → Vw X.K F H a x → Vw X.K F H b y → f a b = some c →
  (∀ F' H' v, Grow F H F' H' → PrOk X.K H F' H' v c → Q v H') → r x y H Q
abbrev Prim2 (X : Cx) (op : Value → Value → Sem Value) (f : Dt → Dt → Option Res) : Prop := Prim2R X (OpR X op) f
abbrev PrimIx (X : Cx) (f : Dt → Dt → Option Res) : Prop := Prim2R X (IxR X) f
def PrimNR (X : Cx) (R : (List V → Hp → VK → Prop) → Prop) (f : List Dt → Option Res) : Prop := ∃ r, R r ∧ ∀ F H (ds : List Dt) (vs : List V) (c : Res) (Q : VK), Same F H → VwAll X.K F H ds vs → f ds = some c →
  (∀ F' H' v, Grow F H F' H' → PrOk X.K H F' H' v c → Q v H') → r vs H Q
def eUn (f : Dt → Option Res) (ma : M Res) : M Res := fun en => (eOpd ma en).bind fun ra en1 => lift en1 ((vw en1 ra).bind f)
def eBin (f : Dt → Dt → Option Res) (ma mb : M Res) : M Res := fun en => (eOpd ma en).bind fun ra en1 => (eOpd mb en1).bind fun rb en2 => lift en2 ((vw en2 ra).bind fun a => (vw en2 rb).bind fun b => f a b)
def eCB (f : List Dt → Option Res) (ms : M (List Res)) : M Res := fun en => (ms en).bind fun rs en1 => lift en1 ((vws en1 rs).bind f)
end
end Fw

/-! Fw3: operators, tests, calls. -/
namespace Fw
open PySem PySem.Spec PyProof.Rows L2

section
variable {X : Cx} {W : WX} {e a b : Expr} {es : List Expr} {m ma mb : M Res} {ms : M (List Res)} {pos : Pos}
theorem bin_core {f : Dt → Dt → Option Res} {r : R2} (hf : ∀ F H (a b : Dt) (x y : V) (c : Res) (Q : VK), Same F H → Vw X.K F H a x → Vw X.K F H b y → f a b = some c → (∀ F' H' v, Grow F H F' H' → PrOk X.K H F' H' v c → Q v H') → r x y H Q)
    {σ : St} {H : Hp} {Q : VK} (h : tE X.K X.mg W (eBin f ma mb) σ H Q) : tOp r (tE X.K X.mg W ma) (tE X.K X.mg W mb) σ H Q := by
  obtain ⟨F, en, R, h⟩ := h
  refine ⟨F, en, R, (opd h).imp fun F1 H1 en1 r0 _ q x hx fx => ?_⟩
  obtain ⟨F2, ra, R2, p2, n2, hx2, q⟩ := q x hx fx
  refine ⟨F2, en1, R2, (opd q).imp fun F3 H3 en3 r3 _ q y hy fy => ?_⟩
  obtain ⟨F4, rb, R4, p4, n4, hy4, q⟩ := q y hy fy
  obtain ⟨c, ec, fin⟩ := lift_ok (fun b hb => p2.there b (p4.there b hb)) R4 q
  cases e1 : vw en3 ra with
  | none => rw [e1] at ec; cases ec
  | some da =>
    cases e2 : vw en3 rb with
    | none => rw [e1, e2] at ec; cases ec
    | some db =>
      rw [e1, e2] at ec
      exact hf F4 H3 da db x y c Q R4.sub ((hx2.keep (en1 := en3) (H1 := H3) p4.sub n2).vw R4 e1) (hy4.vw R4 e2) ec fin
theorem re_bin {op : Operator} {f : Dt → Dt → Option Res} (hp : Prim2 X (binaryOp op) f) (ha : PE X a (tE X.K X.mg W ma)) (hb : PE X b (tE X.K X.mg W mb)) : PE X (.BinOp a op b pos) (tE X.K X.mg W (eBin f ma mb)) := by
  obtain ⟨r, ho, hf⟩ := hp
  exact PE.imp (pe_op ho ha hb) fun σ H Q h => bin_core hf h
theorem re_cmp {op : CmpOp} {f : Dt → Dt → Option Res} (hp : Prim2 X (compareOp op) f) (ha : PE X a (tE X.K X.mg W ma)) (hb : PE X b (tE X.K X.mg W mb)) (hm : behindInMarks op b = false := by rfl) :
    PE X (.Compare a [op] [b] pos) (tE X.K X.mg W (eBin f ma mb)) := by
  obtain ⟨r, ho, hf⟩ := hp
  exact PE.imp (pe_cmpR ho ha hb hm) fun σ H Q h => bin_core hf h
theorem re_ix {f : Dt → Dt → Option Res} (hp : PrimIx X f) (ha : PE X a (tE X.K X.mg W ma)) (hb : PE X b (tE X.K X.mg W mb)) (hs : PlainIx b := by exact fun _ _ => rfl) : PE X (.Subscript a b pos) (tE X.K X.mg W (eBin f ma mb)) := by
  obtain ⟨r, ho, hf⟩ := hp
  exact PE.imp (pe_ix ho ha hb hs) fun σ H Q h => bin_core hf h
theorem re_un {op : UnaryOp} {f : Dt → Option Res} (hp : Prim1 X (unaryOp op) f) (ha : PE X a (tE X.K X.mg W ma)) : PE X (.UnaryOp op a pos) (tE X.K X.mg W (eUn f ma)) := by
  obtain ⟨r, ho, hf⟩ := hp
  refine PE.imp (pe_un ho ha) fun σ H Q ⟨F, en, R, h⟩ => ⟨F, en, R, (opd h).imp fun F1 H1 en1 r0 _ q x hx fx => ?_⟩
  obtain ⟨F2, ra, R2, p2, n2, hx2, q⟩ := q x hx fx
  obtain ⟨c, ec, fin⟩ := lift_ok p2.there R2 q
  cases e1 : vw en1 ra with
  | none => rw [e1] at ec; cases ec
  | some da =>
    rw [e1] at ec
    exact hf F2 H1 da x c Q R2.sub (hx2.vw R2 e1) ec fin

/-! ### tests -/
def fTru : Dt → Option Bool
  | .non => some false
  | .bl b => some b
  | .int i => some (i != 0)
  | .str x => if x.length ≤ sizeLine then some ((x.length : Int) != 0) else none
  | .tup ds => some (!ds.isEmpty)
  | .lst ds => some (!ds.isEmpty)
  | .exo _ _ => none
def cLift (en : En) (c : Option Bool) : Out Bool := match c with
  | some b => .ok b en
  | none => .stuck
def asBl : Dt → Option Bool
  | .bl b => some b
  | _ => none
/-- by truth -/
def cTru (m : M Res) : M Bool := fun en => (eOpd m en).bind fun r en1 => cLift en1 ((vw en1 r).bind fTru)
/-- of a bool -/
def cBl (m : M Res) : M Bool := fun en => (eOpd m en).bind fun r en1 => cLift en1 ((vw en1 r).bind asBl)
theorem cLift_ok {K : PySem.W.Frag} {mg : Str → Option Value} {F H : Hp} {en : En} {σ : St} {c : Option Bool} {Q : Bool → Hp → Prop} (R : Rel K F H en σ)
    (h : OutOk K mg W F H en σ (cLift en c) fun F' H' en' b => Q b H') : ∃ b, c = some b ∧ Q b H := by
  cases c with
  | none => exact h.elim
  | some b => exact ⟨b, rfl, h F H R .refl⟩
theorem Vw.tru {K : PySem.W.Frag} {F H : Hp} {d : Dt} {v : V} {k : Bool} (s : Same F H) (h : Vw K F H d v) (e : fTru d = some k) : TruV K v H k := by
  cases d with
  | non => cases h; cases e; rfl
  | exo _ _ => cases e
  | bl b => cases h; cases e; rfl
  | int i => cases h; cases e; rfl
  | str x =>
    cases h
    unfold fTru at e
    by_cases hz : x.length ≤ sizeLine
    · simp only [if_pos hz] at e
      cases e
      exact ⟨by rw [st_len]; exact hz, by rw [st_len]⟩
    · simp only [if_neg hz] at e; cases e
  | tup ds =>
    obtain ⟨a, xs, rfl, q, r⟩ := h
    cases e
    refine .inr (.inl ⟨xs, Same.seqT s q, ?_⟩)
    have := r.length
    cases ds <;> cases xs <;> simp_all
  | lst ds =>
    obtain ⟨a, xs, rfl, q, r⟩ := h
    cases e
    refine .inl ⟨xs, SqL.of q, ?_⟩
    have := r.length
    cases ds <;> cases xs <;> simp_all
theorem rt_tru (ha : PE X a (tE X.K X.mg W m)) (he : ∀ whole, isTrue a X.env whole = (do let v ← whole; standAt a.pos; holding [v] (truthy v)) := by exact fun _ => rfl) : PT X a (tT X.K X.mg W (cTru m)) :=
  PT.imp (pt_truth ha he) fun σ H Q ⟨F, en, R, h⟩ => ⟨F, en, R, (opd h).imp fun F1 H1 en1 r0 _ q x hx fx => by
    obtain ⟨F2, ra, R2, p2, n2, hx2, q⟩ := q x hx fx
    obtain ⟨b, eb, fin⟩ := cLift_ok R2 q
    cases e1 : vw en1 ra with
    | none => rw [e1] at eb; cases eb
    | some da =>
      rw [e1] at eb
      exact ⟨b, (hx2.vw R2 e1).tru R2.sub eb, fin⟩⟩
/-- a bool as an expression's value -/
theorem bl_core {σ : St} {H : Hp} {Q : Bool → Hp → Prop} (h : tT X.K X.mg W (cBl m) σ H Q) : tE X.K X.mg W m σ H fun x H' => ∃ k, x = .bl k ∧ Q k H' := by
  obtain ⟨F, en, R, h⟩ := h
  refine ⟨F, en, R, (opd h).imp fun F1 H1 en1 r0 _ q x hx fx => ?_⟩
  obtain ⟨F2, ra, R2, p2, n2, hx2, q⟩ := q x hx fx
  obtain ⟨b, eb, fin⟩ := cLift_ok R2 q
  cases e1 : vw en1 ra with
  | none => rw [e1] at eb; cases eb
  | some da =>
    rw [e1] at eb
    have vx := hx2.vw R2 e1
    cases da with
    | bl k => cases eb; exact ⟨b, vx, fin⟩
    | _ => cases eb
theorem rt_cmp {op : CmpOp} {f : Dt → Dt → Option Res} (hp : Prim2 X (compareOp op) f) (ha : PE X a (tE X.K X.mg W ma)) (hb : PE X b (tE X.K X.mg W mb)) (hm : behindInMarks op b = false := by rfl) :
    PT X (.Compare a [op] [b] pos) (tT X.K X.mg W (cBl (eBin f ma mb))) := by
  obtain ⟨r, ho, hf⟩ := hp
  exact PT.imp (pt_cmpR ho ha hb hm) fun σ H Q h => bin_core hf (bl_core h)
/-- a test of a test -/
theorem tT_bind {K : PySem.W.Frag} {mg : Str → Option Value} {σ : St} {H : Hp} {Q : Bool → Hp → Prop} {c : M Bool} {k : Bool → M Bool} (h : tT K mg W (fun en => (c en).bind fun b en1 => k b en1) σ H Q) :
    tT K mg W c σ H fun b H1 => tT K mg W (k b) σ H1 Q := by
  obtain ⟨F, en, R, h⟩ := h
  exact ⟨F, en, R, (OutOk.ofBind h).imp fun F1 H1 en1 b _ ⟨R1, p1, q⟩ => ⟨F1, en1, R1, q.bind p1⟩⟩
theorem tT_ok {K : PySem.W.Frag} {mg : Str → Option Value} {σ : St} {H : Hp} {Q : Bool → Hp → Prop} {b : Bool} (h : tT K mg W (fun en => .ok b en) σ H Q) : Q b H := by
  obtain ⟨F, en, R, h⟩ := h
  exact h F H R .refl
def cNot (c : M Bool) : M Bool := fun en => (c en).bind fun b en1 => .ok (!b) en1
def cAnd (c d : M Bool) : M Bool := fun en => (c en).bind fun b en1 => if b = true then d en1 else .ok false en1
def cOr (c d : M Bool) : M Bool := fun en => (c en).bind fun b en1 => if b = true then .ok true en1 else d en1
variable {c d : M Bool} {rest : List Expr}
theorem rt_not (ha : PT X a (tT X.K X.mg W c)) : PT X (.UnaryOp .Not a pos) (tT X.K X.mg W (cNot c)) :=
  PT.imp (pt_not ha) fun σ H Q ⟨F, en, R, h⟩ => ⟨F, en, R, (OutOk.ofBind h).imp fun F1 H1 en1 b _ ⟨R1, p1, q⟩ => q F1 H1 R1 p1⟩
structure PWt (X : Cx) (W : WX) (e : Expr) (c : M Bool) : Prop where
  w : PW X e (tT X.K X.mg W c)
theorem PW.imp {X : Cx} {e : Expr} {t t' : TT} (h : PW X e t) (i : ∀ σ H Q, t' σ H Q → t σ H Q) : PW X e t' := ⟨fun wh pins s σ H Q I q => h.run wh pins s σ H Q I (i σ H Q q)⟩
theorem rw_and1 (ha : PT X a (tT X.K X.mg W c)) : PWt X W (.BoolOp .And [a] pos) c := ⟨pw_and1 ha⟩
theorem rw_or1 (ha : PT X a (tT X.K X.mg W c)) : PWt X W (.BoolOp .Or [a] pos) c := ⟨pw_or1 ha⟩
theorem rw_and (ha : PT X a (tT X.K X.mg W c)) (hb : PWt X W (.BoolOp .And (b :: rest) pos) d) : PWt X W (.BoolOp .And (a :: b :: rest) pos) (cAnd c d) :=
  ⟨PW.imp (pw_and ha hb.w) fun σ H Q ⟨F, en, R, h⟩ => ⟨F, en, R, (OutOk.ofBind h).imp fun F1 H1 en1 b _ ⟨R1, p1, q⟩ => by
    cases b with
    | true => exact ⟨F1, en1, R1, q.bind p1⟩
    | false => exact q F1 H1 R1 p1⟩⟩
theorem rw_or (ha : PT X a (tT X.K X.mg W c)) (hb : PWt X W (.BoolOp .Or (b :: rest) pos) d) : PWt X W (.BoolOp .Or (a :: b :: rest) pos) (cOr c d) :=
  ⟨PW.imp (pw_or ha hb.w) fun σ H Q ⟨F, en, R, h⟩ => ⟨F, en, R, (OutOk.ofBind h).imp fun F1 H1 en1 b _ ⟨R1, p1, q⟩ => by
    cases b with
    | false => exact ⟨F1, en1, R1, q.bind p1⟩
    | true => exact q F1 H1 R1 p1⟩⟩
theorem rt_w (h : PWt X W e c) : PT X e (tT X.K X.mg W c) := h.w.pt
/-- .. as values (bools) -/
def eAnd (ma mb : M Res) : M Res := fun en => (cBl ma en).bind fun b en1 => if b = true then mb en1 else .ok (.dat (.bl false)) en1
def eOr (ma mb : M Res) : M Res := fun en => (cBl ma en).bind fun b en1 => if b = true then .ok (.dat (.bl true)) en1 else mb en1
def eNot (ma : M Res) : M Res := fun en => (cBl ma en).bind fun b en1 => .ok (.dat (.bl (!b))) en1
def eIf (c : M Bool) (ma mb : M Res) : M Res := fun en => (c en).bind fun b en1 => if b = true then ma en1 else mb en1
theorem bl_bind {σ : St} {H : Hp} {Q : VK} {k : Bool → M Res} (h : tE X.K X.mg W (fun en => (cBl m en).bind fun b en1 => k b en1) σ H Q) :
    tE X.K X.mg W m σ H fun x H1 => ∃ c, x = .bl c ∧ tE X.K X.mg W (k c) σ H1 Q := by
  obtain ⟨F, en, R, h⟩ := h
  refine bl_core ⟨F, en, R, (OutOk.ofBind h).imp fun F1 H1 en1 b _ ⟨R1, p1, q⟩ => ⟨F1, en1, R1, (q.bind p1).imp fun F' H' en' r R' g v hv fr => g v hv ?_⟩⟩
  cases r with
  | new ds => exact fun a e => p1.there a (fr a e)
  | _ => trivial
theorem tE_bl {σ : St} {H : Hp} {Q : VK} {b : Bool} (h : tE X.K X.mg W (fun en => .ok (.dat (.bl b)) en) σ H Q) : Q (.bl b) H := by
  obtain ⟨F, en, R, h⟩ := h
  exact h F H R .refl _ rfl trivial
theorem re_one {op} (h : PE X a (tE X.K X.mg W m)) : PE X (.BoolOp op [a] pos) (tE X.K X.mg W m) := pe_one h
theorem re_and (ha : PE X a (tE X.K X.mg W ma)) (hb : PE X (.BoolOp .And (b :: rest) pos) (tE X.K X.mg W mb)) : PE X (.BoolOp .And (a :: b :: rest) pos) (tE X.K X.mg W (eAnd ma mb)) :=
  PE.imp (pe_and ha hb) fun σ H Q h => by
    obtain ⟨F, en, R, q⟩ := bl_bind (k := fun b en1 => if b = true then mb en1 else .ok (.dat (.bl false)) en1) h
    refine ⟨F, en, R, q.imp fun F1 H1 en1 r R1 g v hv fr => ?_⟩
    obtain ⟨c, e, g⟩ := g v hv fr
    refine ⟨c, e, ?_⟩
    cases c with
    | true => exact g
    | false => exact tE_bl (X := X) g
theorem re_or (ha : PE X a (tE X.K X.mg W ma)) (hb : PE X (.BoolOp .Or (b :: rest) pos) (tE X.K X.mg W mb)) : PE X (.BoolOp .Or (a :: b :: rest) pos) (tE X.K X.mg W (eOr ma mb)) :=
  PE.imp (pe_or ha hb) fun σ H Q h => by
    obtain ⟨F, en, R, q⟩ := bl_bind (k := fun b en1 => if b = true then .ok (.dat (.bl true)) en1 else mb en1) h
    refine ⟨F, en, R, q.imp fun F1 H1 en1 r R1 g v hv fr => ?_⟩
    obtain ⟨c, e, g⟩ := g v hv fr
    refine ⟨c, e, ?_⟩
    cases c with
    | false => exact g
    | true => exact tE_bl (X := X) g
theorem re_not (ha : PE X a (tE X.K X.mg W ma)) : PE X (.UnaryOp .Not a pos) (tE X.K X.mg W (eNot ma)) :=
  PE.imp (pe_not ha) fun σ H Q h => by
    obtain ⟨F, en, R, q⟩ := bl_bind (k := fun b en1 => .ok (.dat (.bl (!b))) en1) h
    refine ⟨F, en, R, q.imp fun F1 H1 en1 r R1 g v hv fr => ?_⟩
    obtain ⟨c, e, g⟩ := g v hv fr
    exact ⟨c, e, tE_bl (X := X) g⟩
theorem re_if (hc : PT X e (tT X.K X.mg W c)) (ha : PE X a (tE X.K X.mg W ma)) (hb : PE X b (tE X.K X.mg W mb)) : PE X (.IfExp e a b pos) (tE X.K X.mg W (eIf c ma mb)) :=
  PE.imp (pe_ifExp hc ha hb) fun σ H Q ⟨F, en, R, h⟩ => ⟨F, en, R, (OutOk.ofBind h).imp fun F1 H1 en1 b _ ⟨R1, p1, q⟩ => by
    cases b with
    | true =>
      refine ⟨F1, en1, R1, (q.bind p1).imp fun F' H' en' r R' g v hv fr => g v hv ?_⟩
      cases r with
      | new ds => exact fun a e => p1.there a (fr a e)
      | _ => trivial
    | false =>
      refine ⟨F1, en1, R1, (q.bind p1).imp fun F' H' en' r R' g v hv fr => g v hv ?_⟩
      cases r with
      | new ds => exact fun a e => p1.there a (fr a e)
      | _ => trivial⟩
end
end Fw

/-! Fw4: statements, calls of defs. -/
namespace Fw
open PySem PySem.Spec PyProof.Rows L2

theorem PS.imp {X : Cx} {e : Stmt} {t t' : TS} (h : PS X e t) (i : ∀ D σ H, t' D σ H → t D σ H) : PS X e t' := ⟨fun pins s σ H D I q => h.run pins s σ H D I (i D σ H q)⟩
theorem PSs.imp {X : Cx} {e : List Stmt} {t t' : TS} (h : PSs X e t) (i : ∀ D σ H, t' D σ H → t D σ H) : PSs X e t' := ⟨fun pins s σ H D I q => h.run pins s σ H D I (i D σ H q)⟩

/-- a statement's outcome -/
inductive OutS where
  | nx (en : En) | ret (r : Res) (en : En) | brk (en : En) | cont (en : En) | exc (c : Str) (d : Dt) (en : En) | stuck
abbrev MS := En → OutS
/-- what is handed back: data, or a list that is nobody else's -/
def RetOk (K : PySem.W.Frag) (F0 H0 : Hp) (A : Addr → Prop) (F H : Hp) (en : En) (σ : St) (v : V) : Res → Prop
  | .dat d => Rep K F d v
  | .new ds => ∃ a xs, v = .ref a ∧ H a = some (.lst xs) ∧ F a = none ∧ ¬ Own en σ a ∧ (A a ∨ H0 a = none) ∧ Reps K F ds xs
  | .slt _ => False
def SOk (K : PySem.W.Frag) (mg : Str → Option Value) (W : WX) (fx : Nat) (F H : Hp) (en : En) (σ : St) (D : Ends) (o : OutS) : Prop :=
  match o with
  | .nx en' => ∀ σ' F' H', Rel K F' H' en' σ' → Post F H (Own en σ) F' H' (Own en' σ') → σ'.take fx = σ.take fx → D.nx σ' H'
  | .brk en' => ∀ σ' F' H', Rel K F' H' en' σ' → Post F H (Own en σ) F' H' (Own en' σ') → σ'.take fx = σ.take fx → D.bk σ' H'
  | .cont en' => ∀ σ' F' H', Rel K F' H' en' σ' → Post F H (Own en σ) F' H' (Own en' σ') → σ'.take fx = σ.take fx → D.ct σ' H'
  | .ret r en' => ∀ v σ' F' H', Rel K F' H' en' σ' → Post F H (Own en σ) F' H' (Own en' σ') → σ'.take fx = σ.take fx → RetOk K F H (Own en σ) F' H' en' σ' v r → D.rt v H'
  | .exc c d en' => ∀ cls dx σ' F' H', Rel K F' H' en' σ' → Post F H (Own en σ) F' H' (Own en' σ') → σ'.take fx = σ.take fx → ExcOk K mg F' H' cls dx c d → W cls dx σ' H'
  | .stuck => False
def tS (K : PySem.W.Frag) (mg : Str → Option Value) (W : WX) (fx : Nat) (m : MS) : TS := fun D σ H => ∃ F en, Rel K F H en σ ∧ SOk K mg W fx F H en σ D (m en)

section
variable {K : PySem.W.Frag} {mg : Str → Option Value} {W : WX} {fx : Nat} {F F1 H H1 : Hp} {en en1 : En} {σ σ1 : St} {D : Ends}
/-- seen from an earlier start -/
theorem SOk.bind {o : OutS} (p : Post F H (Own en σ) F1 H1 (Own en1 σ1)) (ht : σ1.take fx = σ.take fx) (h : SOk K mg W fx F H en σ D o) : SOk K mg W fx F1 H1 en1 σ1 D o := by
  cases o with
  | nx en' => exact fun σ' F' H' r' p' t => h σ' F' H' r' (p.trans p') (t.trans ht)
  | brk en' => exact fun σ' F' H' r' p' t => h σ' F' H' r' (p.trans p') (t.trans ht)
  | cont en' => exact fun σ' F' H' r' p' t => h σ' F' H' r' (p.trans p') (t.trans ht)
  | ret r en' =>
    intro v σ' F' H' r' p' t q
    refine h v σ' F' H' r' (p.trans p') (t.trans ht) ?_
    cases r with
    | dat d => exact q
    | new ds =>
      obtain ⟨a, xs, e, h1, h2, h3, h4, q⟩ := q
      refine ⟨a, xs, e, h1, h2, h3, ?_, q⟩
      rcases h4 with z | z
      · exact p.own a z
      · exact .inr (p.there a z)
    | slt i => exact q
  | exc c d en' => exact fun cls dx σ' F' H' r' p' t x => h cls dx σ' F' H' r' (p.trans p') (t.trans ht) x
  | stuck => exact h

/-- one's own list is changed -/
theorem mut_slot {i : Nat} {ds es : List Dt} {a : Addr} {ys : List V} (R : Rel K F H en σ) (hi : en[i]? = some (.own ds)) (hv : σ[i]? = some (some (.ref a))) (q : Reps K F es ys) :
    Rel K F (upd H a (.lst ys)) (en.set i (.own es)) σ ∧ Post F H (Own en σ) F (upd H a (.lst ys)) (Own (en.set i (.own es)) σ) := by
  obtain ⟨b, xs, e, h1, h2, _⟩ := R.ok i _ _ hi hv
  cases e
  have hlt : i < en.length := (List.getElem?_eq_some_iff.mp hi).1
  have own' : ∀ (j : Nat) (fs : List Dt), (en.set i (.own es))[j]? = some (.own fs) → ∃ gs, en[j]? = some (.own gs) := fun j fs e => by
    by_cases hj : j = i
    · subst hj; exact ⟨_, hi⟩
    · rw [List.getElem?_set_ne (Ne.symm hj)] at e; exact ⟨_, e⟩
  have nF : ∀ b o, F b = some o → b ≠ a := fun b o e z => by subst z; rw [h2] at e; cases e
  refine ⟨⟨fun b o e => by rw [upd_ne (nF b o e)]; exact R.sub b o e, by rw [List.length_set]; exact R.len, fun j s o e1 e2 => ?_, fun j k fs gs b e1 e2 e3 e4 => ?_⟩,
    ⟨Same.refl _, fun b o e n => ?_, fun b e => ?_, fun b o e => .inl e, fun b ⟨j, fs, e1, e2⟩ => ?_⟩⟩
  · by_cases hj : j = i
    · subst hj
      rw [List.getElem?_set_self hlt] at e1; cases e1
      rw [hv] at e2; cases e2
      exact ⟨a, ys, rfl, upd_same, h2, q⟩
    · rw [List.getElem?_set_ne (Ne.symm hj)] at e1
      have p := R.ok j s o e1 e2
      cases s with
      | un => trivial
      | val d => exact p
      | scr ns => exact p
      | own fs =>
        obtain ⟨b, zs, e, h3, h4, p⟩ := p
        refine ⟨b, zs, e, ?_, h4, p⟩
        rw [upd_ne ?_]
        · exact h3
        · rintro rfl
          exact hj (R.ne j i _ _ _ e1 hi (by rw [e2, e]) hv)
  · obtain ⟨_, e1'⟩ := own' j fs e1
    obtain ⟨_, e2'⟩ := own' k gs e2
    exact R.ne j k _ _ b e1' e2' e3 e4
  · rw [upd_ne ?_]
    · exact e
    · rintro rfl; exact n ⟨i, ds, hi, hv⟩
  · by_cases hb : b = a
    · subst hb; rw [upd_same] at e; cases e
    · rw [upd_ne hb] at e; exact e
  · obtain ⟨_, e1'⟩ := own' j fs e1
    exact .inl ⟨j, _, e1', e2⟩
theorem own_set_val {i : Nat} {d : Dt} {b : Addr} {v : Option V} (h : Own (en.set i (.val d)) (σ.set i v) b) : Own en σ b := by
  obtain ⟨j, fs, e1, e2⟩ := h
  by_cases hj : j = i
  · subst hj
    rw [List.getElem?_set] at e1
    simp at e1
  · rw [List.getElem?_set_ne (Ne.symm hj)] at e1 e2
    exact ⟨j, fs, e1, e2⟩
/-- data is stored -/
theorem store_val {i : Nat} {d : Dt} {v : V} (R : Rel K F H en σ) (q : Rep K F d v) : Rel K F H (en.set i (.val d)) (σ.set i (some v)) ∧ Post F H (Own en σ) F H (Own (en.set i (.val d)) (σ.set i (some v))) := by
  refine ⟨⟨R.sub, by rw [List.length_set, List.length_set]; exact R.len, fun j s o e1 e2 => ?_, fun j k fs gs b e1 e2 e3 e4 => ?_⟩, ⟨Same.refl _, fun _ _ h _ => h, fun _ h => h, fun _ _ h => .inl h, fun b h => .inl (own_set_val h)⟩⟩
  · by_cases hj : j = i
    · subst hj
      rw [List.getElem?_set] at e1 e2
      simp only [if_pos trivial] at e1 e2
      split at e1
      · cases e1
        split at e2
        · cases e2; exact ⟨v, rfl, q⟩
        · cases e2
      · cases e1
    · rw [List.getElem?_set_ne (Ne.symm hj)] at e1 e2
      exact R.ok j s o e1 e2
  · by_cases hj : j = i
    · subst hj
      rw [List.getElem?_set] at e1
      simp at e1
    · by_cases hk : k = i
      · subst hk
        rw [List.getElem?_set] at e2
        simp at e2
      · rw [List.getElem?_set_ne (Ne.symm hj)] at e1 e3
        rw [List.getElem?_set_ne (Ne.symm hk)] at e2 e4
        exact R.ne j k fs gs b e1 e2 e3 e4
/-- a new list is stored -/
theorem store_own {i : Nat} {ds : List Dt} {a : Addr} {xs : List V} {H0 : Hp} {F0 : Hp} {A0 : Addr → Prop} (p : Post F0 H0 A0 F H (Own en σ)) (R : Rel K F H en σ) (h1 : H a = some (.lst xs)) (h2 : F a = none) (h3 : ¬ Own en σ a) (n : H0 a = none) (q : Reps K F ds xs) :
    Rel K F H (en.set i (.own ds)) (σ.set i (some (.ref a))) ∧ Post F0 H0 A0 F H (Own (en.set i (.own ds)) (σ.set i (some (.ref a)))) := by
  have old : ∀ (j : Nat) (fs : List Dt) (b : Addr), (en.set i (.own ds))[j]? = some (.own fs) → (σ.set i (some (.ref a)))[j]? = some (some (.ref b)) → (j = i ∧ b = a) ∨ (j ≠ i ∧ en[j]? = some (.own fs) ∧ σ[j]? = some (some (.ref b))) := fun j fs b e1 e2 => by
    by_cases hj : j = i
    · subst hj
      rw [List.getElem?_set] at e2
      simp only [if_pos trivial] at e2
      split at e2
      · cases e2; exact .inl ⟨rfl, rfl⟩
      · cases e2
    · rw [List.getElem?_set_ne (Ne.symm hj)] at e1 e2
      exact .inr ⟨hj, e1, e2⟩
  refine ⟨⟨R.sub, by rw [List.length_set, List.length_set]; exact R.len, fun j s o e1 e2 => ?_, fun j k fs gs b e1 e2 e3 e4 => ?_⟩, ⟨p.sub, p.keep, p.there, p.frz, fun b ⟨j, fs, e1, e2⟩ => ?_⟩⟩
  · by_cases hj : j = i
    · subst hj
      rw [List.getElem?_set] at e1 e2
      simp only [if_pos trivial] at e1 e2
      split at e1
      · cases e1
        split at e2
        · cases e2; exact ⟨a, xs, rfl, h1, h2, q⟩
        · cases e2
      · cases e1
    · rw [List.getElem?_set_ne (Ne.symm hj)] at e1 e2
      exact R.ok j s o e1 e2
  · rcases old j fs b e1 e3 with ⟨z1, z2⟩ | ⟨z1, z2, z3⟩ <;> rcases old k gs b e2 e4 with ⟨y1, y2⟩ | ⟨y1, y2, y3⟩
    · rw [z1, y1]
    · subst z2; exact absurd ⟨k, gs, y2, y3⟩ h3
    · subst y2; exact absurd ⟨j, fs, z2, z3⟩ h3
    · exact R.ne j k fs gs b z2 y2 z3 y3
  · rcases old j fs b e1 e2 with ⟨z1, z2⟩ | ⟨z1, z2, z3⟩
    · subst z2; exact .inr n
    · exact p.own b ⟨j, fs, z2, z3⟩
theorem take_set {α : Type} {l : List α} {i : Nat} {x : α} {fx : Nat} (h : fx ≤ i) : (l.set i x).take fx = l.take fx := by
  rw [List.take_set, List.set_eq_of_length_le]
  rw [List.length_take]; omega
end

/-! ### blocks -/
def OutS.seq (o : OutS) (m : MS) : OutS := match o with
  | .nx en => m en
  | o => o
def sSeq (m k : MS) : MS := fun en => (m en).seq k
def sSkip : MS := fun en => .nx en
def sRaiseStuck : MS := fun _ => .stuck
/-- behind an expression -/
def Out.then {α : Type} (o : Out α) (k : α → En → OutS) : OutS := match o with
  | .ok a en => k a en
  | .exc c d en => .exc c d en
  | .stuck => .stuck
section
variable {X : Cx} {W : WX} {fx : Nat} {e a b : Expr} {es : List Expr} {m : M Res} {ma mb : MS} {st' : Stmt} {rest : List Stmt} {pos : Pos} {c : M Bool}
theorem rss_nil : PSs X [] (tS X.K X.mg W fx sSkip) := PSs.imp pss_nil fun D σ H ⟨F, en, R, h⟩ => h σ F H R .refl rfl
theorem rss_cons (h1 : PS X st' (tS X.K X.mg W fx ma)) (h2 : PSs X rest (tS X.K X.mg W fx mb)) : PSs X (st' :: rest) (tS X.K X.mg W fx (sSeq ma mb)) :=
  PSs.imp (pss_cons h1 h2) fun D σ H ⟨F, en, R, h⟩ => by
    refine ⟨F, en, R, ?_⟩
    unfold sSeq at h
    cases q : ma en with
    | nx en' => rw [q] at h; exact fun σ' F' H' R' p' t' => ⟨F', en', R', h.bind p' t'⟩
    | brk en' => rw [q] at h; exact h
    | cont en' => rw [q] at h; exact h
    | ret r en' => rw [q] at h; exact h
    | exc c d en' => rw [q] at h; exact h
    | stuck => rw [q] at h; exact h
theorem rss_one (h1 : PS X st' (tS X.K X.mg W fx ma)) : PSs X [st'] (tS X.K X.mg W fx ma) := pss_one h1
/-- from a statement's outcome back to its expression's -/
theorem SOk.ofThen {α : Type} {K : PySem.W.Frag} {mg : Str → Option Value} {F H : Hp} {en : En} {σ : St} {D : Ends} {o : Out α} {k : α → En → OutS} (h : SOk K mg W fx F H en σ D (o.then k)) :
    OutOk K mg W F H en σ o fun F1 H1 en1 a => Rel K F1 H1 en1 σ ∧ Post F H (Own en σ) F1 H1 (Own en1 σ) ∧ SOk K mg W fx F H en σ D (k a en1) := by
  cases o with
  | ok a en1 => exact fun F1 H1 R p => ⟨R, p, h⟩
  | exc c d en1 => exact fun cls dx F1 H1 R p x => h cls dx σ F1 H1 R p rfl x
  | stuck => exact h
theorem rs_pass : PS X (.Pass pos) (tS X.K X.mg W fx sSkip) := PS.imp ps_pass fun D σ H ⟨F, en, R, h⟩ => h σ F H R .refl rfl
theorem rs_break : PS X (.Break pos) (tS X.K X.mg W fx fun en => .brk en) := PS.imp ps_break fun D σ H ⟨F, en, R, h⟩ => h σ F H R .refl rfl
theorem rs_continue : PS X (.Continue pos) (tS X.K X.mg W fx fun en => .cont en) := PS.imp ps_continue fun D σ H ⟨F, en, R, h⟩ => h σ F H R .refl rfl
theorem rs_doc {x j pos'} : PS X (.Expr (.Constant (.str x) j pos) pos') (tS X.K X.mg W fx sSkip) := PS.imp ps_doc fun D σ H ⟨F, en, R, h⟩ => h σ F H R .refl rfl
/-- code that is never come to -/
theorem rs_never : PS X st' (tS X.K X.mg W fx fun _ => .stuck) := PS.imp ps_never fun D σ H ⟨F, en, R, h⟩ => h
def sDrop (m : M Res) : MS := fun en => (m en).then fun _ en1 => .nx en1
theorem rs_expr (he : PE X e (tE X.K X.mg W m)) (hs : swapsWith e none pos.line X.env = pure false := by rfl) : PS X (.Expr e pos) (tS X.K X.mg W fx (sDrop m)) :=
  PS.imp (ps_expr he hs) fun D σ H ⟨F, en, R, h⟩ => ⟨F, en, R, h.ofThen.imp fun F1 H1 en1 r _ ⟨R1, p1, q⟩ v _ _ => q σ F1 H1 R1 p1 rfl⟩
def sIf (c : M Bool) (ma mb : MS) : MS := fun en => (c en).then fun b en1 => if b = true then ma en1 else mb en1
theorem rs_if {l r : List Stmt} (hc : PT X e (tT X.K X.mg W c)) (ha : PSs X l (tS X.K X.mg W fx ma)) (hb : PSs X r (tS X.K X.mg W fx mb)) : PS X (.If e l r pos) (tS X.K X.mg W fx (sIf c ma mb)) :=
  PS.imp (ps_if hc ha hb) fun D σ H ⟨F, en, R, h⟩ => ⟨F, en, R, h.ofThen.imp fun F1 H1 en1 b _ ⟨R1, p1, q⟩ => by
    cases b with
    | true => exact ⟨F1, en1, R1, q.bind p1 rfl⟩
    | false => exact ⟨F1, en1, R1, q.bind p1 rfl⟩⟩
/-- return e: a list of one's own goes along -/
def sRet (fx : Nat) (m : M Res) : MS := fun en => (m en).then fun r en1 => match r with
  | .dat d => .ret (.dat d) en1
  | .new ds => .ret (.new ds) en1
  | .slt i => match en1[i]? with
    | some (.val d) => .ret (.dat d) en1
    | some (.own ds) => if fx ≤ i then .ret (.new ds) (en1.set i .un) else .stuck
    | _ => .stuck
theorem drop_slot {K : PySem.W.Frag} {F H : Hp} {en : En} {σ : St} {i : Nat} {ds : List Dt} {a : Addr} (R : Rel K F H en σ) (hi : en[i]? = some (.own ds)) (hv : σ[i]? = some (some (.ref a))) :
    Rel K F H (en.set i .un) σ ∧ (∀ b, Own (en.set i .un) σ b → Own en σ b) ∧ ¬ Own (en.set i .un) σ a := by
  have hlt : i < en.length := (List.getElem?_eq_some_iff.mp hi).1
  have old : ∀ (j : Nat) s, (en.set i .un)[j]? = some s → s ≠ .un → j ≠ i ∧ en[j]? = some s := fun j s e n => by
    by_cases hj : j = i
    · subst hj; rw [List.getElem?_set_self hlt] at e; cases e; exact absurd rfl n
    · rw [List.getElem?_set_ne (Ne.symm hj)] at e; exact ⟨hj, e⟩
  refine ⟨⟨R.sub, by rw [List.length_set]; exact R.len, fun j s o e1 e2 => ?_, fun j k fs gs b e1 e2 e3 e4 => R.ne j k fs gs b (old j _ e1 (by intro z; cases z)).2 (old k _ e2 (by intro z; cases z)).2 e3 e4⟩, fun b ⟨j, fs, e1, e2⟩ => ⟨j, fs, (old j _ e1 (by intro z; cases z)).2, e2⟩, fun ⟨j, fs, e1, e2⟩ => ?_⟩
  · cases s with
    | un => trivial
    | val d => exact R.ok j _ o (old j _ e1 (by intro z; cases z)).2 e2
    | own fs => exact R.ok j _ o (old j _ e1 (by intro z; cases z)).2 e2
    | scr ns => exact R.ok j _ o (old j _ e1 (by intro z; cases z)).2 e2
  · obtain ⟨n, e⟩ := old j _ e1 (by intro z; cases z)
    exact n (R.ne j i _ _ a e hi e2 hv)
theorem rs_ret (he : PE X e (tE X.K X.mg W m)) : PS X (.Return (some e) pos) (tS X.K X.mg W fx (sRet fx m)) :=
  PS.imp (ps_ret he) fun D σ H ⟨F, en, R, h⟩ => ⟨F, en, R, h.ofThen.imp fun F1 H1 en1 r _ ⟨R1, p1, q⟩ v hv fr => by
    cases r with
    | dat d => exact q v σ F1 H1 R1 p1 rfl hv
    | new ds =>
      obtain ⟨a, xs, e, h1, h2, h3, g⟩ := hv
      exact q v σ F1 H1 R1 p1 rfl ⟨a, xs, e, h1, h2, h3, .inr (fr a e), g⟩
    | slt i =>
      have hv : σ[i]? = some (some v) := hv
      cases z : en1[i]? with
      | none => simp only [z] at q; exact q.elim
      | some s =>
        have pp := R1.ok i s _ z hv
        cases s with
        | un => simp only [z] at q; exact q.elim
        | scr ns => simp only [z] at q; exact q.elim
        | val d => simp only [z] at q; obtain ⟨v', e, pp⟩ := pp; cases e; exact q v σ F1 H1 R1 p1 rfl pp
        | own ds =>
          simp only [z] at q
          split at q
          · obtain ⟨a, xs, e, h1, h2, pp⟩ := pp
            cases e
            obtain ⟨R2, o2, n2⟩ := drop_slot R1 z hv
            refine q _ σ F1 H1 R2 ⟨p1.sub, p1.keep, p1.there, p1.frz, fun b hb => p1.own b (o2 b hb)⟩ rfl ⟨a, xs, rfl, h1, h2, n2, p1.own a ⟨i, ds, z, hv⟩, pp⟩
          · exact q.elim⟩
theorem rs_retN : PS X (.Return none pos) (tS X.K X.mg W fx fun en => .ret (.dat .non) en) := PS.imp ps_retN fun D σ H ⟨F, en, R, h⟩ => h _ σ F H R .refl rfl rfl
/-- name = value -/
def putR (i : Nat) (r : Res) (en : En) : OutS := match r with
  | .dat d => .nx (en.set i (.val d))
  | .new ds => .nx (en.set i (.own ds))
  | .slt j => match en[j]? with
    | some (.val d) => .nx (en.set i (.val d))
    | some (.own ds) => .nx ((en.set j (.val (.lst ds))).set i (.val (.lst ds)))
    | _ => .stuck
def sSet (i : Nat) (m : M Res) : MS := fun en => (m en).then (putR i)
theorem put_ok {K : PySem.W.Frag} {mg : Str → Option Value} {F H F1 H1 : Hp} {en en1 : En} {σ : St} {D : Ends} {i : Nat} {r : Res} {v : V} (hf : fx ≤ i) (R1 : Rel K F1 H1 en1 σ) (p1 : Post F H (Own en σ) F1 H1 (Own en1 σ))
    (q : SOk K mg W fx F H en σ D (putR i r en1)) (hv : ResOk K F1 H1 en1 σ v r) (fr : Fresh H v r) : D.nx (σ.set i (some v)) H1 := by
  cases r with
  | dat d =>
    obtain ⟨R2, p2⟩ := store_val (i := i) R1 hv
    exact q _ F1 H1 R2 (p1.trans p2) (take_set hf)
  | new ds =>
    obtain ⟨a, xs, e, h1, h2, h3, g⟩ := hv
    subst e
    obtain ⟨R2, p2⟩ := store_own (i := i) p1 R1 h1 h2 h3 (fr a rfl) g
    exact q _ F1 H1 R2 p2 (take_set hf)
  | slt j =>
    have hv : σ[j]? = some (some v) := hv
    unfold putR at q
    cases z : en1[j]? with
    | none => simp only [z] at q; exact q.elim
    | some s =>
      have pp := R1.ok j s _ z hv
      cases s with
      | un => simp only [z] at q; exact q.elim
      | scr ns => simp only [z] at q; exact q.elim
      | val d =>
        simp only [z] at q; obtain ⟨v', e, pp⟩ := pp; cases e
        obtain ⟨R2, p2⟩ := store_val (i := i) R1 pp
        exact q _ F1 H1 R2 (p1.trans p2) (take_set hf)
      | own ds =>
        simp only [z] at q
        obtain ⟨F2, R2, p2, pp⟩ := freeze_slot R1 z hv
        obtain ⟨R3, p3⟩ := store_val (i := i) R2 pp
        exact q _ F2 H1 R3 ((p1.trans p2).trans p3) (take_set hf)
theorem rs_set (i : Nat) {x : Str} {pos' : Pos} (hf : fx ≤ i) (hN : X.N.Nodup) (he : PE X e (tE X.K X.mg W m)) (hi : X.N[i]? = some x := by rfl) (hx : Loc X.env.scope x := by first | exact Or.inl rfl | exact Or.inr rfl)
    (hs : swapsWith e (some (.Name x pos')) pos.line X.env = pure false := by rfl) (hfn : X.fn x = true ∨ X.env.scope.names.lookup x = some .local := by first | exact .inl rfl | exact .inr rfl) :
    PS X (.Assign [.Name x pos'] e pos) (tS X.K X.mg W fx (sSet i m)) :=
  PS.imp (ps_set hN hi hx he hs hfn) fun D σ H ⟨F, en, R, h⟩ => ⟨F, en, R, h.ofThen.imp fun F1 H1 en1 r _ ⟨R1, p1, q⟩ v hv fr => put_ok hf R1 p1 q hv fr⟩
end
end Fw

/-! Fw5: defs by their functions. -/
namespace Fw
open PySem PySem.Spec PyProof.Rows L2

/-- what a def's call comes to -/
inductive FOut where
  | ret (r : Res) | exc (c : Str) (d : Dt) | stuck
abbrev FS := List Dt → FOut
def FOk (K : PySem.W.Frag) (mg : Str → Option Value) (F H : Hp) (o : FOut) (Q : VK) (E : XK) : Prop :=
  match o with
  | .ret r => ∀ v F' H', Grow F H F' H' → PrOk K H F' H' v r → Q v H'
  | .exc c d => ∀ cls dx F' H', Grow F H F' H' → ExcOk K mg F' H' cls dx c d → E cls dx H'
  | .stuck => False
def spF (K : PySem.W.Frag) (mg : Str → Option Value) (n : Nat) (sem : FS) : Sp := fun vs H Q E => ∃ F ds, Same F H ∧ Reps K F ds vs ∧ ds.length = n ∧ FOk K mg F H (sem ds) Q E
def OutS.fout : OutS → FOut
  | .nx _ => .ret (.dat .non)
  | .ret r _ => .ret r
  | .exc c d _ => .exc c d
  | _ => .stuck
def FOut.out (o : FOut) (en : En) : Out Res := match o with
  | .ret (.slt _) => .stuck
  | .ret r => .ok r en
  | .exc c d => .exc c d en
  | .stuck => .stuck
/-- a def's environment at its entry -/
def startE (n : Nat) (ds : List Dt) : En := ds.map .val ++ List.replicate (n - ds.length) .un
/-- a def by its body: n slots -/
def semF (n : Nat) (m : MS) : FS := fun ds => (m (startE n ds)).fout

section
variable {K : PySem.W.Frag} {mg : Str → Option Value} {F F' H H' : Hp} {en : En} {σ : St}
theorem startE_get {n : Nat} {ds : List Dt} {i : Nat} {s : Sl} (h : (startE n ds)[i]? = some s) : (∃ d, ds[i]? = some d ∧ s = .val d) ∨ s = .un := by
  unfold startE at h
  by_cases hi : i < ds.length
  · rw [List.getElem?_append_left (by simpa using hi), List.getElem?_map, List.getElem?_eq_getElem hi] at h
    cases h
    exact .inl ⟨_, List.getElem?_eq_getElem hi, rfl⟩
  · rw [List.getElem?_append_right (by simpa using hi), List.getElem?_replicate] at h
    split at h
    · cases h; exact .inr rfl
    · cases h
theorem start_rel {N : List Str} {ds : List Dt} {vs : List V} (s : Same F H) (r : Reps K F ds vs) : Rel K F H (startE N.length ds) (L2.start N vs) := by
  have hl := r.length
  refine ⟨s, ?_, fun i s o e1 e2 => ?_, fun i j ds' es' a e1 => ?_⟩
  · unfold startE L2.start
    simp [hl]
  · rcases startE_get e1 with ⟨d, e, rfl⟩ | rfl
    · obtain ⟨v, e', q⟩ := r.get e
      have hi : i < vs.length := (List.getElem?_eq_some_iff.mp e').1
      unfold L2.start at e2
      rw [List.getElem?_append_left (by simpa using hi), List.getElem?_map, e'] at e2
      cases e2
      exact ⟨v, rfl, q⟩
    · trivial
  · rcases startE_get e1 with ⟨d, e, z⟩ | z <;> cases z
theorem start_own {n : Nat} {ds : List Dt} {a : Addr} (h : Own (startE n ds) σ a) : False := by
  obtain ⟨i, es, e1, _⟩ := h
  rcases startE_get e1 with ⟨d, e, z⟩ | z <;> cases z
theorem Post.grow0 {A A' : Addr → Prop} (p : Post F H A F' H' A') (n : ∀ b, ¬ A b) (s : Same F' H') : Grow F H F' H' :=
  ⟨p.sub, fun b o h => p.keep b o h (n b), s, fun b o h => by
    rcases p.frz b o h with z | z | z
    · exact .inl z
    · exact .inr z
    · exact absurd z (n b)⟩
end

/-- what a body's derivation stands in -/
structure Ct (X : Cx) (W : WX) (k : Nat) : Prop where
  calm : X.calm = true
  nd : X.N.Nodup
  tk : Takes X W
  room : Room k X.A
  pass : PassesOwn (model X.prog X.w) X.A X.env X.xe

section
variable {P : Program} {w : World} {K : PySem.W.Frag} {mg : Str → Option Value} {base : Heap}
/-- a def by its body -/
theorem okF {x qual : Str} {st : Stmt} {f : Addr} {fd : FuncData} {N ps : List Str} {k : Nat} {m : MS} (F : Fun K x qual st f fd) (S : FnScope N ps (defScope st))
    (hbody : ∀ (cdv : Value) (A : Around) (outer : List Env) (s : Shared) (H : Hp) (E : XK),
      Ct (cxOf (L2.CX P w) P w K mg base N qual (defScope st) f cdv A outer s H E) (fun cls d _ H => E cls d H) k →
      PSs (cxOf (L2.CX P w) P w K mg base N qual (defScope st) f cdv A outer s H E) (defBody st) (tS K mg (fun cls d _ H => E cls d H) 0 m)) :
    FnOk P w K mg base (L2.CX P w) (k + 1) f fd ps (spF K mg ps.length (semF N.length m)) := by
  refine F.okX S (fun vs H Q E ⟨F0, ds, s, r, hl, _⟩ => r.length.symm.trans hl) fun cdv A outer s H vs Q E hr ⟨F0, ds, sm, r, hl, hq⟩ => ?_
  refine ⟨_, hbody cdv A outer s H E ⟨rfl, S.nd, takes_of rfl rfl rfl rfl, hr, passes_of rfl⟩, F0, startE N.length ds, start_rel sm r, ?_⟩
  unfold semF at hq
  cases e : m (startE N.length ds) with
  | nx en' =>
    rw [e] at hq
    exact fun σ' F' H' R' p' _ => hq _ F' H' (p'.grow0 (fun b z => start_own z) R'.sub) rfl
  | ret r en' =>
    rw [e] at hq
    intro v σ' F' H' R' p' _ q
    refine hq v F' H' (p'.grow0 (fun b z => start_own z) R'.sub) ?_
    cases r with
    | dat d => exact q
    | new es =>
      obtain ⟨a, xs, e, h1, h2, _, h4, q⟩ := q
      exact ⟨a, xs, e, h4.elim (fun z => (start_own z).elim) id, h1, h2, q⟩
    | slt i => exact q
  | brk en' => rw [e] at hq; exact hq.elim
  | cont en' => rw [e] at hq; exact hq.elim
  | exc c d en' =>
    rw [e] at hq
    exact fun cls dx σ' F' H' R' p' _ x => hq cls dx F' H' (p'.grow0 (fun b z => start_own z) R'.sub) x
  | stuck => rw [e] at hq; exact hq.elim
/-- a function in another form -/
theorem FnOk.sem {f : Addr} {fd : FuncData} {ps : List Str} {k n : Nat} {sem sem' : FS} (F : FnOk P w K mg base (L2.CX P w) k f fd ps (spF K mg n sem)) (h : ∀ ds, ds.length = n → sem' ds ≠ .stuck → sem ds = sem' ds) :
    FnOk P w K mg base (L2.CX P w) k f fd ps (spF K mg n sem') := F.imp fun vs H Q E ⟨F0, ds, s, r, hl, q⟩ => ⟨F0, ds, s, r, hl, by
  have n : sem' ds ≠ .stuck := fun z => by rw [z] at q; exact q
  rw [h ds hl n]; exact q⟩
end

/-! ### calls -/
section
variable {X : Cx} {W : WX} {k : Nat} {f : Addr} {fd : FuncData} {ps : List Str} {x : Str} {p pos : Pos} {e : Expr} {es : List Expr} {ms : M (List Dt)} {n : Nat} {sem : FS}
def eCall (n : Nat) (sem : FS) (ms : M (List Dt)) : M Res := fun en => (ms en).bind fun ds en1 => if ds.length = n then (sem ds).out en1 else .stuck
theorem call_core {σ : St} {H : Hp} {Q : VK} (h : tE X.K X.mg W (eCall n sem ms) σ H Q) : tVs X.K X.mg W ms σ H fun vs H1 => spF X.K X.mg n sem vs H1 Q (WE W σ) := by
  obtain ⟨F, en, R, h⟩ := h
  refine ⟨F, en, R, (OutOk.ofBind h).imp fun F1 H1 en1 ds _ ⟨R1, p1, q⟩ vs hvs => ?_⟩
  by_cases hn : ds.length = n
  · rw [if_pos hn] at q
    refine ⟨F1, ds, R1.sub, hvs, hn, ?_⟩
    cases z : sem ds with
    | ret r =>
      rw [z] at q
      intro v F' H' g pr
      obtain ⟨q1, q2⟩ := pr.res R1
      cases r with
      | slt i => exact pr.elim
      | dat d => exact q F' H' (R1.grow g) (p1.trans g.post) v q1 trivial
      | new ds => exact q F' H' (R1.grow g) (p1.trans g.post) v q1 fun a e => p1.there a (q2 a e)
    | exc c d =>
      rw [z] at q
      exact fun cls dx F' H' g x => q cls dx F' H' (R1.grow g) (p1.trans g.post) x
    | stuck => rw [z] at q; exact q
  · rw [if_neg hn] at q; exact q.elim
theorem re_call (tk : Takes X W) (hr : Room k X.A) (O : FnOk X.prog X.w X.K X.mg X.base (L2.CX X.prog X.w) k f fd ps (spF X.K X.mg n sem)) (hm : X.mg x = some (.ref f)) (hk : PySem.W.keepIn X.K (.ref f) = true) (hb : Binds X.K fd ps [])
    (ha : PA X (e :: es) (tVs X.K X.mg W ms)) (hg : Gl X x := by rfl) (hdb : (x == ("__debug__" : Str)) = false := by decide) (he : starEach (e :: es) X.env = (false, eval e X.env) :: starEach es X.env := by rfl) (hpl : (backTo pos (starEach es X.env)).any (·.1) = false := by rfl) :
    PE X (.Call (.Name x p) (e :: es) [] pos) (tE X.K X.mg W (eCall n sem ms)) :=
  PE.imp (pe_callS O hr hg hm hk hb (fun σ => passAt tk σ) ha hdb he hpl) fun σ H Q h => call_core h

/-! keywords alone -/
def pmL {α : Type} (pm : List Nat) (ws : List α) : List α := pm.filterMap fun i => ws[i]?
theorem reps_pm {K : PySem.W.Frag} {F : Hp} {ds : List Dt} {vs : List V} (r : Reps K F ds vs) : ∀ pm : List Nat, Reps K F (pmL pm ds) (pmL pm vs)
  | [] => rfl
  | i :: pm => by
    unfold pmL
    rw [List.filterMap_cons, List.filterMap_cons]
    cases e : ds[i]? with
    | none =>
      have e' : vs[i]? = none := by
        rw [List.getElem?_eq_none_iff] at e ⊢
        rw [← r.length]; exact e
      simp only [e']
      exact reps_pm r pm
    | some d =>
      obtain ⟨v, e', q⟩ := r.get e
      simp only [e']
      exact ⟨v, _, rfl, q, reps_pm r pm⟩
theorem vals_pm {vs : List V} {us : List Value} (r : Vals vs us) : ∀ pm : List Nat, Vals (pmL pm vs) (pmL pm us)
  | [] => .nil
  | i :: pm => by
    unfold pmL
    rw [List.filterMap_cons, List.filterMap_cons]
    cases e : vs[i]? with
    | none =>
      simp only [r.none_of e]
      exact vals_pm r pm
    | some d =>
      obtain ⟨v, e', q⟩ := r.get e
      simp only [e']
      exact .cons q (vals_pm r pm)
theorem pk_vs : ∀ {kws : List Keyword} {ms : M (List Dt)}, PA X (kws.map fun k => k.value) (tVs X.K X.mg W ms) → True := fun _ => trivial
theorem ks_nil : PK X [] (tVs X.K X.mg W vNil) := ⟨fun pos pins s σ H Q I ⟨F, en, R, h⟩ => pk_nil.run pos pins s σ H Q I (h F H R .refl [] rfl)⟩
theorem ks_cons {kws : List Keyword} {nm : Option Str} {kpos : Pos} {m : M Res} (ha : PE X e (tE X.K X.mg W m)) (hr : PK X kws (tVs X.K X.mg W ms)) : PK X (⟨nm, e, kpos⟩ :: kws) (tVs X.K X.mg W (vCons m ms)) :=
  ⟨fun pos pins s σ H Q I ⟨F, en, R, h⟩ => (pk_cons (nm := nm) (kpos := kpos) ha hr).run pos pins s σ H Q I ⟨F, en, R, (vald h).imp fun F1 H1 en1 r0 _ q v hv fr => by
    obtain ⟨F2, en2, d, R2, p2, hv2, q⟩ := q v hv fr
    refine ⟨F2, en2, R2, (OutOk.ofBind q).imp fun F3 H3 en3 rs R3 ⟨_, p3, q3⟩ vs hvs => ?_⟩
    exact q3 F3 H3 R3 p3 (v :: vs) ⟨v, vs, rfl, Rep.mono p3.sub _ _ hv2, hvs⟩⟩⟩
/-- how keywords alone bind -/
def KwB (fd : FuncData) (ps ks : List Str) (pm : List Nat) : Prop := ∀ (s : Shared) (ws : List Value), ws.length = ks.length → BindsTo s fd ⟨[], ks.zip ws⟩ (ps.zip (pmL pm ws))
theorem Fun_kwb {K : PySem.W.Frag} {x qual : Str} {st : Stmt} {f : Addr} {fd : FuncData} {ps ks : List Str} {pm : List Nat} (F : Fun K x qual st f fd)
    (h : ∀ (kV doc pmv : Value) (an : Option Addr) (cdv ct : Value) (ws : List Value), ws.length = ks.length → bindArgs (PySem.W.fnOf x qual (defArgs st) (defBody st) (defScope st) .none kV doc pmv an cdv ct) ⟨[], ks.zip ws⟩ = pure (ps.zip (pmL pm ws))) : KwB fd ps ks pm := by
  obtain ⟨oc, od, kV, doc, pmv, an, cdv, ct, osl, rfl, lk, hcd⟩ := F.ex
  exact fun s ws hl => .of_eq (h kV doc pmv an cdv ct ws hl)
def eCallK (n nk : Nat) (pm : List Nat) (sem : FS) (ms : M (List Dt)) : M Res := eCall n sem fun en => (ms en).bind fun ds en1 => if ds.length = nk then .ok (pmL pm ds) en1 else .stuck
theorem re_callK {kws : List Keyword} {ks : List Str} {pm : List Nat} (tk : Takes X W) (hr : Room k X.A) (O : FnOk X.prog X.w X.K X.mg X.base (L2.CX X.prog X.w) k f fd ps (spF X.K X.mg n sem)) (hm : X.mg x = some (.ref f)) (hk : PySem.W.keepIn X.K (.ref f) = true) (hb : KwB fd ps ks pm)
    (ha : PK X kws (tVs X.K X.mg W ms)) (hks : (backToKw pos (keywordEach kws X.env)).filterMap (·.1) = ks := by rfl) (hall : (backToKw pos (keywordEach kws X.env)).all (·.1.isSome) = true := by rfl) (hg : Gl X x := by rfl) (hdb : (x == ("__debug__" : Str)) = false := by decide)
    (hpl : ((backTo pos (starEach [] X.env)).any (·.1) || (backToKw pos (keywordEach kws X.env)).any (·.1.isNone)) = false := by rfl) :
    PE X (.Call (.Name x p) [] kws pos) (tE X.K X.mg W (eCallK n ks.length pm sem ms)) := by
  refine ⟨fun pins s σ H Q I h => ?_⟩
  refine wpAny_Call_Name_kw (ld_glob I hg hm ?_ hdb)
  obtain ⟨F, en, R, h⟩ := call_core (X := X) h
  refine PySem.W.callWith_KW0 (h₀ := X.base) I.ok.mod.kin hk hall (thn (ha.run pos pins s σ H (fun vs H1 => vs.length = ks.length ∧ spF X.K X.mg n sem (pmL pm vs) H1 Q (WE W σ)) I ⟨F, en, R, (OutOk.ofBind h).imp fun F1 H1 en1 ds _ ⟨R1, p1, q⟩ vs hvs => ?_⟩) fun us s1 ⟨vs, H1, I1, r, hl, q⟩ => ⟨I1.kIn, ?_⟩) hpl
  · by_cases hn : ds.length = ks.length
    · rw [if_pos hn] at q
      exact ⟨by rw [← hvs.length]; exact hn, q F1 H1 R1 p1 _ (reps_pm hvs pm)⟩
    · rw [if_neg hn] at q; exact q.elim
  · rw [hks]
    have r2 := vals_pm r pm
    refine wpAny_call (codeAny_mono (O.run X.A X.stack s1 H1 ⟨[], ks.zip us⟩ (pmL pm us) (pmL pm vs) Q (WE W σ) hr I1.env0 (hb s1 us (by rw [← r.length]; exact hl)) r2 q) fun r s' hq => ?_)
    cases r with
    | error e => exact passAt tk σ pins H1 s1 e s' I1 hq
    | ok fl =>
      cases fl with
      | ret u => exact I1.after hq
      | next => exact False.elim hq
      | brk => exact False.elim hq
      | cont => exact False.elim hq
end

/-! ### defs whose first parameter is a list that they change -/
inductive FOutR where
  | ret (r : Res) (cs : List Dt) | stuck
abbrev FSR := List Dt → List Dt → FOutR
def FOkR (K : PySem.W.Frag) (F H : Hp) (a : Addr) (o : FOutR) (Q : VK) : Prop :=
  match o with
  | .ret r cs => ∀ v F' H' xs, Post F H (· = a) F' H' (· = a) → Same F' H' → H' a = some (.lst xs) → F' a = none → Reps K F' cs xs → PrOk K H F' H' v r → Q v H'
  | .stuck => False
def spFR (K : PySem.W.Frag) (n : Nat) (sem : FSR) : Sp := fun vs H Q _ => ∃ F a xs cs ds vs', vs = .ref a :: vs' ∧ Same F H ∧ H a = some (.lst xs) ∧ F a = none ∧ Reps K F cs xs ∧ Reps K F ds vs' ∧ ds.length + 1 = n ∧ FOkR K F H a (sem cs ds) Q
def OutS.foutR : OutS → FOutR
  | .nx en => match (en[(0 : Nat)]? : Option Sl) with
    | some (.own cs) => .ret (.dat .non) cs
    | _ => .stuck
  | .ret r en => match (en[(0 : Nat)]? : Option Sl) with
    | some (.own cs) => .ret r cs
    | _ => .stuck
  | _ => .stuck
def startR (n : Nat) (cs ds : List Dt) : En := .own cs :: startE (n - 1) ds
def semR (n : Nat) (m : MS) : FSR := fun cs ds => (m (startR n cs ds)).foutR
section
variable {K : PySem.W.Frag} {mg : Str → Option Value} {F F' H H' : Hp} {en : En} {σ : St}
theorem startR_own {n : Nat} {cs ds : List Dt} {a b : Addr} (h : Own (startR n cs ds) (some (.ref a) :: σ) b) : b = a := by
  obtain ⟨i, es, e1, e2⟩ := h
  cases i with
  | zero =>
    have e2 : some (some (V.ref a)) = some (some (V.ref b)) := e2
    cases e2; rfl
  | succ i =>
    have e1 : (startE (n - 1) ds)[i]? = some (.own es) := e1
    rcases startE_get e1 with ⟨d, e, z⟩ | z <;> cases z
theorem startR_rel {N : List Str} {cs ds : List Dt} {vs xs : List V} {a : Addr} (s : Same F H) (h1 : H a = some (.lst xs)) (h2 : F a = none) (q : Reps K F cs xs) (r : Reps K F ds vs) (hN : N.length ≠ 0) :
    Rel K F H (startR N.length cs ds) (L2.start N (.ref a :: vs)) := by
  cases N with
  | nil => exact absurd rfl hN
  | cons y N =>
    have e : L2.start (y :: N) (.ref a :: vs) = some (.ref a) :: start N vs := by
      unfold L2.start
      simp
    rw [e]
    have R := start_rel (N := N) s r
    have e' : startR (y :: N).length cs ds = .own cs :: startE N.length ds := rfl
    rw [e']
    refine ⟨s, by rw [List.length_cons, List.length_cons, R.len], fun i s o e1 e2 => ?_, fun i j fs gs b e1 e2 e3 e4 => ?_⟩
    · cases i with
      | zero =>
        simp at e1 e2
        subst e1; subst e2
        exact ⟨a, xs, rfl, h1, h2, q⟩
      | succ i => exact R.ok i s o (by simpa using e1) (by simpa using e2)
    · have z : ∀ (i : Nat) (fs : List Dt), (Sl.own cs :: startE N.length ds)[i]? = some (.own fs) → i = 0 := fun i fs e1 => by
        cases i with
        | zero => rfl
        | succ i =>
          have e1 : (startE N.length ds)[i]? = some (.own fs) := by simpa using e1
          rcases startE_get e1 with ⟨d, e, z⟩ | z <;> cases z
      rw [z i fs e1, z j gs e2]
/-- behind a def that changed one's own list -/
theorem mut_slot2 {i : Nat} {ds es : List Dt} {a : Addr} {ys : List V} (R : Rel K F H en σ) (hi : en[i]? = some (.own ds)) (hv : σ[i]? = some (some (.ref a))) (p : Post F H (· = a) F' H' (· = a)) (s : Same F' H') (h1 : H' a = some (.lst ys)) (h2 : F' a = none) (q : Reps K F' es ys) :
    Rel K F' H' (en.set i (.own es)) σ ∧ Post F H (Own en σ) F' H' (Own (en.set i (.own es)) σ) := by
  have hlt : i < en.length := (List.getElem?_eq_some_iff.mp hi).1
  have own' : ∀ (j : Nat) (fs : List Dt), (en.set i (.own es))[j]? = some (.own fs) → ∃ gs, en[j]? = some (.own gs) := fun j fs e => by
    by_cases hj : j = i
    · subst hj; exact ⟨_, hi⟩
    · rw [List.getElem?_set_ne (Ne.symm hj)] at e; exact ⟨_, e⟩
  have hA : Own en σ a := ⟨i, ds, hi, hv⟩
  refine ⟨⟨s, by rw [List.length_set]; exact R.len, fun j t o e1 e2 => ?_, fun j k fs gs b e1 e2 e3 e4 => ?_⟩,
    ⟨p.sub, fun b o e n => p.keep b o e fun z => n (by rw [z]; exact hA), p.there, fun b o e => ?_, fun b ⟨j, fs, e1, e2⟩ => ?_⟩⟩
  · by_cases hj : j = i
    · subst hj
      rw [List.getElem?_set_self hlt] at e1; cases e1
      rw [hv] at e2; cases e2
      exact ⟨a, ys, rfl, h1, h2, q⟩
    · rw [List.getElem?_set_ne (Ne.symm hj)] at e1
      have pp := R.ok j t o e1 e2
      cases t with
      | un => trivial
      | val d => obtain ⟨v, e, pp⟩ := pp; exact ⟨v, e, Rep.mono p.sub _ _ pp⟩
      | scr ns => obtain ⟨b, e, pp⟩ := pp; exact ⟨b, e, p.sub.seq pp⟩
      | own fs =>
        obtain ⟨b, zs, e, h3, h4, pp⟩ := pp
        have nb : b ≠ a := by
          rintro rfl
          exact hj (R.ne j i _ _ _ e1 hi (by rw [e2, e]) hv)
        refine ⟨b, zs, e, p.keep b _ h3 nb, ?_, Reps.mono p.sub _ _ pp⟩
        cases z : F' b with
        | none => rfl
        | some u =>
          rcases p.frz b u z with y | y | y
          · rw [h4] at y; cases y
          · rw [h3] at y; cases y
          · exact absurd y nb
  · obtain ⟨_, e1'⟩ := own' j fs e1
    obtain ⟨_, e2'⟩ := own' k gs e2
    exact R.ne j k _ _ b e1' e2' e3 e4
  · rcases p.frz b o e with z | z | z
    · exact .inl z
    · exact .inr (.inl z)
    · exact .inr (.inr (by rw [z]; exact hA))
  · obtain ⟨_, e1'⟩ := own' j fs e1
    exact .inl ⟨j, _, e1', e2⟩
end
section
variable {P : Program} {w : World} {K : PySem.W.Frag} {mg : Str → Option Value} {base : Heap}
theorem okR {x qual : Str} {st : Stmt} {f : Addr} {fd : FuncData} {N ps : List Str} {k : Nat} {m : MS} (F : Fun K x qual st f fd) (S : FnScope N ps (defScope st)) (hN : N.length ≠ 0)
    (hbody : ∀ (cdv : Value) (A : Around) (outer : List Env) (s : Shared) (H : Hp) (E : XK),
      Ct (cxOf (L2.CX P w) P w K mg base N qual (defScope st) f cdv A outer s H E) (fun cls d _ H => E cls d H) k →
      PSs (cxOf (L2.CX P w) P w K mg base N qual (defScope st) f cdv A outer s H E) (defBody st) (tS K mg (fun cls d _ H => E cls d H) 1 m)) :
    FnOk P w K mg base (L2.CX P w) (k + 1) f fd ps (spFR K ps.length (semR N.length m)) := by
  refine F.okX S (fun vs H Q E ⟨F0, a, xs, cs, ds, vs', e, _, _, _, _, r, hl, _⟩ => by rw [e, List.length_cons, ← r.length]; exact hl) fun cdv A outer s H vs Q E hr ⟨F0, a, xs, cs, ds, vs', e, sm, h1, h2, qc, r, hl, hq⟩ => ?_
  subst e
  refine ⟨_, hbody cdv A outer s H E ⟨rfl, S.nd, takes_of rfl rfl rfl rfl, hr, passes_of rfl⟩, F0, startR N.length cs ds, startR_rel sm h1 h2 qc r hN, ?_⟩
  obtain ⟨σt, eσ⟩ : ∃ σt, L2.start N (.ref a :: vs') = some (.ref a) :: σt := by
    cases N with
    | nil => exact absurd rfl hN
    | cons y N => exact ⟨_, by unfold L2.start; simp; rfl⟩
  have own0 : ∀ b, Own (startR N.length cs ds) (L2.start N (.ref a :: vs')) b → b = a := fun b z => by rw [eσ] at z; exact startR_own z
  have hA : Own (startR N.length cs ds) (L2.start N (.ref a :: vs')) a := ⟨0, cs, rfl, by rw [eσ]; rfl⟩
  have post : ∀ {F' H' : Hp} {A' : Addr → Prop}, Post F0 H (Own (startR N.length cs ds) (L2.start N (.ref a :: vs'))) F' H' A' → Post F0 H (· = a) F' H' (· = a) := fun {F' H' A'} p =>
    ⟨p.sub, fun b o e n => p.keep b o e fun z => n (own0 b z), p.there, fun b o e => by
      rcases p.frz b o e with z | z | z
      · exact .inl z
      · exact .inr (.inl z)
      · exact .inr (.inr (own0 b z)), fun b e => .inl e⟩
  have slot0 : ∀ {en' : En} {σ' : St} {F' H' : Hp} {cs' : List Dt}, Rel K F' H' en' σ' → σ'.take 1 = (L2.start N (.ref a :: vs')).take 1 → en'[0]? = some (.own cs') → σ'[0]? = some (some (.ref a)) ∧ ∃ xs', H' a = some (.lst xs') ∧ F' a = none ∧ Reps K F' cs' xs' := fun {en' σ' F' H' cs'} R' t e => by
    rw [eσ] at t
    have e0 : σ'[0]? = some (some (.ref a)) := by
      cases σ' with
      | nil => simp at t
      | cons y ys => simp at t; rw [t]; rfl
    obtain ⟨b, xs', eb, g1, g2, g3⟩ := R'.ok 0 _ _ e e0
    cases eb
    exact ⟨e0, xs', g1, g2, g3⟩
  unfold semR at hq
  cases e : m (startR N.length cs ds) with
  | nx en' =>
    rw [e] at hq
    unfold OutS.foutR at hq
    cases z : en'[0]? with
    | none => simp only [z] at hq; exact hq.elim
    | some sl =>
      cases sl with
      | own cs' =>
        simp only [z] at hq
        intro σ' F' H' R' p' t
        obtain ⟨_, xs', g1, g2, g3⟩ := slot0 R' t z
        exact hq _ F' H' xs' (post p') R'.sub g1 g2 g3 rfl
      | un => simp only [z] at hq; exact hq.elim
      | val d => simp only [z] at hq; exact hq.elim
      | scr ns => simp only [z] at hq; exact hq.elim
  | ret r en' =>
    rw [e] at hq
    unfold OutS.foutR at hq
    cases z : en'[0]? with
    | none => simp only [z] at hq; exact hq.elim
    | some sl =>
      cases sl with
      | own cs' =>
        simp only [z] at hq
        intro v σ' F' H' R' p' t q
        obtain ⟨e0, xs', g1, g2, g3⟩ := slot0 R' t z
        refine hq v F' H' xs' (post p') R'.sub g1 g2 g3 ?_
        cases r with
        | dat d => exact q
        | new es =>
          obtain ⟨b, ys, e, k1, k2, k3, k4, q⟩ := q
          refine ⟨b, ys, e, k4.elim (fun y => ?_) id, k1, k2, q⟩
          have eb := own0 b y
          subst eb
          exact absurd ⟨0, cs', z, e0⟩ k3
        | slt i => exact q
      | un => simp only [z] at hq; exact hq.elim
      | val d => simp only [z] at hq; exact hq.elim
      | scr ns => simp only [z] at hq; exact hq.elim
  | brk en' => rw [e] at hq; exact hq.elim
  | cont en' => rw [e] at hq; exact hq.elim
  | exc c d en' => rw [e] at hq; exact hq.elim
  | stuck => rw [e] at hq; exact hq.elim
theorem FnOk.semR {f : Addr} {fd : FuncData} {ps : List Str} {k n : Nat} {sem sem' : FSR} (F : FnOk P w K mg base (L2.CX P w) k f fd ps (spFR K n sem)) (h : ∀ cs ds, ds.length + 1 = n → sem' cs ds ≠ .stuck → sem cs ds = sem' cs ds) :
    FnOk P w K mg base (L2.CX P w) k f fd ps (spFR K n sem') := F.imp fun vs H Q E ⟨F0, a, xs, cs, ds, vs', e, s, h1, h2, q1, q2, hl, q⟩ => ⟨F0, a, xs, cs, ds, vs', e, s, h1, h2, q1, q2, hl, by
  have n : sem' cs ds ≠ .stuck := fun z => by rw [z] at q; exact q
  rw [h cs ds hl n]; exact q⟩
end
section
variable {X : Cx} {W : WX} {k : Nat} {f : Addr} {fd : FuncData} {ps : List Str} {x y : Str} {p pos py : Pos} {es : List Expr} {ms : M (List Dt)} {n : Nat} {sem : FSR}
def isOwn (en : En) (i : Nat) : Bool := match en[i]? with
  | some (.own _) => true
  | _ => false
def FOutR.out (o : FOutR) (i : Nat) (en : En) : Out Res := match o with
  | .ret (.slt _) _ => .stuck
  | .ret r cs => .ok r (en.set i (.own cs))
  | .stuck => .stuck
def eCallR (n : Nat) (sem : FSR) (i : Nat) (ms : M (List Dt)) : M Res := fun en => if isOwn en i = true then (ms en).bind fun ds en1 => match en1[i]? with
  | some (.own cs) => if ds.length + 1 = n then (sem cs ds).out i en1 else .stuck
  | _ => .stuck
  else .stuck
theorem re_callR (i : Nat) (tk : Takes X W) (hr : Room k X.A) (O : FnOk X.prog X.w X.K X.mg X.base (L2.CX X.prog X.w) k f fd ps (spFR X.K n sem)) (hm : X.mg x = some (.ref f)) (hk : PySem.W.keepIn X.K (.ref f) = true) (hb : Binds X.K fd ps [])
    (ha : PA X es (tVs X.K X.mg W ms)) (hg : Gl X x := by rfl) (hdb : (x == ("__debug__" : Str)) = false := by decide) (he : starEach (.Name y py :: es) X.env = (false, eval (.Name y py) X.env) :: starEach es X.env := by rfl) (hpl : (backTo pos (starEach es X.env)).any (·.1) = false := by rfl)
    (hN : X.N[i]? = some y := by rfl) (hv : Vis X.env.scope y := by first | exact Or.inl rfl | exact Or.inr (Or.inl rfl) | exact Or.inr (Or.inr rfl)) (hd : (y == ("__debug__" : Str)) = false := by decide)
    (hcd : (y == ("__classdict__" : Str)) = false := by decide) :
    PE X (.Call (.Name x p) (.Name y py :: es) [] pos) (tE X.K X.mg W (eCallR n sem i ms)) :=
  PE.imp (pe_callS O hr hg hm hk hb (fun σ => passAt tk σ) (pa_cons (pe_var (i := i) hN hv hd hcd) ha he) hdb he hpl) fun σ H Q ⟨F, en, R, h⟩ => by
    unfold eCallR at h
    by_cases ho : isOwn en i = true
    · rw [if_pos ho] at h
      obtain ⟨cs0, e0⟩ : ∃ cs0, en[i]? = some (.own cs0) := by
        unfold isOwn at ho
        cases z : en[i]? with
        | none => simp [z] at ho
        | some sl => cases sl <;> simp_all
      have hi : i < σ.length := by rw [← R.len]; exact (List.getElem?_eq_some_iff.mp e0).1
      obtain ⟨a, xs0, eo, _⟩ := R.ok i _ _ e0 (List.getElem?_eq_getElem hi)
      have hσ : σ[i]? = some (some (.ref a)) := by rw [List.getElem?_eq_getElem hi, eo]
      refine ⟨.ref a, hσ, F, en, R, (OutOk.ofBind h).imp fun F1 H1 en1 ds _ ⟨R1, p1, q⟩ vs hvs => ?_⟩
      cases z : en1[i]? with
      | none => simp only [z] at q; exact q.elim
      | some sl =>
        cases sl with
        | un => simp only [z] at q; exact q.elim
        | val d => simp only [z] at q; exact q.elim
        | scr ns => simp only [z] at q; exact q.elim
        | own cs =>
          simp only [z] at q
          by_cases hn : ds.length + 1 = n
          · rw [if_pos hn] at q
            obtain ⟨b, xs, eb, h1, h2, qc⟩ := R1.ok i _ _ z hσ
            cases eb
            refine ⟨F1, a, xs, cs, ds, vs, rfl, R1.sub, h1, h2, qc, hvs, hn, ?_⟩
            cases y : sem cs ds with
            | stuck => rw [y] at q; exact q.elim
            | ret r cs' =>
              rw [y] at q
              intro v F' H' ys pp s' g1 g2 g3 pr
              obtain ⟨R2, p2⟩ := mut_slot2 R1 z hσ pp s' g1 g2 g3
              have own2 : ∀ b, Own (en1.set i (.own cs')) σ b → H1 b ≠ none := fun b ⟨j, fs, k1, k2⟩ => by
                have : ∃ gs, en1[j]? = some (.own gs) := by
                  by_cases hj : j = i
                  · subst hj; exact ⟨_, z⟩
                  · rw [List.getElem?_set_ne (Ne.symm hj)] at k1; exact ⟨_, k1⟩
                obtain ⟨gs, k3⟩ := this
                obtain ⟨xs3, k4, _⟩ := R1.own_there ⟨j, gs, k3, k2⟩
                rw [k4]; intro w; cases w
              cases r with
              | slt j => exact pr.elim
              | dat d => exact q F' H' R2 (p1.trans p2) v pr trivial
              | new fs =>
                obtain ⟨b, zs, e, k1, k2, k3, k4⟩ := pr
                exact q F' H' R2 (p1.trans p2) v ⟨b, zs, e, k2, k3, fun w => own2 b w k1, k4⟩ fun c ec => by rw [e] at ec; cases ec; exact p1.there _ k1
          · rw [if_neg hn] at q; exact q.elim
    · rw [if_neg ho] at h; exact h.elim
end
end Fw

/-! Fw6: loops, comprehensions, one's own lists changed. -/
namespace Fw
open PySem PySem.Spec PyProof.Rows L2

/-- an iterator that yields these data -/
def Wk (K : PySem.W.Frag) (J : It) (F0 : Hp) (ds : List Dt) : Prop := ∀ (F H : Hp) (i : Nat), Same F0 F → Same F H →
  (∀ d, ds[i]? = some d → J.go i H ∧ ∀ x H', J.yld i H x H' → ∃ F', Grow F H F' H' ∧ Rep K F' d x) ∧ (i = ds.length → J.stop i H)
def tI (K : PySem.W.Frag) (mg : Str → Option Value) (W : WX) (m : M (List Dt)) : TI := fun σ H R => ∃ F en, Rel K F H en σ ∧ OutOk K mg W F H en σ (m en) fun F' H' en' ds => ∀ J, Wk K J F' ds → R J H'
theorem PI.imp {X : Cx} {tg e : Expr} {t t' : TI} (h : PI X tg e t) (i : ∀ σ H Q, t' σ H Q → t σ H Q) : PI X tg e t' := ⟨fun pins s σ H Q I q => h.run pins s σ H Q I (i σ H Q q)⟩
theorem PI.or {X : Cx} {tg e : Expr} {t t' : TI} (h : PI X tg e t) (h' : PI X tg e t') : PI X tg e (fun σ H R => t σ H R ∨ t' σ H R) := ⟨fun pins s σ H Q I q => q.elim (h.run pins s σ H Q I) (h'.run pins s σ H Q I)⟩
def fIter : Dt → Option (List Dt)
  | .lst ds => some ds
  | .tup ds => some ds
  | .str x => some (x.map fun c => .str [c])
  | _ => none
def iSeq (m : M Res) : M (List Dt) := fun en => (eVal m en).bind fun d en1 => match fIter d with
  | some ds => .ok ds en1
  | none => .stuck
section
variable {K : PySem.W.Frag} {F0 : Hp}
theorem wk_list {a : Addr} {xs : List V} {ds : List Dt} (h : F0 a = some (.lst xs)) (r : Reps K F0 ds xs) : Wk K (Itl K a) F0 ds := fun F H i s1 s2 => by
  have hS : SqL K H a xs := SqL.of (s2 _ _ (s1 _ _ h))
  refine ⟨fun d e => ?_, fun hi => ⟨xs, hS, by rw [← r.length]; exact Nat.le_of_eq hi.symm⟩⟩
  obtain ⟨v, e', q⟩ := r.get e
  refine ⟨⟨xs, v, hS, e'⟩, fun x H' ⟨eH, f⟩ => ⟨F, by subst eH; exact Grow.refl s2, ?_⟩⟩
  have := f xs hS
  rw [e'] at this; cases this
  exact Rep.mono s1 _ _ q
theorem wk_tup {a : Addr} {xs : List V} {ds : List Dt} (h : SqT K F0 a xs) (r : Reps K F0 ds xs) : Wk K (Itt K a) F0 ds := fun F H i s1 s2 => by
  have hS : SqT K H a xs := Same.seqT s2 (Same.seqT s1 h)
  refine ⟨fun d e => ?_, fun hi => ⟨xs, hS, by rw [← r.length]; exact Nat.le_of_eq hi.symm⟩⟩
  obtain ⟨v, e', q⟩ := r.get e
  refine ⟨⟨xs, v, hS, e'⟩, fun x H' ⟨eH, f⟩ => ⟨F, by subst eH; exact Grow.refl s2, ?_⟩⟩
  have := f xs hS
  rw [e'] at this; cases this
  exact Rep.mono s1 _ _ q
theorem wk_str (x : Wd) : Wk K (Its (st x)) F0 (x.map fun c => .str [c]) := fun F H i s1 s2 => by
  have hz : (st x).cps.size = x.length := by simp [st]
  refine ⟨fun d e => ?_, fun hi => ?_⟩
  · rw [List.getElem?_map] at e
    have hi : i < x.length := by
      cases q : x[i]? with
      | none => rw [q] at e; cases e
      | some c => exact (List.getElem?_eq_some_iff.mp q).1
    refine ⟨by show i < (st x).cps.size; rw [hz]; exact hi, fun y H' ⟨eH, c, e1, e2⟩ => ⟨F, by subst eH; exact Grow.refl s2, ?_⟩⟩
    have e1' : x[i]? = some c := by simpa [st] using e1
    rw [e1'] at e; cases e
    rw [e2]
    rfl
  · show (st x).cps.size ≤ i
    rw [hz]; simpa using Nat.le_of_eq hi.symm
/-- lo, lo + 1, .. below hi -/
def rangeD (lo hi : Int) : List Dt := (List.range (hi - lo).toNat).map fun (k : Nat) => .int (lo + k)
theorem wk_range (lo hi : Int) : Wk K (Itr lo (hi - lo).toNat) F0 (rangeD lo hi) := fun F H i s1 s2 => by
  refine ⟨fun d e => ?_, fun hi' => by show (hi - lo).toNat ≤ i; simpa [rangeD] using Nat.le_of_eq hi'.symm⟩
  unfold rangeD at e
  rw [List.getElem?_map] at e
  have h : i < (hi - lo).toNat := by
    cases q : (List.range (hi - lo).toNat)[i]? with
    | none => rw [q] at e; cases e
    | some c => simpa using (List.getElem?_eq_some_iff.mp q).1
  rw [List.getElem?_range h] at e
  cases e
  exact ⟨h, fun x H' ⟨eH, ex⟩ => ⟨F, by subst eH; exact Grow.refl s2, by rw [ex]; rfl⟩⟩
end
section
variable {X : Cx} {W : WX} {e tg : Expr} {m : M Res} {pos p : Pos} {ms : M (List Res)}
theorem ri_seq (he : PE X e (tE X.K X.mg W m)) : PI X tg e (tI X.K X.mg W (iSeq m)) := by
  have hv := rv_of he
  refine PI.imp (PI.or (pi_list (tg := tg) hv) (PI.or (pi_tup (tg := tg) hv) (pi_str (tg := tg) hv))) fun σ H R ⟨F, en, Re, h⟩ => ?_
  unfold iSeq at h
  have key := OutOk.ofBind h
  cases z : eVal m en with
  | stuck => rw [z] at key; exact key.elim
  | exc c d en' => rw [z] at key; exact .inl ⟨F, en, Re, by rw [z]; exact key⟩
  | ok d en1 =>
    rw [z] at key
    cases d with
    | lst ds =>
      refine .inl ⟨F, en, Re, by rw [z]; exact fun F1 H1 R1 p1 v ⟨a, xs, e, h1, q⟩ => ⟨a, e, ⟨xs, SqL.of (R1.sub _ _ h1)⟩, (key F1 H1 R1 p1).2.2 F1 H1 R1 p1 _ (wk_list h1 q)⟩⟩
    | tup ds =>
      refine .inr (.inl ⟨F, en, Re, by rw [z]; exact fun F1 H1 R1 p1 v ⟨a, xs, e, h1, q⟩ => ⟨a, e, ⟨xs, Same.seqT R1.sub h1⟩, (key F1 H1 R1 p1).2.2 F1 H1 R1 p1 _ (wk_tup h1 q)⟩⟩)
    | str x =>
      refine .inr (.inr ⟨F, en, Re, by rw [z]; exact fun F1 H1 R1 p1 v ev => ⟨st x, ev, (key F1 H1 R1 p1).2.2 F1 H1 R1 p1 _ (wk_str x)⟩⟩)
    | exo _ _ => exact ⟨F, en, Re, by rw [z]; exact fun F1 H1 R1 p1 => ((key F1 H1 R1 p1).2.2).elim⟩ |> .inl
    | non => exact ⟨F, en, Re, by rw [z]; exact fun F1 H1 R1 p1 => ((key F1 H1 R1 p1).2.2).elim⟩ |> .inl
    | bl b => exact ⟨F, en, Re, by rw [z]; exact fun F1 H1 R1 p1 => ((key F1 H1 R1 p1).2.2).elim⟩ |> .inl
    | int i => exact ⟨F, en, Re, by rw [z]; exact fun F1 H1 R1 p1 => ((key F1 H1 R1 p1).2.2).elim⟩ |> .inl
theorem rsOk_vws {K : PySem.W.Frag} {F H : Hp} {en : En} {σ : St} (R : Rel K F H en σ) : ∀ {rs : List Res} {vs : List V} {ds : List Dt}, RsOk K F H en σ rs vs → vws en rs = some ds → VwAll K F H ds vs
  | [], vs, ds, h, e => by cases e; exact h
  | r :: rs, vs, ds, ⟨v, t, ev, _, h1, h2⟩, e => by
    unfold vws at e
    cases e1 : vw en r with
    | none => rw [e1] at e; simp at e
    | some d =>
      cases e2 : vws en rs with
      | none => rw [e1, e2] at e; simp at e
      | some ds' =>
        rw [e1, e2] at e
        cases e
        exact ⟨v, t, ev, h1.vw R e1, rsOk_vws R h2 e2⟩
def inB62 (j : Int) : Prop := -(2 ^ 62) ≤ j ∧ j < 2 ^ 62
instance (j : Int) : Decidable (inB62 j) := inferInstanceAs (Decidable (_ ∧ _))
def iRange1 (m : M Res) : M (List Dt) := fun en => (eOpd m en).bind fun r en1 => match vw en1 r with
  | some (.int j) => if inB62 j then .ok (rangeD 0 j) en1 else .stuck
  | _ => .stuck
def iRange2 (ma mb : M Res) : M (List Dt) := fun en => (eOpd ma en).bind fun ra en1 => (eOpd mb en1).bind fun rb en2 => match vw en2 ra, vw en2 rb with
  | some (.int i), some (.int j) => if inB62 i ∧ inB62 j then .ok (rangeD i j) en2 else .stuck
  | _, _ => .stuck
theorem ri_range1 {a : Expr} (hm : X.mg "range" = none) (ha : PE X a (tE X.K X.mg W m)) (hg : Gl X "range" := by rfl) (hs : starEach [a] X.env = [(false, eval a X.env)] := by rfl) : PI X tg (.Call (.Name "range" p) [a] [] pos) (tI X.K X.mg W (iRange1 m)) :=
  PI.imp (pi_range1 hg hm (pa_cons ha pa_nil hs) hs) fun σ H R ⟨F, en, Re, h⟩ => ⟨F, en, Re, (opd h).imp fun F1 H1 en1 r0 _ q x hx fx => by
    obtain ⟨F2, r, R2, p2, n2, hx2, q⟩ := q x hx fx
    cases z : vw en1 r with
    | none => rw [z] at q; exact q.elim
    | some d =>
      have vx := hx2.vw R2 z
      rw [z] at q
      cases d with
      | int j =>
        have vx : x = .int j := vx
        subst vx
        simp only at q
        by_cases hb : inB62 j
        · rw [if_pos hb] at q
          refine ⟨j, rfl, hb.1, hb.2, ?_⟩
          have := wk_range (K := X.K) (F0 := F2) 0 j
          rw [Int.sub_zero] at this
          exact q F2 H1 R2 .refl _ this
        · rw [if_neg hb] at q; exact q.elim
      | _ => exact q.elim⟩
theorem ri_range2 {a b : Expr} {ma mb : M Res} (hm : X.mg "range" = none) (ha : PE X a (tE X.K X.mg W ma)) (hb : PE X b (tE X.K X.mg W mb)) (hg : Gl X "range" := by rfl) (hs : starEach [a, b] X.env = [(false, eval a X.env), (false, eval b X.env)] := by rfl) (hs2 : starEach [b] X.env = [(false, eval b X.env)] := by rfl) :
    PI X tg (.Call (.Name "range" p) [a, b] [] pos) (tI X.K X.mg W (iRange2 ma mb)) :=
  PI.imp (pi_range2 hg hm (pa_cons ha (pa_cons hb pa_nil hs2) (by rw [hs, hs2])) hs hs2) fun σ H R ⟨F, en, Re, h⟩ => ⟨F, en, Re, (opd h).imp fun F1 H1 en1 r0 _ q x hx fx => by
    obtain ⟨F2, ra, R2, p2, n2, hx2, q⟩ := q x hx fx
    refine ⟨F2, en1, R2, (opd q).imp fun F3 H3 en3 r3 _ q y hy fy => ?_⟩
    obtain ⟨F4, rb, R4, p4, n4, hy4, q⟩ := q y hy fy
    cases z : vw en3 ra with
    | none => rw [z] at q; exact q.elim
    | some d =>
      have vx := (hx2.keep (en1 := en3) (H1 := H3) p4.sub n2).vw R4 z
      cases z2 : vw en3 rb with
      | none => rw [z, z2] at q; cases d <;> exact q.elim
      | some d2 =>
        have vy := hy4.vw R4 z2
        rw [z, z2] at q
        cases d with
        | int i =>
          cases d2 with
          | int j =>
            have vx : x = .int i := vx
            have vy : y = .int j := vy
            subst vx; subst vy
            simp only at q
            by_cases hb : inB62 i ∧ inB62 j
            · rw [if_pos hb] at q
              exact ⟨i, j, rfl, ⟨hb.1.1, hb.1.2, hb.2.1, hb.2.2⟩, q F4 H3 R4 .refl _ (wk_range i j)⟩
            · rw [if_neg hb] at q; exact q.elim
          | _ => exact q.elim
        | _ => cases d2 <;> exact q.elim⟩

/-! ### targets -/
def tG (K : PySem.W.Frag) (pr : St → St) (g : Dt → En → Option En) : TG := fun v σ H Q => ∃ F en d, Rel K F H en σ ∧ Rep K F d v ∧ ∃ en', g d en = some en' ∧
  ∀ σ', Rel K F H en' σ' → Post F H (Own en σ) F H (Own en' σ') → pr σ' = pr σ → Q σ' H
def tGs (K : PySem.W.Frag) (pr : St → St) (g : List Dt → En → Option En) : TGs := fun vs σ H Q => ∃ F en ds, Rel K F H en σ ∧ Reps K F ds vs ∧ ∃ en', g ds en = some en' ∧
  ∀ σ', Rel K F H en' σ' → Post F H (Own en σ) F H (Own en' σ') → pr σ' = pr σ → Q σ' H
/-- a slot that is not looked at -/
def Out1 (pr : St → St) (i : Nat) : Prop := ∀ (σ : St) (v : Option V), pr (σ.set i v) = pr σ
theorem out_take {fx i : Nat} (h : fx ≤ i) : Out1 (List.take fx) i := fun _ _ => take_set h
theorem out_wipe {vs : List Nat} {i : Nat} (h : i ∈ vs) : Out1 (fun σ => wipe σ vs) i := fun σ v => by
  show wipe (σ.set i v) vs = wipe σ vs
  induction vs with
  | nil => cases h
  | cons w vs ih =>
    unfold wipe
    by_cases e : i = w
    · subst e
      by_cases e2 : i ∈ vs
      · rw [ih e2]
      · have : ∀ vs : List Nat, i ∉ vs → wipe (σ.set i v) vs = (wipe σ vs).set i v := fun vs => by
          induction vs with
          | nil => intro _; rfl
          | cons u us ihu =>
            intro n
            unfold wipe
            rw [ihu fun z => n (List.mem_cons_of_mem _ z), List.set_comm _ _ (fun z => n (by rw [z]; exact List.mem_cons_self))]
        rw [this vs e2, List.set_set]
    · rw [ih ((List.mem_cons.mp h).resolve_left e)]
theorem PG.imp {X : Cx} {e : Expr} {t t' : TG} (h : PG X e t) (i : ∀ v σ H Q, t' v σ H Q → t v σ H Q) : PG X e t' := ⟨fun pins s σ H v u Q I r q => h.run pins s σ H v u Q I r (i v σ H Q q)⟩
theorem PGs.imp {X : Cx} {e : List Expr} {t t' : TGs} (h : PGs X e t) (i : ∀ v σ H Q, t' v σ H Q → t v σ H Q) : PGs X e t' := ⟨fun pins s σ H v u Q I r q => h.run pins s σ H v u Q I r (i v σ H Q q)⟩
def gNm (i : Nat) : Dt → En → Option En := fun d en => some (en.set i (.val d))
def gN0 : List Dt → En → Option En := fun ds en => match ds with
  | [] => some en
  | _ => none
def gC (g : Dt → En → Option En) (gs : List Dt → En → Option En) : List Dt → En → Option En := fun ds en => match ds with
  | d :: ds => (g d en).bind fun en1 => gs ds en1
  | [] => none
def gTp (n : Nat) (gs : List Dt → En → Option En) : Dt → En → Option En := fun d en => match d with
  | .tup ds => if ds.length = n then gs ds en else none
  | .lst ds => if ds.length = n then gs ds en else none
  | _ => none
theorem PG.or {X : Cx} {e : Expr} {t t' : TG} (h : PG X e t) (h' : PG X e t') : PG X e (fun v σ H Q => t v σ H Q ∨ t' v σ H Q) :=
  ⟨fun pins s σ H v u Q I r q => q.elim (h.run pins s σ H v u Q I r) (h'.run pins s σ H v u Q I r)⟩
variable {fx : Nat} {pr : St → St}
theorem rg_name (i : Nat) {x : Str} (hf : Out1 pr i) (hN : X.N.Nodup) (hi : X.N[i]? = some x := by rfl) (hx : Loc X.env.scope x := by first | exact Or.inl rfl | exact Or.inr rfl) (hfn : X.fn x = true ∨ X.env.scope.names.lookup x = some .local := by first | exact .inl rfl | exact .inr rfl) :
    PG X (.Name x pos) (tG X.K pr (gNm i)) := PG.imp (pg_name hN hi hx hfn) fun v σ H Q ⟨F, en, d, R, q, en', e, k⟩ => by
  cases e
  obtain ⟨R2, p2⟩ := store_val (i := i) R q
  exact k _ R2 p2 (hf σ _)
theorem rgs_nil : PGs X [] (tGs X.K pr gN0) := PGs.imp pgs_nil fun vs σ H Q ⟨F, en, ds, R, q, en', e, k⟩ => by
  cases ds with
  | nil =>
    cases e
    exact ⟨q, k σ R .refl rfl⟩
  | cons d ds => cases e
theorem rgs_cons {es : List Expr} {g : Dt → En → Option En} {gs : List Dt → En → Option En} (h1 : PG X e (tG X.K pr g)) (h2 : PGs X es (tGs X.K pr gs))
    (hs : (assignEach (e :: es) X.env).map (·.2) = assign e X.env :: (assignEach es X.env).map (·.2) := by rfl) : PGs X (e :: es) (tGs X.K pr (gC g gs)) :=
  PGs.imp (pgs_cons h1 h2 hs) fun vs σ H Q ⟨F, en, ds, R, q, en', e, k⟩ => by
    cases ds with
    | nil => cases e
    | cons d ds =>
      obtain ⟨v, r, ev, q1, q2⟩ := q
      unfold gC at e
      simp only at e
      cases z : g d en with
      | none => rw [z] at e; cases e
      | some en1 =>
        rw [z] at e
        exact ⟨v, r, ev, F, en, d, R, q1, en1, z, fun σ1 R1 p1 t1 => ⟨F, en1, ds, R1, q2, en', e, fun σ2 R2 p2 t2 => k σ2 R2 (p1.trans p2) (t2.trans t1)⟩⟩
theorem rg_tup (n : Nat) {es : List Expr} {kk : Nat} {gs : List Dt → En → Option En} (hc : X.calm = true) (h : PGs X es (tGs X.K pr gs)) (hn : (assignEach es X.env).length = n := by rfl) (hst : (assignEach es X.env).findIdx? (·.1) = none := by rfl) :
    PG X (.Tuple es kk pos) (tG X.K pr (gTp n gs)) := PG.imp (PG.or (pg_tup hc h hn hst) (pg_lst hc h hn hst)) fun v σ H Q ⟨F, en, d, R, q, en', e, k⟩ => by
  cases d with
  | tup ds =>
    obtain ⟨a, xs, ev, hq, rs⟩ := q
    unfold gTp at e
    simp only at e
    by_cases hl : ds.length = n
    · rw [if_pos hl] at e
      exact .inl ⟨a, xs, ev, Same.seqT R.sub hq, by rw [← rs.length]; exact hl, F, en, ds, R, rs, en', e, k⟩
    · rw [if_neg hl] at e; cases e
  | lst ds =>
    obtain ⟨a, xs, ev, hq, rs⟩ := q
    unfold gTp at e
    simp only at e
    by_cases hl : ds.length = n
    · rw [if_pos hl] at e
      exact .inr ⟨a, xs, ev, SqL.of (R.sub _ _ hq), by rw [← rs.length]; exact hl, F, en, ds, R, rs, en', e, k⟩
    · rw [if_neg hl] at e; cases e
  | _ => cases e

/-! ### for, while -/
def forL (g : Dt → En → Option En) (mb : MS) : List Dt → MS
  | [], en => .nx en
  | d :: ds, en => match g d en with
    | none => .stuck
    | some en1 => match mb en1 with
      | .nx en2 => forL g mb ds en2
      | .cont en2 => forL g mb ds en2
      | .brk en2 => .nx en2
      | o => o
def sFor (mi : M (List Dt)) (g : Dt → En → Option En) (mb : MS) : MS := fun en => (mi en).then fun ds en1 => forL g mb ds en1
variable {mi : M (List Dt)} {g : Dt → En → Option En} {mb : MS} {body : List Stmt}
theorem rs_for {k : Nat} (ct : Ct X W k) (hi : PI X tg e (tI X.K X.mg W mi)) (hg : PG X tg (tG X.K (List.take fx) g)) (hb : PSs X body (tS X.K X.mg W fx mb)) (hs : ∀ x, foldedSetIterable e X.env x = pure x := by exact fun _ => rfl) :
    PS X (.For tg e body [] pos) (tS X.K X.mg W fx (sFor mi g mb)) :=
  PS.imp (ps_for ct.pass ct.calm hi hg hb hs) fun D σ H ⟨F, en, R, h⟩ => ⟨F, en, R, h.ofThen.imp fun F1 H1 en1 ds _ ⟨R1, p1, q⟩ J wk => by
    refine ⟨fun i m σi Hi => ∃ Fi eni, m = ds.length - i ∧ i ≤ ds.length ∧ Rel X.K Fi Hi eni σi ∧ Same F1 Fi ∧ SOk X.K X.mg W fx Fi Hi eni σi D (forL g mb (ds.drop i) eni), ⟨_, F1, en1, rfl, Nat.zero_le _, R1, Same.refl _, q.bind p1 rfl⟩, ?_⟩
    rintro i m σi Hi ⟨Fi, eni, rfl, hi, Ri, si, qi⟩
    obtain ⟨w1, w2⟩ := wk Fi Hi i si Ri.sub
    by_cases hlt : i < ds.length
    · have ed : ds[i]? = some ds[i] := List.getElem?_eq_getElem hlt
      obtain ⟨go, yld⟩ := w1 _ ed
      rw [List.drop_eq_getElem_cons hlt] at qi
      unfold forL at qi
      refine .inr ⟨go, fun σ' H' => ∃ Fi eni, Rel X.K Fi H' eni σ' ∧ Same F1 Fi ∧ SOk X.K X.mg W fx Fi H' eni σ' D (forL g mb (ds.drop (i + 1)) eni), fun σ' H' ⟨Fj, enj, Rj, sj, qj⟩ => ⟨ds.length - (i + 1), by omega, Fj, enj, rfl, hlt, Rj, sj, qj⟩, fun x H' y => ?_⟩
      obtain ⟨F', gr, rep⟩ := yld x H' y
      cases z : g ds[i] eni with
      | none => rw [z] at qi; exact qi.elim
      | some en2 =>
        rw [z] at qi
        dsimp only at qi
        refine ⟨F', eni, ds[i], Ri.grow gr, rep, en2, z, fun σ2 R2 p2 t2 => ?_⟩
        have p02 : Post Fi Hi (Own eni σi) F' H' (Own en2 σ2) := gr.post.trans p2
        refine ⟨F', en2, R2, ?_⟩
        cases zb : mb en2 with
        | nx en3 => rw [zb] at qi; exact fun σ3 F3 H3 R3 p3 t3 => ⟨F3, en3, R3, si.trans (p02.sub.trans p3.sub), qi.bind (p02.trans p3) (t3.trans t2)⟩
        | cont en3 => rw [zb] at qi; exact fun σ3 F3 H3 R3 p3 t3 => ⟨F3, en3, R3, si.trans (p02.sub.trans p3.sub), qi.bind (p02.trans p3) (t3.trans t2)⟩
        | brk en3 => rw [zb] at qi; exact fun σ3 F3 H3 R3 p3 t3 => qi σ3 F3 H3 R3 (p02.trans p3) (t3.trans t2)
        | ret r en3 => rw [zb] at qi; exact SOk.bind (D := D) (o := .ret r en3) p02 t2 qi
        | exc c d en3 => rw [zb] at qi; exact SOk.bind (D := D) (o := .exc c d en3) p02 t2 qi
        | stuck => rw [zb] at qi; exact qi
    · have e0 : ds.drop i = [] := List.drop_eq_nil_of_le (by omega)
      rw [e0] at qi
      exact .inl ⟨w2 (by omega), qi σi Fi Hi Ri .refl rfl⟩⟩
def whileN (c : M Bool) (mb : MS) : Nat → MS
  | 0, _ => .stuck
  | n + 1, en => (c en).then fun b en1 => if b = true then (match mb en1 with
      | .nx en2 => whileN c mb n en2
      | .cont en2 => whileN c mb n en2
      | .brk en2 => .nx en2
      | o => o) else .nx en1
open Classical in
noncomputable def sWhile (c : M Bool) (mb : MS) : MS := fun en => if h : ∃ n, whileN c mb n en ≠ .stuck then whileN c mb h.choose en else .stuck
theorem whileN_mono {c : M Bool} {mb : MS} : ∀ {n : Nat} (k : Nat) {en : En}, whileN c mb n en ≠ .stuck → whileN c mb (n + k) en = whileN c mb n en
  | 0, k, en, h => absurd rfl h
  | n + 1, k, en, h => by
    have e : n + 1 + k = (n + k) + 1 := by omega
    rw [e]
    unfold whileN at h ⊢
    cases z : c en with
    | stuck => rfl
    | exc c d en1 => rfl
    | ok b en1 =>
      rw [z] at h
      unfold Out.then at h ⊢
      simp only at h ⊢
      cases b with
      | false => rfl
      | true =>
        rw [if_pos rfl] at h ⊢
        rw [if_pos rfl]
        cases y : mb en1 with
        | nx en2 => rw [y] at h; exact whileN_mono k h
        | cont en2 => rw [y] at h; exact whileN_mono k h
        | _ => rfl
theorem sWhile_eq {c : M Bool} {mb : MS} {n : Nat} {en : En} {o : OutS} (h : whileN c mb n en = o) (ho : o ≠ .stuck) : sWhile c mb en = o := by
  subst h
  have hx : ∃ n, whileN c mb n en ≠ .stuck := ⟨n, ho⟩
  unfold sWhile
  rw [dif_pos hx]
  have h2 := hx.choose_spec
  have a := whileN_mono n h2
  have b := whileN_mono hx.choose ho
  rw [← a, ← b, Nat.add_comm]
theorem rs_while {k : Nat} {c : M Bool} (ct : Ct X W k) (hc : PT X e (tT X.K X.mg W c)) (hb : PSs X body (tS X.K X.mg W fx mb)) : PS X (.While e body [] pos) (tS X.K X.mg W fx (sWhile c mb)) :=
  PS.imp (ps_while ct.pass hc hb) fun D σ H ⟨F, en, R, h⟩ => by
    obtain ⟨n, hn⟩ : ∃ n, SOk X.K X.mg W fx F H en σ D (whileN c mb n en) := by
      unfold sWhile at h
      split at h
      · exact ⟨_, h⟩
      · exact h.elim
    refine ⟨fun m σi Hi => ∃ Fi eni, Rel X.K Fi Hi eni σi ∧ SOk X.K X.mg W fx Fi Hi eni σi D (whileN c mb m eni), ⟨n, F, en, R, hn⟩, ?_⟩
    rintro m σi Hi ⟨Fi, eni, Ri, qi⟩
    cases m with
    | zero => exact qi.elim
    | succ m =>
      unfold whileN at qi
      refine ⟨Fi, eni, Ri, qi.ofThen.imp fun F1 H1 en1 b _ ⟨R1, p1, q⟩ => ?_⟩
      cases b with
      | false =>
        rw [if_neg Bool.false_ne_true] at q ⊢
        exact q σi F1 H1 R1 p1 rfl
      | true =>
        rw [if_pos rfl] at q ⊢
        refine ⟨fun σ' H' => ∃ Fi eni, Rel X.K Fi H' eni σ' ∧ SOk X.K X.mg W fx Fi H' eni σ' D (whileN c mb m eni), fun σ' H' ⟨Fj, enj, Rj, qj⟩ => ⟨m, Nat.lt_succ_self m, Fj, enj, Rj, qj⟩, F1, en1, R1, ?_⟩
        cases zb : mb en1 with
        | nx en3 => rw [zb] at q; exact fun σ3 F3 H3 R3 p3 t3 => ⟨F3, en3, R3, q.bind (p1.trans p3) t3⟩
        | cont en3 => rw [zb] at q; exact fun σ3 F3 H3 R3 p3 t3 => ⟨F3, en3, R3, q.bind (p1.trans p3) t3⟩
        | brk en3 => rw [zb] at q; exact fun σ3 F3 H3 R3 p3 t3 => q σ3 F3 H3 R3 (p1.trans p3) t3
        | ret r en3 => rw [zb] at q; exact SOk.bind (D := D) (o := .ret r en3) p1 rfl q
        | exc c d en3 => rw [zb] at q; exact SOk.bind (D := D) (o := .exc c d en3) p1 rfl q
        | stuck => rw [zb] at q; exact q
end
end Fw

/-! Fw7: comprehensions, lists of one's own changed by methods. -/
namespace Fw
open PySem PySem.Spec PyProof.Rows L2

def wipeE (en : En) : List Nat → En
  | [] => en
  | v :: vs => (wipeE en vs).set v .un
def restE (en0 en : En) : List Nat → En
  | [] => en
  | v :: vs => (restE en0 en vs).set v (match en0[v]? with
    | some s => s
    | none => .un)
theorem wipe_outS' {σ : St} {vs : List Nat} {j : Nat} (hj : j ∉ vs) : (wipe σ vs)[j]? = σ[j]? := by
  induction vs with
  | nil => rfl
  | cons v vs ih =>
    unfold wipe
    rw [List.getElem?_set_ne (fun z => hj (by rw [← z]; exact List.mem_cons_self))]
    exact ih fun z => hj (List.mem_cons_of_mem _ z)
section
variable {K : PySem.W.Frag} {F F' H H' : Hp} {en en' : En} {σ : St}
theorem wipe_inS {vs : List Nat} {j : Nat} (hj : j ∈ vs) (τ : St) : (wipe τ vs)[j]? = (if j < τ.length then some none else none) := by
  induction vs with
  | nil => cases hj
  | cons w vs ih =>
    unfold wipe
    by_cases e : j = w
    · subst e
      rw [List.getElem?_set, if_pos rfl, wipe_length]
    · rw [List.getElem?_set_ne (Ne.symm e)]
      exact ih ((List.mem_cons.mp hj).resolve_left e)
theorem wipe_twice (σ : St) (vs : List Nat) : wipe (wipe σ vs) vs = wipe σ vs := by
  refine List.ext_getElem? fun j => ?_
  by_cases hj : j ∈ vs
  · rw [wipe_inS hj, wipe_inS hj, wipe_length]
  · rw [wipe_outS' hj]
theorem wipeE_len (vs : List Nat) : (wipeE en vs).length = en.length := by
  induction vs with
  | nil => rfl
  | cons v vs ih => unfold wipeE; rw [List.length_set, ih]
theorem restE_len (vs : List Nat) : (restE en en' vs).length = en'.length := by
  induction vs with
  | nil => rfl
  | cons v vs ih => unfold restE; rw [List.length_set, ih]
theorem wipeE_in {vs : List Nat} {j : Nat} {s : Sl} (hj : j ∈ vs) (e : (wipeE en vs)[j]? = some s) : s = .un := by
  induction vs with
  | nil => cases hj
  | cons v vs ih =>
    unfold wipeE at e
    by_cases h : j = v
    · subst h
      rw [List.getElem?_set] at e
      simp at e
      exact e.2.symm
    · rw [List.getElem?_set_ne (Ne.symm h)] at e
      exact ih ((List.mem_cons.mp hj).resolve_left h) e
theorem wipeE_out {vs : List Nat} {j : Nat} (hj : j ∉ vs) : (wipeE en vs)[j]? = en[j]? := by
  induction vs with
  | nil => rfl
  | cons v vs ih =>
    unfold wipeE
    rw [List.getElem?_set_ne (fun z => hj (by rw [← z]; exact List.mem_cons_self))]
    exact ih fun z => hj (List.mem_cons_of_mem _ z)
theorem wipe_outS {vs : List Nat} {j : Nat} (hj : j ∉ vs) : (wipe σ vs)[j]? = σ[j]? := by
  induction vs with
  | nil => rfl
  | cons v vs ih =>
    unfold wipe
    rw [List.getElem?_set_ne (fun z => hj (by rw [← z]; exact List.mem_cons_self))]
    exact ih fun z => hj (List.mem_cons_of_mem _ z)
theorem restE_in {vs : List Nat} {j : Nat} {s : Sl} (hj : j ∈ vs) (hl : j < en.length) (e : (restE en en' vs)[j]? = some s) : en[j]? = some s := by
  induction vs with
  | nil => cases hj
  | cons v vs ih =>
    unfold restE at e
    by_cases h : j = v
    · subst h
      rw [List.getElem?_set] at e
      simp at e
      rw [List.getElem?_eq_getElem hl] at e ⊢
      simp at e
      rw [e.2]
    · rw [List.getElem?_set_ne (Ne.symm h)] at e
      exact ih ((List.mem_cons.mp hj).resolve_left h) e
theorem restE_out {vs : List Nat} {j : Nat} (hj : j ∉ vs) : (restE en en' vs)[j]? = en'[j]? := by
  induction vs with
  | nil => rfl
  | cons v vs ih =>
    unfold restE
    rw [List.getElem?_set_ne (fun z => hj (by rw [← z]; exact List.mem_cons_self))]
    exact ih fun z => hj (List.mem_cons_of_mem _ z)
/-- the block's own slots forgotten -/
theorem wipe_rel {vs : List Nat} (R : Rel K F H en σ) : Rel K F H (wipeE en vs) (wipe σ vs) ∧ (∀ b, Own (wipeE en vs) (wipe σ vs) b → Own en σ b) := by
  refine ⟨⟨R.sub, by rw [wipeE_len, wipe_length]; exact R.len, fun i s o e1 e2 => ?_, fun i j ds es a e1 e2 e3 e4 => ?_⟩, fun b ⟨i, ds, e1, e2⟩ => ?_⟩
  · by_cases hi : i ∈ vs
    · rw [wipeE_in hi e1]; trivial
    · rw [wipeE_out hi] at e1; rw [wipe_outS hi] at e2; exact R.ok i s o e1 e2
  · have hi : i ∉ vs := fun z => by cases wipeE_in z e1
    have hj : j ∉ vs := fun z => by cases wipeE_in z e2
    rw [wipeE_out hi] at e1; rw [wipeE_out hj] at e2; rw [wipe_outS hi] at e3; rw [wipe_outS hj] at e4
    exact R.ne i j ds es a e1 e2 e3 e4
  · have hi : i ∉ vs := fun z => by cases wipeE_in z e1
    rw [wipeE_out hi] at e1; rw [wipe_outS hi] at e2
    exact ⟨i, ds, e1, e2⟩
theorem wipe_post {vs : List Nat} (R : Rel K F H en σ) : Post F H (Own en σ) F H (Own (wipeE en vs) (wipe σ vs)) :=
  ⟨Same.refl _, fun _ _ h _ => h, fun _ h => h, fun _ _ h => .inl h, fun b h => .inl ((wipe_rel R).2 b h)⟩
/-- .. and back -/
theorem rest_rel {vs : List Nat} {σ2 : St} (R : Rel K F H en σ) (R' : Rel K F' H' en' σ2) (hσ : wipe σ2 vs = wipe σ vs) (p : Post F H (Own (wipeE en vs) (wipe σ vs)) F' H' (Own (wipeE en' vs) (wipe σ2 vs))) :
    Rel K F' H' (restE en en' vs) σ ∧ Post F H (Own en σ) F' H' (Own (restE en en' vs) σ) := by
  have hl2 : σ2.length = σ.length := by rw [← wipe_length σ2 vs, hσ, wipe_length]
  have hlen : en'.length = en.length := by rw [R'.len, R.len, hl2]
  have σout : ∀ {j : Nat}, j ∉ vs → σ2[j]? = σ[j]? := fun {j} hj => by rw [← wipe_outS (σ := σ2) hj, hσ, wipe_outS hj]
  -- what an old list of one's own is, where the block does not see it
  have old : ∀ {j : Nat} {ds : List Dt} {a : Addr}, j ∈ vs → en[j]? = some (.own ds) → σ[j]? = some (some (.ref a)) → ¬ Own (wipeE en vs) (wipe σ vs) a := fun {j ds a} hj e1 e2 ⟨k, es, e3, e4⟩ => by
    have hk : k ∉ vs := fun z => by cases wipeE_in z e3
    rw [wipeE_out hk] at e3; rw [wipe_outS hk] at e4
    exact hk (by rw [← R.ne j k _ _ a e1 e3 e2 e4]; exact hj)
  have inS : ∀ {j : Nat} {s : Sl}, j ∈ vs → (restE en en' vs)[j]? = some s → en[j]? = some s := fun {j s} hj e => by
    have hl : j < en.length := by
      have := (List.getElem?_eq_some_iff.mp e).1
      rw [restE_len, hlen] at this; exact this
    exact restE_in hj hl e
  have keepOld : ∀ {j : Nat} {ds : List Dt} {a : Addr}, j ∈ vs → en[j]? = some (.own ds) → σ[j]? = some (some (.ref a)) → ∃ xs, H' a = some (.lst xs) ∧ F' a = none ∧ Reps K F ds xs ∧ H a = some (.lst xs) := fun {j ds a} hj e1 e2 => by
    obtain ⟨b, xs, e, h1, h2, q⟩ := R.ok j _ _ e1 e2
    cases e
    have n := old hj e1 e2
    refine ⟨xs, p.keep _ _ h1 n, ?_, q, h1⟩
    cases z : F' a with
    | none => rfl
    | some u =>
      rcases p.frz a u z with y | y | y
      · rw [h2] at y; cases y
      · rw [h1] at y; cases y
      · exact absurd y n
  refine ⟨⟨R'.sub, by rw [restE_len, hlen, R.len], fun j s o e1 e2 => ?_, fun i j ds es a e1 e2 e3 e4 => ?_⟩, ⟨p.sub, fun b o e n => p.keep b o e fun z => n ((wipe_rel R).2 b z), p.there, fun b o e => ?_, fun b ⟨j, ds, e1, e2⟩ => ?_⟩⟩
  · by_cases hj : j ∈ vs
    · have e1 := inS hj e1
      have q := R.ok j s o e1 e2
      cases s with
      | un => trivial
      | val d => obtain ⟨v, e, q⟩ := q; exact ⟨v, e, Rep.mono p.sub _ _ q⟩
      | scr ns => obtain ⟨b, e, q⟩ := q; exact ⟨b, e, p.sub.seq q⟩
      | own ds =>
        obtain ⟨a, xs, e, h1, h2, q⟩ := q
        obtain ⟨xs', g1, g2, g3, _⟩ := keepOld hj e1 (by rw [e2, e])
        exact ⟨a, xs', e, g1, g2, Reps.mono p.sub _ _ g3⟩
    · rw [restE_out hj] at e1
      exact R'.ok j s o e1 (by rw [σout hj]; exact e2)
  · have mix : ∀ {i j : Nat} {ds es : List Dt}, i ∈ vs → j ∉ vs → (restE en en' vs)[i]? = some (.own ds) → (restE en en' vs)[j]? = some (.own es) → σ[i]? = some (some (.ref a)) → σ[j]? = some (some (.ref a)) → False := fun {i j ds es} hi hj e1 e2 e3 e4 => by
      rw [restE_out hj] at e2
      have e1 := inS hi e1
      have o : Own (wipeE en' vs) (wipe σ2 vs) a := ⟨j, es, by rw [wipeE_out hj]; exact e2, by rw [wipe_outS hj, σout hj]; exact e4⟩
      obtain ⟨xs, _, _, _, h1⟩ := keepOld hi e1 e3
      rcases p.own a o with z | z
      · exact old hi e1 e3 z
      · rw [h1] at z; cases z
    by_cases hi : i ∈ vs <;> by_cases hj : j ∈ vs
    · exact R.ne i j ds es a (inS hi e1) (inS hj e2) e3 e4
    · exact (mix hi hj e1 e2 e3 e4).elim
    · exact (mix hj hi e2 e1 e4 e3).elim
    · rw [restE_out hi] at e1; rw [restE_out hj] at e2
      exact R'.ne i j ds es a e1 e2 (by rw [σout hi]; exact e3) (by rw [σout hj]; exact e4)
  · rcases p.frz b o e with z | z | z
    · exact .inl z
    · exact .inr (.inl z)
    · exact .inr (.inr ((wipe_rel R).2 b z))
  · by_cases hj : j ∈ vs
    · exact .inl ⟨j, ds, inS hj e1, e2⟩
    · rw [restE_out hj] at e1
      rcases p.own b ⟨j, ds, by rw [wipeE_out hj]; exact e1, by rw [wipe_outS hj, σout hj]; exact e2⟩ with z | z
      · exact .inl ((wipe_rel R).2 b z)
      · exact .inr z
end

theorem Rel.updD {K : PySem.W.Frag} {F H : Hp} {en : En} {σ : St} {D : Addr} {o : HO} (R : Rel K F H en σ) (h : F D = none) (n : ¬ Own en σ D) : Rel K F (upd H D o) en σ := by
  refine ⟨fun b u e => ?_, R.len, fun i s v e1 e2 => ?_, R.ne⟩
  · rw [upd_ne (ne_of_none e h)]; exact R.sub b u e
  · have q := R.ok i s v e1 e2
    cases s with
    | un => trivial
    | val d => exact q
    | scr ns => exact q
    | own ds =>
      obtain ⟨a, xs, e, h1, h2, q⟩ := q
      refine ⟨a, xs, e, ?_, h2, q⟩
      rw [upd_ne ?_]
      · exact h1
      · rintro rfl; exact n ⟨i, ds, e1, by rw [e2, e]⟩
def Out.calm {α : Type} (o : Out α) : Out α := match o with
  | .exc _ _ _ => .stuck
  | o => o
/-- a comprehension's turns -/
def compL (g : Dt → En → Option En) (c : M Bool) (me : M Res) (vs : List Nat) : List Dt → List Dt → En → Out (List Dt)
  | [], acc, en => .ok acc en
  | d :: ds, acc, en => match g d en with
    | none => .stuck
    | some en1 => match (c en1).calm with
      | .ok b en2 => if b = true then (match (eVal me en2).calm with
          | .ok y en3 => if acc.length < sizeLine then compL g c me vs ds (acc ++ [y]) (wipeE en3 vs) else .stuck
          | _ => .stuck) else compL g c me vs ds acc (wipeE en2 vs)
      | _ => .stuck
def eComp (mi : M (List Dt)) (g : Dt → En → Option En) (c : M Bool) (me : M Res) (vs : List Nat) : M Res := fun en => (mi en).bind fun ds en1 => (compL g c me vs ds [] (wipeE en1 vs)).bind fun ys en2 => .ok (.new ys) (restE en1 en2 vs)
abbrev W0 : WX := fun _ _ _ _ => False
def cYes : M Bool := fun en => .ok true en
theorem PTs.imp {X : Cx} {e : List Expr} {t t' : TT} (h : PTs X e t) (i : ∀ σ H Q, t' σ H Q → t σ H Q) : PTs X e t' := ⟨fun pins s σ H Q I q => h.run pins s σ H Q I (i σ H Q q)⟩
theorem OutOk.calm {α : Type} {K : PySem.W.Frag} {mg : Str → Option Value} {F H : Hp} {en : En} {σ : St} {o : Out α} {a : α} {en1 : En} {P : Hp → Hp → En → α → Prop} (e : o.calm = .ok a en1)
    (h : ∀ F' H', Rel K F' H' en1 σ → Post F H (Own en σ) F' H' (Own en1 σ) → P F' H' en1 a) : OutOk K mg W0 F H en σ o P := by
  cases o with
  | ok b en2 => cases e; exact h
  | exc c d en2 => cases e
  | stuck => cases e

section
variable {X : Cx} {W : WX} {e tg elt : Expr} {ifs : List Expr} {mi : M (List Dt)} {g : Dt → En → Option En} {c : M Bool} {me : M Res} {scope : Scope} {own : List (Str × Nat)} {pos : Pos}
theorem rts_nil : PTs X [] (tT X.K X.mg W cYes) := PTs.imp pts_nil fun σ H Q ⟨F, en, R, h⟩ => h F H R .refl
theorem rts_one {e : Expr} (h : PT X e (tT X.K X.mg W c)) : PTs X [e] (tT X.K X.mg W c) := pts_one h
theorem Ct.blk {k : Nat} (ct : Ct X W k) (s : Shared) (H : Hp) (cenv : Env) (fp : List Addr) : Ct (X.blk s H scope cenv fp) W0 k := ⟨ct.calm, ct.nd, takes0, ct.room, PassesOwn.never⟩
theorem comp_core {σ : St} {H : Hp} {Q : VK} {vs : List Nat} (h : tE X.K X.mg W (eComp mi g c me vs) σ H Q) : tLc (tI X.K X.mg W mi) (tG X.K (fun σ => wipe σ vs) g) (tT X.K X.mg W0 c) (tV X.K X.mg W0 (eVal me)) vs σ H Q := by
  obtain ⟨F, en, R, h⟩ := h
  refine ⟨F, en, R, (OutOk.ofBind h).imp fun F1 H1 en1 ds _ ⟨R1, p1, q⟩ J wk D hD => ?_⟩
  have hF1 : F1 D = none := R1.sub.free hD
  obtain ⟨Rw, _⟩ := wipe_rel (vs := vs) R1
  generalize ho : compL g c me vs ds [] (wipeE en1 vs) = o at q
  have g0 : Grow F1 H1 F1 (upd H1 D (.lst [])) := grow_own R1.sub hD
  have noD : ∀ {Fi Hi : Hp} {eni : En}, Post F1 H1 (Own (wipeE en1 vs) (wipe σ vs)) Fi Hi (Own eni (wipe σ vs)) → Rel X.K Fi Hi eni (wipe σ vs) → Fi D = none → True := fun _ _ _ => trivial
  -- the word: the new list is told apart from what the block knows
  refine ⟨fun i m Hi => ∃ Fi eni acc xs, m = ds.length - i ∧ i ≤ ds.length ∧ Rel X.K Fi Hi eni (wipe σ vs) ∧ Post F1 H1 (Own (wipeE en1 vs) (wipe σ vs)) Fi Hi (Own eni (wipe σ vs)) ∧
      Hi D = some (.lst xs) ∧ Fi D = none ∧ ¬ Own eni (wipe σ vs) D ∧ Reps X.K Fi acc xs ∧ compL g c me vs (ds.drop i) acc eni = o,
    ⟨_, F1, wipeE en1 vs, [], [], rfl, Nat.zero_le _, Rw.grow g0, g0.post, upd_same, hF1, fun z => ?_, rfl, ho⟩, ?_⟩
  · obtain ⟨_, y, _⟩ := Rw.own_there z
    rw [hD] at y; cases y
  rintro i m Hi ⟨Fi, eni, acc, xs, rfl, hi, Ri, pi, hDi, hFi, nDi, qi, eo⟩
  obtain ⟨w1, w2⟩ := wk Fi Hi i pi.sub Ri.sub
  by_cases hlt : i < ds.length
  · have ed : ds[i]? = some ds[i] := List.getElem?_eq_getElem hlt
    obtain ⟨go, yld⟩ := w1 _ ed
    rw [List.drop_eq_getElem_cons hlt] at eo
    unfold compL at eo
    have ne : o ≠ .stuck := fun z => by rw [z] at q; exact q
    refine .inr ⟨go, fun H' => ∃ Fi eni acc xs, Rel X.K Fi H' eni (wipe σ vs) ∧ Post F1 H1 (Own (wipeE en1 vs) (wipe σ vs)) Fi H' (Own eni (wipe σ vs)) ∧
      H' D = some (.lst xs) ∧ Fi D = none ∧ ¬ Own eni (wipe σ vs) D ∧ Reps X.K Fi acc xs ∧ compL g c me vs (ds.drop (i + 1)) acc eni = o,
      fun H' ⟨Fj, enj, accj, xsj, h1, h2, h4, h5, h6, h7, h8⟩ => ⟨ds.length - (i + 1), by omega, Fj, enj, accj, xsj, rfl, hlt, h1, h2, h4, h5, h6, h7, h8⟩, fun x H' y => ?_⟩
    obtain ⟨F', gr, rep⟩ := yld x H' y
    cases z : g ds[i] eni with
    | none => rw [z] at eo; exact absurd eo.symm ne
    | some en2 =>
      rw [z] at eo
      dsimp only at eo
      refine ⟨F', eni, ds[i], Ri.grow gr, rep, en2, z, fun σ2 R2 p2 t2 => ?_⟩
      have t2 : wipe σ2 vs = wipe σ vs := t2.trans (wipe_twice σ vs)
      have p02 : Post F1 H1 (Own (wipeE en1 vs) (wipe σ vs)) F' H' (Own en2 σ2) := (pi.trans gr.post).trans p2
      -- keeping D through a step
      have keepD : ∀ {Fa Ha Fb Hb : Hp} {A B : Addr → Prop} {xs : List V}, Post Fa Ha A Fb Hb B → Ha D = some (.lst xs) → Fa D = none → ¬ A D → Hb D = some (.lst xs) ∧ Fb D = none ∧ ¬ B D := fun {Fa Ha Fb Hb A B xs} p e1 e2 n => by
        refine ⟨p.keep _ _ e1 n, ?_, fun z => ?_⟩
        · cases y : Fb D with
          | none => rfl
          | some u =>
            rcases p.frz D u y with t | t | t
            · rw [e2] at t; cases t
            · rw [e1] at t; cases t
            · exact absurd t n
        · rcases p.own D z with t | t
          · exact n t
          · rw [e1] at t; cases t
      obtain ⟨d1, d2, d3⟩ := keepD (gr.post.trans p2) hDi hFi nDi
      refine ⟨t2, F', en2, R2, ?_⟩
      cases zc : (c en2).calm with
      | stuck => rw [zc] at eo; exact absurd eo.symm ne
      | exc c' d' en' => rw [zc] at eo; exact absurd eo.symm ne
      | ok b en3 =>
        rw [zc] at eo
        dsimp only at eo
        refine OutOk.calm zc fun F3 H3 R3 p3 => ?_
        obtain ⟨k1, k2, k3⟩ := keepD p3 d1 d2 d3
        have q3 := Reps.mono ((gr.sub.trans p2.sub).trans p3.sub) _ _ qi
        cases b with
        | false =>
          rw [if_neg Bool.false_ne_true] at eo ⊢
          obtain ⟨Rw3, ow3⟩ := wipe_rel (vs := vs) R3
          have pw3 := (p02.trans p3).trans (wipe_post (vs := vs) R3)
          have n3 : ¬ Own (wipeE en3 vs) (wipe σ2 vs) D := fun z => k3 (ow3 D z)
          rw [t2] at Rw3 pw3 n3
          exact ⟨F3, _, acc, xs, Rw3, pw3, k1, k2, n3, q3, eo⟩
        | true =>
          rw [if_pos rfl] at eo ⊢
          refine ⟨F3, en3, R3, ?_⟩
          cases zv : (eVal me en3).calm with
          | stuck => rw [zv] at eo; exact absurd eo.symm ne
          | exc c' d' en' => rw [zv] at eo; exact absurd eo.symm ne
          | ok y4 en4 =>
            rw [zv] at eo
            dsimp only at eo
            by_cases hz : acc.length < sizeLine
            · rw [if_pos hz] at eo
              refine OutOk.calm zv fun F4 H4 R4 p4 v hv => ?_
              obtain ⟨l1, l2, l3⟩ := keepD p4 k1 k2 k3
              have q4 := Reps.mono p4.sub _ _ q3
              refine ⟨xs, l1, by rw [← q3.length]; exact hz, ?_⟩
              obtain ⟨Rw4, ow4⟩ := wipe_rel (vs := vs) R4
              have pw4 := ((p02.trans p3).trans p4).trans (wipe_post (vs := vs) R4)
              have n4 : ¬ Own (wipeE en4 vs) (wipe σ2 vs) D := fun z => l3 (ow4 D z)
              rw [t2] at Rw4 pw4 n4
              refine ⟨F4, _, acc ++ [y4], xs ++ [v], Rw4.updD l2 n4, ⟨pw4.sub, fun b o e n => ?_, fun b e => ?_, pw4.frz, pw4.own⟩, upd_same, l2, n4, Reps.append q4 (Reps.one hv), eo⟩
              · rw [upd_ne (ne_of_none e hD)]; exact pw4.keep b o e n
              · by_cases eb : b = D
                · subst eb; exact hD
                · rw [upd_ne eb] at e; exact pw4.there b e
            · rw [if_neg hz] at eo; exact absurd eo.symm ne
  · have e0 : ds.drop i = [] := List.drop_eq_nil_of_le (by omega)
    rw [e0] at eo
    unfold compL at eo
    subst eo
    refine .inl ⟨w2 (by omega), ?_⟩
    have pw : Post F1 H1 (Own (wipeE en1 vs) (wipe σ vs)) Fi Hi (Own (wipeE eni vs) (wipe (wipe σ vs) vs)) := pi.trans (wipe_post Ri)
    obtain ⟨Rr, pr⟩ := rest_rel R1 Ri (wipe_twice σ vs) pw
    refine q Fi Hi Rr (p1.trans pr) (.ref D) ⟨D, xs, rfl, hDi, hFi, fun ⟨j, es, e1, e2⟩ => ?_, qi⟩ fun a ea => by cases ea; exact p1.there _ hD
    by_cases hj : j ∈ vs
    · have hl : j < en1.length := by
        have := (List.getElem?_eq_some_iff.mp e1).1
        rw [restE_len, Ri.len, wipe_length, ← R1.len] at this; exact this
      obtain ⟨_, y, _⟩ := R1.own_there ⟨j, es, restE_in hj hl e1, e2⟩
      rw [hD] at y; cases y
    · rw [restE_out hj] at e1
      exact nDi ⟨j, es, e1, by rw [wipe_outS hj]; exact e2⟩
theorem re_comp {k : Nat} (ct : Ct X W k) (ok : BlkOk X.N X.env.scope scope own) (hi : PI X tg e (tI X.K X.mg W mi))
    (hg : ∀ (s : Shared) (H : Hp) (C : Addr) (cl : List (Str × Addr)) (fp : List Addr), Ct (X.blk s H scope (compEnvC scope cl C X.env) fp) W0 k → PG (X.blk s H scope (compEnvC scope cl C X.env) fp) tg (tG X.K (fun σ => wipe σ (own.map (·.2))) g))
    (ht : ∀ (s : Shared) (H : Hp) (C : Addr) (cl : List (Str × Addr)) (fp : List Addr), Ct (X.blk s H scope (compEnvC scope cl C X.env) fp) W0 k → PTs (X.blk s H scope (compEnvC scope cl C X.env) fp) ifs (tT X.K X.mg W0 c))
    (he : ∀ (s : Shared) (H : Hp) (C : Addr) (cl : List (Str × Addr)) (fp : List Addr), Ct (X.blk s H scope (compEnvC scope cl C X.env) fp) W0 k → PE (X.blk s H scope (compEnvC scope cl C X.env) fp) elt (tE X.K X.mg W0 me))
    (hs : ∀ x, foldedSetIterable e X.env x = pure x := by exact fun _ => rfl) :
    PE X (.ListComp elt [⟨tg, e, ifs, 0⟩] scope pos) (tE X.K X.mg W (eComp mi g c me (own.map (·.2)))) :=
  PE.imp (pe_lc ct.calm ct.nd hi ok (fun s H C cl fp => hg s H C cl fp (ct.blk s H _ fp)) (fun s H C cl fp => ht s H C cl fp (ct.blk s H _ fp)) (fun s H C cl fp => rv_of (X := X.blk s H scope (compEnvC scope cl C X.env) fp) (he s H C cl fp (ct.blk s H _ fp))) hs) fun σ H Q h => comp_core h
/-- name = [..] on one line -/
theorem rs_setLc {k : Nat} {fx : Nat} (i : Nat) {y : Str} {py spos : Pos} (hf : fx ≤ i) (ct : Ct X W k) (ok : BlkOk X.N X.env.scope scope own) (hi : PI X tg e (tI X.K X.mg W mi))
    (hg : ∀ (s : Shared) (H : Hp) (C : Addr) (cl : List (Str × Addr)) (fp : List Addr), Ct (X.blk s H scope (compEnvC scope cl C X.env) fp) W0 k → PG (X.blk s H scope (compEnvC scope cl C X.env) fp) tg (tG X.K (fun σ => wipe σ (own.map (·.2))) g))
    (ht : ∀ (s : Shared) (H : Hp) (C : Addr) (cl : List (Str × Addr)) (fp : List Addr), Ct (X.blk s H scope (compEnvC scope cl C X.env) fp) W0 k → PTs (X.blk s H scope (compEnvC scope cl C X.env) fp) ifs (tT X.K X.mg W0 c))
    (he : ∀ (s : Shared) (H : Hp) (C : Addr) (cl : List (Str × Addr)) (fp : List Addr), Ct (X.blk s H scope (compEnvC scope cl C X.env) fp) W0 k → PE (X.blk s H scope (compEnvC scope cl C X.env) fp) elt (tE X.K X.mg W0 me))
    (hsw : swapsWith (.ListComp elt [⟨tg, e, ifs, 0⟩] scope pos) (some (.Name y py)) spos.line X.env = pure true)
    (hy : X.N[i]? = some y := by rfl) (hyl : X.env.scope.names.lookup y = some .local := by rfl) (hs : ∀ x, foldedSetIterable e X.env x = pure x := by exact fun _ => rfl) :
    PS X (.Assign [.Name y py] (.ListComp elt [⟨tg, e, ifs, 0⟩] scope pos) spos) (tS X.K X.mg W fx (sSet i (eComp mi g c me (own.map (·.2))))) :=
  PS.imp (ps_setLc ct.calm ct.nd hy hyl hsw hi ok (fun s H C cl fp => hg s H C cl fp (ct.blk s H _ fp)) (fun s H C cl fp => ht s H C cl fp (ct.blk s H _ fp)) (fun s H C cl fp => rv_of (X := X.blk s H scope (compEnvC scope cl C X.env) fp) (he s H C cl fp (ct.blk s H _ fp))) hs) fun D σ H ⟨F, en, R, h⟩ =>
    comp_core (X := X) (Q := fun x H1 => D.nx (σ.set i (some x)) H1) ⟨F, en, R, h.ofThen.imp fun F1 H1 en1 r _ ⟨R1, p1, q⟩ v hv fr => put_ok hf R1 p1 q hv fr⟩
end
end Fw

/-! Fw8: lists of one's own changed; several names at once. -/
namespace Fw
open PySem PySem.Spec PyProof.Rows L2

theorem get_list {X : Cx} : PGet X (rIxL X.K) := by
  intro pins s σ H x y v u Q I rx ry h
  obtain ⟨p, xs, i, z, rfl, rfl, hq, he, q⟩ := h
  cases rx
  obtain ⟨t, rfl⟩ := ry
  obtain ⟨its, r, pl, hz⟩ := I.list hq
  obtain ⟨j, h1, h2, h3, h4, h5⟩ := atI_get he
  obtain ⟨w, ew, rw'⟩ := r.get h2
  have hl := r.length
  have hn := line63
  have fin : EP X pins σ Q w s := ⟨z, H, I, rw', q⟩
  by_cases h0 : 0 ≤ i
  · have hj : i.toNat = j := by
      rw [seqIndex_of h0 h5] at h1
      exact Option.some.inj h1
    exact wpAny_getItem_list pl.isList h0 (by omega) (by rw [hj]; simpa using ew) fin
  · have hj : (i + (its.toArray.size : Int)).toNat = j := by
      rw [seqIndex_neg (by omega) h4] at h1
      rw [List.size_toArray, ← hl]
      exact Option.some.inj h1
    exact wpAny_getItem_list_neg pl.isList (by omega) (by rw [List.size_toArray] <;> omega) (by omega) (by rw [hj]; simpa using ew) fin

def ownAt (en : En) (i : Nat) : Option (List Dt) := match en[i]? with
  | some (.own ds) => some ds
  | _ => none
theorem ownAt_some {en : En} {i : Nat} {ds : List Dt} (h : ownAt en i = some ds) : en[i]? = some (.own ds) := by
  unfold ownAt at h
  cases e : en[i]? with
  | none => simp [e] at h
  | some s => cases s <;> simp_all
theorem own_addr {K : PySem.W.Frag} {F H : Hp} {en : En} {σ : St} {i : Nat} {ds : List Dt} (R : Rel K F H en σ) (h : ownAt en i = some ds) : ∃ a xs, σ[i]? = some (some (.ref a)) ∧ H a = some (.lst xs) ∧ F a = none ∧ Reps K F ds xs := by
  have e := ownAt_some h
  have hi : i < σ.length := by rw [← R.len]; exact (List.getElem?_eq_some_iff.mp e).1
  obtain ⟨a, xs, eo, h1, h2, q⟩ := R.ok i _ _ e (List.getElem?_eq_getElem hi)
  exact ⟨a, xs, by rw [List.getElem?_eq_getElem hi, eo], h1, h2, q⟩
theorem own_addr' {K : PySem.W.Frag} {F H : Hp} {en : En} {σ : St} {i : Nat} {ds : List Dt} {a : Addr} (R : Rel K F H en σ) (h : ownAt en i = some ds) (e : σ[i]? = some (some (.ref a))) : ∃ xs, H a = some (.lst xs) ∧ F a = none ∧ Reps K F ds xs := by
  obtain ⟨b, xs, e', q⟩ := own_addr R h
  rw [e] at e'; cases e'
  exact ⟨xs, q⟩

section
variable {X : Cx} {W : WX} {fx : Nat} {e a b : Expr} {m ma mb : M Res} {pos apos cpos np : Pos} {x : Str}
/-- x.append(e) -/
def eApp (i : Nat) (m : M Res) : M Res := fun en => if (ownAt en i).isSome = true then (eVal m en).bind fun d en1 => match ownAt en1 i with
  | some ds => if ds.length < sizeLine then .ok (.dat .non) (en1.set i (.own (ds ++ [d]))) else .stuck
  | none => .stuck
  else .stuck
theorem re_append (i : Nat) (he : PE X e (tE X.K X.mg W m)) (hN : X.N[i]? = some x := by rfl) (hv : Vis X.env.scope x := by first | exact Or.inl rfl | exact Or.inr (Or.inl rfl) | exact Or.inr (Or.inr rfl)) (hd : (x == ("__debug__" : Str)) = false := by decide) (hcd : (x == ("__classdict__" : Str)) = false := by decide)
    (hs : starEach [e] X.env = [(false, eval e X.env)] := by rfl) (hbase : attributeBase (.Name x np) "append" X.env (eval (.Name x np) X.env) = eval (.Name x np) X.env := by rfl) (hline : (apos.endLine == cpos.line) = true := by rfl)
    (hfew : ((backTo cpos (starEach [e] X.env)).all (fun x => !x.1) && (backToKw cpos (keywordEach [] X.env)).all (fun x => x.1.isSome) && decide (([e] : List Expr).length + ([] : List Keyword).length + (if ([] : List Keyword).isEmpty then 0 else 1) < 30)) = true := by rfl) :
    PE X (.Call (.Attribute (.Name x np) "append" apos) [e] [] cpos) (tE X.K X.mg W (eApp i m)) :=
  PE.imp (pe_bm PySem.F.plainAttrs_list PySem.F.slot_list_append PySem.F.type_list_append mt_append (pe_var (i := i) hN hv hd hcd) (pa_cons (rv_of he) pa_nil hs) hbase hfew hline (by rw [hs]; rfl)) fun σ H Q ⟨F, en, R, h⟩ => by
    unfold eApp at h
    cases z : ownAt en i with
    | none => rw [z] at h; exact h.elim
    | some ds0 =>
      rw [z] at h
      obtain ⟨p, xs0, eσ, h0, _⟩ := own_addr R z
      refine ⟨.ref p, eσ, .inl ⟨rfl, xs0, SqL.of h0⟩, F, en, R, (OutOk.ofBind h).imp fun F1 H1 en1 d _ ⟨R1, p1, q⟩ v hv => ?_⟩
      cases z1 : ownAt en1 i with
      | none => rw [z1] at q; exact q.elim
      | some ds =>
        rw [z1] at q
        dsimp only at q
        obtain ⟨xs, h1, h2, r⟩ := own_addr' R1 z1 eσ
        by_cases hz : ds.length < sizeLine
        · rw [if_pos hz] at q
          obtain ⟨R2, p2⟩ := mut_slot R1 (ownAt_some z1) eσ (Reps.append r (Reps.one hv))
          exact ⟨p, xs, v, rfl, rfl, h1, by rw [← r.length]; exact hz, q _ _ R2 (p1.trans p2) _ rfl trivial⟩
        · rw [if_neg hz] at q; exact q.elim
/-- x.extend(e), e a list -/
def eExt (i : Nat) (m : M Res) : M Res := fun en => if (ownAt en i).isSome = true then (eOpd m en).bind fun r en1 => match ownAt en1 i, vw en1 r with
  | some ds, some (.lst es) => if ds.length + es.length ≤ sizeLine then .ok (.dat .non) (en1.set i (.own (ds ++ es))) else .stuck
  | _, _ => .stuck
  else .stuck
theorem re_extend (i : Nat) (he : PE X e (tE X.K X.mg W m)) (hN : X.N[i]? = some x := by rfl) (hv : Vis X.env.scope x := by first | exact Or.inl rfl | exact Or.inr (Or.inl rfl) | exact Or.inr (Or.inr rfl)) (hd : (x == ("__debug__" : Str)) = false := by decide) (hcd : (x == ("__classdict__" : Str)) = false := by decide)
    (hs : starEach [e] X.env = [(false, eval e X.env)] := by rfl) (hbase : attributeBase (.Name x np) "extend" X.env (eval (.Name x np) X.env) = eval (.Name x np) X.env := by rfl) (hline : (apos.endLine == cpos.line) = true := by rfl)
    (hfew : ((backTo cpos (starEach [e] X.env)).all (fun x => !x.1) && (backToKw cpos (keywordEach [] X.env)).all (fun x => x.1.isSome) && decide (([e] : List Expr).length + ([] : List Keyword).length + (if ([] : List Keyword).isEmpty then 0 else 1) < 30)) = true := by rfl) :
    PE X (.Call (.Attribute (.Name x np) "extend" apos) [e] [] cpos) (tE X.K X.mg W (eExt i m)) :=
  PE.imp (pe_bm PySem.F.plainAttrs_list PySem.F.slot_list_extend PySem.F.type_list_extend mt_extend (pe_var (i := i) hN hv hd hcd) (pa_cons he pa_nil hs) hbase hfew hline (by rw [hs]; rfl)) fun σ H Q ⟨F, en, R, h⟩ => by
    unfold eExt at h
    cases z : ownAt en i with
    | none => rw [z] at h; exact h.elim
    | some ds0 =>
      rw [z] at h
      obtain ⟨p, xs0, eσ, h0, _⟩ := own_addr R z
      refine ⟨.ref p, eσ, .inl ⟨rfl, xs0, SqL.of h0⟩, F, en, R, (opd h).imp fun F1 H1 en1 r0 _ q v hv fr => ?_⟩
      obtain ⟨F2, r, R2, p2, n2, hv2, q⟩ := q v hv fr
      cases z1 : ownAt en1 i with
      | none => rw [z1] at q; exact q.elim
      | some ds =>
        rw [z1] at q
        obtain ⟨xs, h1, h2, rr⟩ := own_addr' R2 z1 eσ
        cases z2 : vw en1 r with
        | none => rw [z2] at q; exact q.elim
        | some d =>
          rw [z2] at q
          have vx := hv2.vw R2 z2
          cases d with
          | lst es =>
            obtain ⟨bb, zs, ev, h3, r3⟩ := vx
            dsimp only at q
            by_cases hz : ds.length + es.length ≤ sizeLine
            · rw [if_pos hz] at q
              obtain ⟨R3, p3⟩ := mut_slot R2 (ownAt_some z1) eσ (Reps.append rr r3)
              exact ⟨p, bb, xs, zs, rfl, by rw [ev], h1, h3, by rw [← rr.length, ← r3.length]; exact hz, q _ _ R3 p3 _ rfl trivial⟩
            · rw [if_neg hz] at q; exact q.elim
          | _ => exact q.elim
/-- x.pop(e) -/
def ePop (i : Nat) (m : M Res) : M Res := fun en => if (ownAt en i).isSome = true then (eOpd m en).bind fun r en1 => match ownAt en1 i, vw en1 r with
  | some ds, some (.int j) => if inB62 j then (match (ixN ds.length j) with
    | some k => (match ds[k]? with
      | some d => .ok (.dat d) (en1.set i (.own (ds.eraseIdx k)))
      | none => .stuck)
    | none => .stuck) else .stuck
  | _, _ => .stuck
  else .stuck
theorem Reps.eraseIdx {K : PySem.W.Frag} {F : Hp} : ∀ {ds : List Dt} {xs : List V} (k : Nat), Reps K F ds xs → Reps K F (ds.eraseIdx k) (xs.eraseIdx k)
  | [], xs, k, h => by have h : xs = [] := h; subst h; cases k <;> rfl
  | d :: ds, xs, 0, ⟨v, r, e, q, t⟩ => by subst e; exact t
  | d :: ds, xs, k + 1, ⟨v, r, e, q, t⟩ => by subst e; exact ⟨v, r.eraseIdx k, rfl, q, Reps.eraseIdx k t⟩
theorem re_pop (i : Nat) (he : PE X e (tE X.K X.mg W m)) (hN : X.N[i]? = some x := by rfl) (hv : Vis X.env.scope x := by first | exact Or.inl rfl | exact Or.inr (Or.inl rfl) | exact Or.inr (Or.inr rfl)) (hd : (x == ("__debug__" : Str)) = false := by decide) (hcd : (x == ("__classdict__" : Str)) = false := by decide)
    (hs : starEach [e] X.env = [(false, eval e X.env)] := by rfl) (hbase : attributeBase (.Name x np) "pop" X.env (eval (.Name x np) X.env) = eval (.Name x np) X.env := by rfl) (hline : (apos.endLine == cpos.line) = true := by rfl)
    (hfew : ((backTo cpos (starEach [e] X.env)).all (fun x => !x.1) && (backToKw cpos (keywordEach [] X.env)).all (fun x => x.1.isSome) && decide (([e] : List Expr).length + ([] : List Keyword).length + (if ([] : List Keyword).isEmpty then 0 else 1) < 30)) = true := by rfl) :
    PE X (.Call (.Attribute (.Name x np) "pop" apos) [e] [] cpos) (tE X.K X.mg W (ePop i m)) :=
  PE.imp (pe_bm PySem.F.plainAttrs_list PySem.F.slot_list_pop PySem.F.type_list_pop mt_popAt (pe_var (i := i) hN hv hd hcd) (pa_cons he pa_nil hs) hbase hfew hline (by rw [hs]; rfl)) fun σ H Q ⟨F, en, R, h⟩ => by
    unfold ePop at h
    cases z : ownAt en i with
    | none => rw [z] at h; exact h.elim
    | some ds0 =>
      rw [z] at h
      obtain ⟨p, xs0, eσ, h0, _⟩ := own_addr R z
      refine ⟨.ref p, eσ, .inl ⟨rfl, xs0, SqL.of h0⟩, F, en, R, (opd h).imp fun F1 H1 en1 r0 _ q v hv fr => ?_⟩
      obtain ⟨F2, r, R2, p2, n2, hv2, q⟩ := q v hv fr
      cases z1 : ownAt en1 i with
      | none => rw [z1] at q; exact q.elim
      | some ds =>
        rw [z1] at q
        obtain ⟨xs, h1, h2, rr⟩ := own_addr' R2 z1 eσ
        cases z2 : vw en1 r with
        | none => rw [z2] at q; exact q.elim
        | some d =>
          rw [z2] at q
          have vx := hv2.vw R2 z2
          cases d with
          | int j =>
            have vx : v = .int j := vx
            dsimp only at q
            by_cases hz : inB62 j
            · rw [if_pos hz] at q
              cases z3 : ixN ds.length j with
              | none => rw [z3] at q; exact q.elim
              | some k =>
                rw [z3] at q
                dsimp only at q
                cases z4 : ds[k]? with
                | none => rw [z4] at q; exact q.elim
                | some d =>
                  rw [z4] at q
                  dsimp only at q
                  obtain ⟨w, ew, rw'⟩ := rr.get z4
                  obtain ⟨R3, p3⟩ := mut_slot R2 (ownAt_some z1) eσ (Reps.eraseIdx k rr)
                  obtain ⟨g1, _⟩ := ixN_seq z3
                  have hb := hz.1
                  have hb2 := hz.2
                  exact ⟨p, xs, j, k, w, rfl, by rw [vx], h1, by omega, by omega, by rw [← rr.length]; exact g1, ew, q _ _ R3 p3 w rw' trivial⟩
            · rw [if_neg hz] at q; exact q.elim
          | _ => exact q.elim
/-- x[e] = v -/
def sSetIx (i : Nat) (mi mv : M Res) : MS := fun en => (eVal mv en).then fun d en1 => if (ownAt en1 i).isSome = true then (eOpd mi en1).then fun r en2 => match ownAt en2 i, vw en2 r with
  | some ds, some (.int j) => (match (ixN ds.length j) with
    | some k => .nx (en2.set i (.own (ds.set k d)))
    | none => .stuck)
  | _, _ => .stuck
  else .stuck
theorem opdS {K : PySem.W.Frag} {mg : Str → Option Value} {F H : Hp} {en : En} {σ : St} {D : Ends} {k : Res → En → OutS} (h : SOk K mg W fx F H en σ D ((eOpd m en).then k)) :
    OutOk K mg W F H en σ (m en) fun F1 H1 en1 r0 => ∀ v, ResOk K F1 H1 en1 σ v r0 → Fresh H v r0 →
      ∃ F2 r, Rel K F2 H1 en1 σ ∧ Post F H (Own en σ) F2 H1 (Own en1 σ) ∧ (∀ ds, r ≠ .new ds) ∧ ResOk K F2 H1 en1 σ v r ∧ SOk K mg W fx F2 H1 en1 σ D (k r en1) :=
  (OutOk.ofBind h.ofThen).imp fun F1 H1 en1 r0 _ ⟨R1, p1, hp⟩ v hv fr => by
    obtain ⟨F2, r, R2, p2, n, hv2, _, _, q⟩ := toO_ok p1 R1 hv fr hp
    exact ⟨F2, r, R2, p2, n, hv2, q.bind p2 rfl⟩
theorem valdS {K : PySem.W.Frag} {mg : Str → Option Value} {F H : Hp} {en : En} {σ : St} {D : Ends} {k : Dt → En → OutS} (h : SOk K mg W fx F H en σ D ((eVal m en).then k)) :
    OutOk K mg W F H en σ (m en) fun F1 H1 en1 r0 => ∀ v, ResOk K F1 H1 en1 σ v r0 → Fresh H v r0 →
      ∃ F2 en2 d, Rel K F2 H1 en2 σ ∧ Post F H (Own en σ) F2 H1 (Own en2 σ) ∧ Rep K F2 d v ∧ SOk K mg W fx F2 H1 en2 σ D (k d en2) :=
  (OutOk.ofBind h.ofThen).imp fun F1 H1 en1 r0 _ ⟨R1, p1, hp⟩ v hv fr => by
    obtain ⟨F2, en2, d, R2, p2, hv2, _, _, q⟩ := toV_ok p1 R1 hv fr hp
    exact ⟨F2, en2, d, R2, p2, hv2, q.bind p2 rfl⟩
theorem ixN_lt {n k : Nat} {i : Int} (h : ixN n i = some k) : k < n := (ixN_seq h).2.1
theorem rs_setIx (i : Nat) {ie : Expr} {mi mv : M Res} {spos tpos : Pos} (he : PE X e (tE X.K X.mg W mv)) (hi : PE X ie (tE X.K X.mg W mi)) (hN : X.N[i]? = some x := by rfl) (hv : Vis X.env.scope x := by first | exact Or.inl rfl | exact Or.inr (Or.inl rfl) | exact Or.inr (Or.inr rfl)) (hd : (x == ("__debug__" : Str)) = false := by decide) (hcd : (x == ("__classdict__" : Str)) = false := by decide)
    (ha : ∀ v, assign (.Subscript (.Name x np) ie tpos) X.env v = (do
      let ov ← holding [v] (eval (.Name x np) X.env)
      let iv ← holding [v, ov] (eval ie X.env)
      standAt tpos
      holding [v, ov, iv] (setItem ov iv v)
      release [v, ov, iv] []) := by exact fun _ => rfl)
    (hs : swapsWithSole [.Subscript (.Name x np) ie tpos] e spos.line X.env = pure false := by rfl) (hw : swappedStores [.Subscript (.Name x np) ie tpos] e X.env = pure none := by rfl) (h1 : (assignEach [.Subscript (.Name x np) ie tpos] X.env).map (·.2) = [assign (.Subscript (.Name x np) ie tpos) X.env] := by rfl) :
    PS X (.Assign [.Subscript (.Name x np) ie tpos] e spos) (tS X.K X.mg W fx (sSetIx i mi mv)) :=
  PS.imp (ps_asg he (pg_sub (pe_var (i := i) hN hv hd hcd) hi set_list ha) hs hw h1) fun D σ H ⟨F, en, R, h⟩ => ⟨F, en, R, (valdS h).imp fun F1 H1 en1 r0 _ q v hv fr => by
    obtain ⟨F2, en2, d, R2, p2, hv2, q⟩ := q v hv fr
    cases z : ownAt en2 i with
    | none => rw [z] at q; exact q.elim
    | some ds0 =>
      rw [z] at q
      obtain ⟨p, xs0, eσ, h0, _⟩ := own_addr R2 z
      refine ⟨.ref p, eσ, F2, en2, R2, (opdS q).imp fun F3 H3 en3 r3 _ q w hw fw => ?_⟩
      obtain ⟨F4, r, R4, p4, n4, hw4, q⟩ := q w hw fw
      cases z1 : ownAt en3 i with
      | none => rw [z1] at q; exact q.elim
      | some ds =>
        rw [z1] at q
        obtain ⟨xs, g1, g2, rr⟩ := own_addr' R4 z1 eσ
        cases z2 : vw en3 r with
        | none => rw [z2] at q; exact q.elim
        | some dd =>
          rw [z2] at q
          have vx := hw4.vw R4 z2
          cases dd with
          | int j =>
            have vx : w = .int j := vx
            dsimp only at q
            cases z3 : ixN ds.length j with
            | none => rw [z3] at q; exact q.elim
            | some k =>
              rw [z3] at q
              dsimp only at q
              obtain ⟨R5, p5⟩ := mut_slot R4 (ownAt_some z1) eσ (Reps.set k (Rep.mono p4.sub _ _ hv2) rr)
              exact ⟨p, xs, j, k, rfl, vx, g1, by rw [← rr.length]; exact z3, q σ _ _ R5 p5 rfl⟩
          | _ => exact q.elim⟩
/-- ints -/
def fI2 (f : Int → Int → Int) : Dt → Dt → Option Dt := fun a b => match a, b with
  | .int i, .int j => some (.int (f i j))
  | _, _ => none
def PIpI (X : Cx) (op : Operator) (f : Int → Int → Int) : Prop := PIp X op (ipI f)
/-- x[e] op= v, ints -/
def sAugIx (f : Int → Int → Int) (i : Nat) (mi mv : M Res) : MS := fun en => if (ownAt en i).isSome = true then (eOpd mi en).then fun r en1 => match ownAt en1 i, vw en1 r with
  | some ds, some (.int j) => (match (ixN ds.length j) with
    | some k => (match ds[k]? with
      | some (.int old) => (eOpd mv en1).then fun r2 en2 => (match vw en2 r2, ownAt en2 i with
        | some (.int y), some es => (match ixN es.length j with
          | some k2 => .nx (en2.set i (.own (es.set k2 (.int (f old y)))))
          | none => .stuck)
        | _, _ => .stuck)
      | _ => .stuck)
    | none => .stuck)
  | _, _ => .stuck
  else .stuck
theorem atI_of {α : Type} {xs : List α} {i : Int} {k : Nat} {v : α} (h : ixN xs.length i = some k) (e : xs[k]? = some v) : atI xs i = some v := by
  unfold atI; rw [h]; exact e
theorem rs_augIx (i : Nat) {op : Operator} {f : Int → Int → Int} (ho : PIp X op (ipI f)) {ie : Expr} {mi mv : M Res} {spos tpos : Pos} (hi : PE X ie (tE X.K X.mg W mi)) (he : PE X e (tE X.K X.mg W mv)) (hN : X.N[i]? = some x := by rfl) (hv : Vis X.env.scope x := by first | exact Or.inl rfl | exact Or.inr (Or.inl rfl) | exact Or.inr (Or.inr rfl)) (hd : (x == ("__debug__" : Str)) = false := by decide) (hcd : (x == ("__classdict__" : Str)) = false := by decide)
    (ha : ∀ ov iv new, augStore ie ov iv new = (do holding [new, ov, iv] (setItem ov iv new); release [new, ov, iv] []; pure .next) := by intros; rfl) :
    PS X (.AugAssign (.Subscript (.Name x np) ie tpos) op e spos) (tS X.K X.mg W fx (sAugIx f i mi mv)) :=
  PS.imp (ps_augS (pe_var (i := i) hN hv hd hcd) hi get_list he ho set_list ha) fun D σ H ⟨F, en, R, h⟩ => by
    unfold sAugIx at h
    cases z : ownAt en i with
    | none => rw [z] at h; exact h.elim
    | some ds0 =>
      rw [z] at h
      obtain ⟨p, xs0, eσ, h0, _⟩ := own_addr R z
      refine ⟨.ref p, eσ, F, en, R, (opdS h).imp fun F1 H1 en1 r0 _ q w hw fw => ?_⟩
      obtain ⟨F2, r, R2, p2, n2, hw2, q⟩ := q w hw fw
      cases z1 : ownAt en1 i with
      | none => rw [z1] at q; exact q.elim
      | some ds =>
        rw [z1] at q
        obtain ⟨xs, g1, g2, rr⟩ := own_addr' R2 z1 eσ
        cases z2 : vw en1 r with
        | none => rw [z2] at q; exact q.elim
        | some dd =>
          rw [z2] at q
          have vx := hw2.vw R2 z2
          cases dd with
          | int j =>
            have vx : w = .int j := vx
            dsimp only at q
            cases z3 : ixN ds.length j with
            | none => rw [z3] at q; exact q.elim
            | some k =>
              rw [z3] at q
              dsimp only at q
              cases z4 : ds[k]? with
              | none => rw [z4] at q; exact q.elim
              | some d =>
                rw [z4] at q
                cases d with
                | int old =>
                  dsimp only at q
                  obtain ⟨ov, eo, ro⟩ := rr.get z4
                  have ro : ov = .int old := ro
                  refine ⟨p, xs, j, ov, rfl, vx, SqL.of g1, atI_of (by rw [← rr.length]; exact z3) eo, F2, en1, R2, (opdS q).imp fun F3 H3 en3 r3 _ q y hy fy => ?_⟩
                  obtain ⟨F4, r4, R4, p4, n4, hy4, q⟩ := q y hy fy
                  cases z5 : vw en3 r4 with
                  | none => rw [z5] at q; exact q.elim
                  | some dy =>
                    rw [z5] at q
                    have vy := hy4.vw R4 z5
                    cases dy with
                    | int yi =>
                      have vy : y = .int yi := vy
                      cases z6 : ownAt en3 i with
                      | none => rw [z6] at q; exact q.elim
                      | some es =>
                        rw [z6] at q
                        dsimp only at q
                        obtain ⟨ys, k1, k2, ry⟩ := own_addr' R4 z6 eσ
                        cases z7 : ixN es.length j with
                        | none => rw [z7] at q; exact q.elim
                        | some kk =>
                          rw [z7] at q
                          dsimp only at q
                          obtain ⟨R5, p5⟩ := mut_slot R4 (ownAt_some z6) eσ (Reps.set kk (show Rep X.K F4 (.int (f old yi)) (.int (f old yi)) from rfl) ry)
                          exact ⟨old, yi, ro, vy, p, ys, j, kk, rfl, vx, k1, by rw [← ry.length]; exact z7, q σ _ _ R5 p5 rfl⟩
                    | _ => exact q.elim
                | _ => exact q.elim
          | _ => exact q.elim
/-- x op= e, ints -/
def sAug (f : Int → Int → Int) (i : Nat) (m : M Res) : MS := fun en => match en[i]? with
  | some (.val (.int old)) => (eOpd m en).then fun r en1 => (match vw en1 r with
    | some (.int y) => .nx (en1.set i (.val (.int (f old y))))
    | _ => .stuck)
  | _ => .stuck
theorem rs_aug (i : Nat) {op : Operator} {f : Int → Int → Int} (hf : fx ≤ i) (ho : PIp X op (ipI f)) (hN : X.N.Nodup) (he : PE X e (tE X.K X.mg W m)) (hi : X.N[i]? = some x := by rfl) (hx : Loc X.env.scope x := by first | exact Or.inl rfl | exact Or.inr rfl) (hfn : X.fn x = true ∨ X.env.scope.names.lookup x = some .local := by first | exact .inl rfl | exact .inr rfl) :
    PS X (.AugAssign (.Name x np) op e pos) (tS X.K X.mg W fx (sAug f i m)) :=
  PS.imp (ps_aug hN hi hx he ho hfn) fun D σ H ⟨F, en, R, h⟩ => by
    unfold sAug at h
    cases z : en[i]? with
    | none => rw [z] at h; exact h.elim
    | some s =>
      cases s with
      | val d =>
        cases d with
        | int old =>
          rw [z] at h
          dsimp only at h
          have hi' : i < σ.length := by rw [← R.len]; exact (List.getElem?_eq_some_iff.mp z).1
          obtain ⟨v, ev, rv⟩ := R.ok i _ _ z (List.getElem?_eq_getElem hi')
          refine ⟨v, by rw [List.getElem?_eq_getElem hi', ev], F, en, R, (opdS h).imp fun F1 H1 en1 r0 _ q w hw fw => ?_⟩
          obtain ⟨F2, r, R2, p2, n2, hw2, q⟩ := q w hw fw
          cases z2 : vw en1 r with
          | none => rw [z2] at q; exact q.elim
          | some dd =>
            rw [z2] at q
            have vx := hw2.vw R2 z2
            cases dd with
            | int y =>
              have vx : w = .int y := vx
              obtain ⟨R3, p3⟩ := store_val (i := i) (d := .int (f old y)) (v := .int (f old y)) R2 rfl
              exact ⟨old, y, rv, vx, q _ _ _ R3 p3 (take_set hf)⟩
            | _ => exact q.elim
        | _ => rw [z] at h; exact h.elim
      | _ => rw [z] at h; exact h.elim
/-- list(script) -/
def eScr (i : Nat) : M Res := fun en => match en[i]? with
  | some (.scr ns) => .ok (.new (ns.map .int)) en
  | _ => .stuck
theorem re_scr (i : Nat) {p : Pos} (hm : X.mg "list" = none) (hN : X.N[i]? = some x := by rfl) (hv : Vis X.env.scope x := by first | exact Or.inl rfl | exact Or.inr (Or.inl rfl) | exact Or.inr (Or.inr rfl)) (hd : (x == ("__debug__" : Str)) = false := by decide) (hcd : (x == ("__classdict__" : Str)) = false := by decide) (hg : Gl X "list" := by rfl) :
    PE X (.Call (.Name "list" p) [.Name x np] [] pos) (tE X.K X.mg W (eScr i)) :=
  PE.imp (pe_callTy call_list_of hg hm PyProof.Rows.boot_list (pa_cons (pe_var (i := i) hN hv hd hcd) pa_nil)) fun σ H Q ⟨F, en, R, h⟩ => by
    unfold eScr at h
    cases z : en[i]? with
    | none => rw [z] at h; exact h.elim
    | some s =>
      cases s with
      | scr ns =>
        rw [z] at h
        have hi' : i < σ.length := by rw [← R.len]; exact (List.getElem?_eq_some_iff.mp z).1
        obtain ⟨a, ea, q⟩ := R.ok i _ _ z (List.getElem?_eq_getElem hi')
        refine ⟨.ref a, by rw [List.getElem?_eq_getElem hi', ea], a, ns.map V.int, rfl, .inl (R.sub.seq q), fun l hl => ?_⟩
        have g : Grow F H F (upd H l (.lst (ns.map V.int))) := grow_own R.sub hl
        refine h _ _ (R.grow g) g.post _ ⟨l, _, rfl, upd_same, R.sub.free hl, fun y => ?_, Reps.ints ns⟩ fun b eb => by cases eb; exact hl
        obtain ⟨_, t, _⟩ := R.own_there y
        rw [hl] at t; cases t
      | _ => rw [z] at h; exact h.elim
/-- target = value, the target of any form -/
def sAsg (m : M Res) (g : Dt → En → Option En) : MS := fun en => (eVal m en).then fun d en1 => match g d en1 with
  | some en2 => .nx en2
  | none => .stuck
theorem rs_asg {tg : Expr} {g : Dt → En → Option En} (he : PE X e (tE X.K X.mg W m)) (hg : PG X tg (tG X.K (List.take fx) g)) (hs : swapsWithSole [tg] e pos.line X.env = pure false := by rfl) (hw : swappedStores [tg] e X.env = pure none := by rfl)
    (h1 : (assignEach [tg] X.env).map (·.2) = [assign tg X.env] := by rfl) : PS X (.Assign [tg] e pos) (tS X.K X.mg W fx (sAsg m g)) :=
  PS.imp (ps_asg he hg hs hw h1) fun D σ H ⟨F, en, R, h⟩ => ⟨F, en, R, (valdS h).imp fun F1 H1 en1 r0 _ q v hv fr => by
    obtain ⟨F2, en2, d, R2, p2, hv2, q⟩ := q v hv fr
    cases z : g d en2 with
    | none => rw [z] at q; exact q.elim
    | some en3 =>
      rw [z] at q
      exact ⟨F2, en2, d, R2, hv2, en3, z, fun σ3 R3 p3 t3 => q σ3 F2 H1 R3 p3 t3⟩⟩
end
end Fw

/-! Fw9: built-in operators and functions upon data. -/
namespace Fw
open PySem PySem.Spec PyProof.Rows L2

section
variable {X : Cx} {W : WX}
theorem Grow.refl' {F H : Hp} (s : Same F H) : Grow F H F H := Grow.refl s

/-! ### + - * // % -/
def fAdd : Dt → Dt → Option Res
  | .int a, .int b => some (.dat (.int (a + b)))
  | .str x, .str y => if x.length + y.length ≤ sizeLine then some (.dat (.str (x ++ y))) else none
  | .lst xs, .lst ys => if xs.length + ys.length ≤ sizeLine then some (.new (xs ++ ys)) else none
  | .tup xs, .tup ys => if xs.length + ys.length ≤ sizeLine ∧ xs.isEmpty = false then some (.dat (.tup (xs ++ ys))) else none
  | _, _ => none
theorem prim_add : Prim2 X (binaryOp .Add) fAdd := by
  refine ⟨_, op_add.or (op_add_str.or (op_cat.or op_catT)), fun F H a b x y c Q s hx hy e q => ?_⟩
  cases a with
  | exo _ _ => cases e
  | int i =>
    cases b with
    | int j =>
      cases e
      have hx : x = .int i := hx
      have hy : y = .int j := hy
      exact .inl ⟨i, j, hx, hy, q F H _ (Grow.refl s) rfl⟩
    | _ => cases e
  | str u =>
    cases b with
    | str v =>
      have hx : x = .str (st u) := hx
      have hy : y = .str (st v) := hy
      unfold fAdd at e
      by_cases hz : u.length + v.length ≤ sizeLine
      · simp only [if_pos hz] at e
        cases e
        refine .inr (.inl ⟨_, _, hx, hy, by rw [st_len, st_len]; exact hz, ?_⟩)
        rw [st_append]
        exact q F H _ (Grow.refl s) rfl
      · simp only [if_neg hz] at e; cases e
    | _ => cases e
  | lst us =>
    cases b with
    | lst ws =>
      obtain ⟨l, xs, ex, h1, r1⟩ := hx
      obtain ⟨m, ys, ey, h2, r2⟩ := hy
      unfold fAdd at e
      by_cases hz : us.length + ws.length ≤ sizeLine
      · simp only [if_pos hz] at e
        cases e
        refine .inr (.inr (.inl ⟨l, m, xs, ys, ex, ey, h1, h2, by rw [← r1.length, ← r2.length]; exact hz, fun p np => ?_⟩))
        exact q F _ _ (grow_own s np) ⟨p, _, rfl, np, upd_same, s.free np, Reps.append r1 r2⟩
      · simp only [if_neg hz] at e; cases e
    | _ => cases e
  | tup us =>
    cases b with
    | tup ws =>
      obtain ⟨l, xs, ex, h1, r1⟩ := hx
      obtain ⟨m, ys, ey, h2, r2⟩ := hy
      unfold fAdd at e
      by_cases hz : us.length + ws.length ≤ sizeLine ∧ us.isEmpty = false
      · simp only [if_pos hz] at e
        cases e
        have l1 := r1.length
        have l2 := r2.length
        refine .inr (.inr (.inr ⟨l, m, xs, ys, ex, ey, Same.seqT s h1, Same.seqT s h2, fun z => ?_, by rw [← l1, ← l2]; exact hz.1, fun z => ?_, fun z p np => ?_⟩))
        · subst z; cases us <;> simp_all
        · subst z
          have : ws = [] := by cases ws <;> simp_all
          subst this
          rw [List.append_nil] at q
          exact q F H _ (Grow.refl s) ⟨l, xs, rfl, h1, r1⟩
        · have g : Grow F H (upd F p (.tup (xs ++ ys))) (upd H p (.tup (xs ++ ys))) := grow_frz s np
          exact q _ _ _ g ⟨p, _, rfl, .inl (.inl upd_same), Reps.mono g.sub _ _ (Reps.append r1 r2)⟩
      · simp only [if_neg hz] at e; cases e
    | _ => cases e
  | non => cases e
  | bl _ => cases e
def fSub : Dt → Dt → Option Res
  | .int a, .int b => some (.dat (.int (a - b)))
  | _, _ => none
theorem prim_int2 {op : Value → Value → Sem Value} {C : Int → Int → Prop} {g : Int → Int → Int} {f : Dt → Dt → Option Res} (ho : OpR X op (rI C fun i j => .int (g i j)))
    (hf : ∀ a b c, f a b = some c → ∃ i j, a = .int i ∧ b = .int j ∧ C i j ∧ c = .dat (.int (g i j))) : Prim2 X op f :=
  ⟨_, ho, fun F H a b x y c Q s hx hy e q => by
    obtain ⟨i, j, rfl, rfl, hc, rfl⟩ := hf a b c e
    exact ⟨i, j, hx, hy, hc, q F H _ (Grow.refl s) rfl⟩⟩
theorem opI0C {f : Value → Value → Sem Value} {g : Int → Int → V} (h : OpR X f (rI0 g)) : OpR X f (rI (fun _ _ => True) g) := fun pins s σ H x y v u Q I rx ry ⟨i, j, e1, e2, _, q⟩ => h pins s σ H x y v u Q I rx ry ⟨i, j, e1, e2, q⟩
theorem prim_sub : Prim2 X (binaryOp .Sub) fSub := prim_int2 (opI0C op_sub) fun a b c e => by
  cases a with
  | int i => cases b with
    | int j => cases e; exact ⟨i, j, rfl, rfl, trivial, rfl⟩
    | _ => cases e
  | _ => cases e
def mulOk (i j : Int) : Prop := i.natAbs < 18446744073709551616 ∨ j.natAbs < 18446744073709551616 ∨ CMulW i j
instance (i j : Int) : Decidable (mulOk i j) := by unfold mulOk CMulW; infer_instance
theorem mulOk.fits {i j : Int} (h : mulOk i j) : IntMulOk i j := by
  rcases h with h | h | h
  · exact CMul.ok (.inl (by omega))
  · exact CMul.ok (.inr (by omega))
  · exact h.ok
def fMul : Dt → Dt → Option Res
  | .int a, .int b => if mulOk a b then some (.dat (.int (a * b))) else none
  | .lst xs, .int k => if inB62 k ∧ xs.length * k.toNat ≤ sizeLine then some (.new (List.replicate k.toNat xs).flatten) else none
  | _, _ => none
theorem Reps.rep {K : PySem.W.Frag} {F : Hp} {ds : List Dt} {xs : List V} (h : Reps K F ds xs) : ∀ k : Nat, Reps K F (List.replicate k ds).flatten (List.replicate k xs).flatten
  | 0 => rfl
  | k + 1 => by
    rw [List.replicate_succ, List.replicate_succ, List.flatten_cons, List.flatten_cons]
    exact Reps.append h (Reps.rep h k)
theorem prim_mul : Prim2 X (binaryOp .Mult) fMul := by
  have o1 : OpR X (binaryOp .Mult) (rI mulOk fun i j => .int (i * j)) := opI fun _ _ _ _ _ _ _ hc q => mul_int q hc.fits
  refine ⟨_, o1.or op_rep, fun F H a b x y c Q s hx hy e q => ?_⟩
  cases a with
  | int i =>
    cases b with
    | int j =>
      unfold fMul at e
      by_cases hz : mulOk i j
      · simp only [if_pos hz] at e
        cases e
        exact .inl ⟨i, j, hx, hy, hz, q F H _ (Grow.refl s) rfl⟩
      · simp only [if_neg hz] at e; cases e
    | _ => cases e
  | lst us =>
    cases b with
    | int k =>
      obtain ⟨l, xs, ex, h1, r1⟩ := hx
      have hy : y = .int k := hy
      unfold fMul at e
      by_cases hz : inB62 k ∧ us.length * k.toNat ≤ sizeLine
      · simp only [if_pos hz] at e
        cases e
        have b1 := hz.1.1
        have b2 := hz.1.2
        refine .inr ⟨l, k, xs, ex, hy, h1, by omega, by omega, by rw [← r1.length]; exact hz.2, fun p np => ?_⟩
        exact q F _ _ (grow_own s np) ⟨p, _, rfl, np, upd_same, s.free np, Reps.rep r1 _⟩
      · simp only [if_neg hz] at e; cases e
    | _ => cases e
  | _ => cases e
def fMod : Dt → Dt → Option Res
  | .int a, .int b => if 0 < b then some (.dat (.int (a % b))) else none
  | _, _ => none
theorem prim_mod : Prim2 X (binaryOp .Mod) fMod := prim_int2 op_mod fun a b c e => by
  cases a with
  | int i => cases b with
    | int j =>
      unfold fMod at e
      by_cases hz : (0 : Int) < j
      · simp only [if_pos hz] at e; cases e; exact ⟨i, j, rfl, rfl, hz, rfl⟩
      · simp only [if_neg hz] at e; cases e
    | _ => cases e
  | _ => cases e
def divOk (j : Int) : Prop := CDivN j j ∨ CDivW j j
instance (j : Int) : Decidable (divOk j) := by unfold divOk CDivN CDivW; infer_instance
/-- // by a small one of any sign, or a great one above 0 -/
def fDiv : Dt → Dt → Option Res
  | .int a, .int b => if divOk b then some (.dat (.int (a.fdiv b))) else none
  | _, _ => none
theorem prim_div : Prim2 X (binaryOp .FloorDiv) fDiv := by
  have o1 : OpR X (binaryOp .FloorDiv) (rI (fun _ j => divOk j) fun i j => .int (i.fdiv j)) := opI fun i j _ _ _ _ _ hc q => by
    rcases hc with hc | hc
    · exact floordiv_int hc.1 q (.inl (PyProof.noPylong_small hc.2))
    · have h1 : (0 : Int) < j := hc.1
      exact floordiv_int (by omega) q (.inl (PyProof.noPylong_of_log2 hc.2))
  exact prim_int2 o1 fun a b c e => by
    cases a with
    | int i => cases b with
      | int j =>
        unfold fDiv at e
        by_cases hz : divOk j
        · simp only [if_pos hz] at e; cases e; exact ⟨i, j, rfl, rfl, hz, rfl⟩
        · simp only [if_neg hz] at e; cases e
      | _ => cases e
    | _ => cases e
/-- i ** j of small ones -/
def fPow : Dt → Dt → Option Res
  | .int a, .int b => if 0 ≤ b ∧ b ≤ 1000000 ∧ a.natAbs < 18446744073709551616 then some (.dat (.int (a ^ b.toNat))) else none
  | _, _ => none
theorem prim_pow : Prim2 X (binaryOp .Pow) fPow := prim_int2 op_pow fun a b c e => by
  cases a with
  | int i => cases b with
    | int j =>
      unfold fPow at e
      by_cases hz : 0 ≤ j ∧ j ≤ 1000000 ∧ i.natAbs < 18446744073709551616
      · simp only [if_pos hz] at e; cases e; exact ⟨i, j, rfl, rfl, ⟨hz.1, hz.2.1, hz.2.2⟩, rfl⟩
      · simp only [if_neg hz] at e; cases e
    | _ => cases e
  | _ => cases e
def fNeg : Dt → Option Res
  | .int a => some (.dat (.int (-a)))
  | _ => none
theorem prim_neg : Prim1 X (unaryOp .USub) fNeg := ⟨_, un_neg, fun F H a x c Q s hx e q => by
  cases a with
  | int i => cases e; exact ⟨i, hx, q F H _ (Grow.refl s) rfl⟩
  | _ => cases e⟩

/-! ### comparisons -/
mutual
def py : Dt → PyData
  | .non => .none
  | .bl b => .bool b
  | .int i => .int i
  | .str x => .str (st x)
  | .tup ds => .tuple (pys ds)
  | .lst ds => .list (pys ds)
  | .exo _ _ => .none
def pys : List Dt → List PyData
  | [] => []
  | d :: ds => py d :: pys ds
end
mutual
/-- no exception in it -/
def dpl : Dt → Bool
  | .tup ds => dpls ds
  | .lst ds => dpls ds
  | .exo _ _ => false
  | _ => true
def dpls : List Dt → Bool
  | [] => true
  | d :: ds => dpl d && dpls ds
end
def isX : Dt → Bool
  | .exo _ _ => true
  | _ => false
mutual
theorem rep_dp {K : PySem.W.Frag} {F H : Hp} (s : Same F H) : ∀ (d : Dt) (v : V), dpl d = true → Rep K F d v → Dp K H v (py d)
  | .non, v, _, h => by cases (show v = .non from h); exact .non
  | .bl b, v, _, h => by cases (show v = .bl b from h); exact .bl b
  | .int i, v, _, h => by cases (show v = .int i from h); exact .int i
  | .str x, v, _, h => by cases (show v = .str (st x) from h); exact .str _
  | .tup ds, v, hd, ⟨a, xs, e, q, r⟩ => by subst e; exact .tup (Same.seqT s q) (reps_dp s ds xs hd r)
  | .lst ds, v, hd, ⟨a, xs, e, q, r⟩ => by subst e; exact .lst (SqL.of (s _ _ q)) (reps_dp s ds xs hd r)
  | .exo _ _, v, hd, _ => by cases hd
theorem reps_dp {K : PySem.W.Frag} {F H : Hp} (s : Same F H) : ∀ (ds : List Dt) (xs : List V), dpls ds = true → Reps K F ds xs → DpAll K H xs (pys ds)
  | [], xs, _, h => by cases (show xs = [] from h); exact .nil
  | d :: ds, xs, hd, ⟨v, r, e, q, t⟩ => by subst e; exact .cons (rep_dp s d v (Bool.and_eq_true_iff.mp hd).1 q) (reps_dp s ds r (Bool.and_eq_true_iff.mp hd).2 t)
end
theorem vw_dp {K : PySem.W.Frag} {F H : Hp} (s : Same F H) {d : Dt} {v : V} (hd : dpl d = true) (h : Vw K F H d v) : Dp K H v (py d) := by
  cases d with
  | lst ds => obtain ⟨a, xs, e, q, r⟩ := h; subst e; exact .lst (SqL.of q) (reps_dp s ds xs hd r)
  | non => exact rep_dp s _ _ rfl h
  | bl _ => exact rep_dp s _ _ rfl h
  | int _ => exact rep_dp s _ _ rfl h
  | str _ => exact rep_dp s _ _ rfl h
  | tup _ => exact rep_dp s _ _ hd h
  | exo _ _ => cases hd
def shp (a b : Dt) : Bool := (dpl a && dpl b) && (SeqAt.shaped (py a) && SeqAt.shaped (py b))
def fEq (a b : Dt) : Option Res := if shp a b = true then some (.dat (.bl (PyData.eqv (py a) (py b)))) else none
def fNe (a b : Dt) : Option Res := if shp a b = true then some (.dat (.bl (!PyData.eqv (py a) (py b)))) else none
theorem prim_eq {k : Nat} (hr : Room k X.A) : Prim2 X (compareOp .Eq) fEq := ⟨_, op_eqD hr.units, fun F H a b x y c Q s hx hy e q => by
  unfold fEq at e
  by_cases hz : shp a b = true
  · rw [if_pos hz] at e; cases e
    obtain ⟨hd, hz⟩ := Bool.and_eq_true_iff.mp hz
    have hz := Bool.and_eq_true_iff.mp hz
    have hd := Bool.and_eq_true_iff.mp hd
    exact ⟨_, _, vw_dp s hd.1 hx, vw_dp s hd.2 hy, hz.1, hz.2, q F H _ (Grow.refl s) rfl⟩
  · rw [if_neg hz] at e; cases e⟩
theorem prim_ne {k : Nat} (hr : Room k X.A) : Prim2 X (compareOp .NotEq) fNe := ⟨_, op_neD hr.units, fun F H a b x y c Q s hx hy e q => by
  unfold fNe at e
  by_cases hz : shp a b = true
  · rw [if_pos hz] at e; cases e
    obtain ⟨hd, hz⟩ := Bool.and_eq_true_iff.mp hz
    have hz := Bool.and_eq_true_iff.mp hz
    have hd := Bool.and_eq_true_iff.mp hd
    exact ⟨_, _, vw_dp s hd.1 hx, vw_dp s hd.2 hy, hz.1, hz.2, q F H _ (Grow.refl s) rfl⟩
  · rw [if_neg hz] at e; cases e⟩
def fCmpI (p : Int → Int → Bool) : Dt → Dt → Option Res
  | .int a, .int b => some (.dat (.bl (p a b)))
  | _, _ => none
theorem prim_cmpI {op : Value → Value → Sem Value} {p : Int → Int → Bool} (ho : OpR X op (rI0 fun i j => .bl (p i j))) : Prim2 X op (fCmpI p) := ⟨_, ho, fun F H a b x y c Q s hx hy e q => by
  cases a with
  | int i => cases b with
    | int j => cases e; exact ⟨i, j, hx, hy, q F H _ (Grow.refl s) rfl⟩
    | _ => cases e
  | _ => cases e⟩
abbrev fLt := fCmpI fun i j => decide (i < j)
abbrev fLe := fCmpI fun i j => decide (i ≤ j)
abbrev fGt := fCmpI fun i j => decide (j < i)
abbrev fGe := fCmpI fun i j => decide (j ≤ i)
theorem prim_lt : Prim2 X (compareOp .Lt) fLt := prim_cmpI op_lt
theorem prim_le : Prim2 X (compareOp .LtE) fLe := prim_cmpI op_le
theorem prim_gt : Prim2 X (compareOp .Gt) fGt := prim_cmpI op_gt
theorem prim_ge : Prim2 X (compareOp .GtE) fGe := prim_cmpI op_ge
/-- is None -/
def isNon : Dt → Bool
  | .non => true
  | _ => false
def fIsN (a : Dt) : Dt → Option Res
  | .non => some (.dat (.bl (isNon a)))
  | _ => none
def fNotN (a : Dt) : Dt → Option Res
  | .non => some (.dat (.bl (!isNon a)))
  | _ => none
theorem vw_non {K : PySem.W.Frag} {F H : Hp} {d : Dt} {v : V} (h : Vw K F H d v) : decide (v = .non) = isNon d := by
  cases d with
  | non => cases (show v = .non from h); rfl
  | bl b => cases (show v = .bl b from h); rfl
  | int b => cases (show v = .int b from h); rfl
  | str b => cases (show v = .str _ from h); rfl
  | tup ds => obtain ⟨a, xs, e, _⟩ := h; subst e; rfl
  | lst ds => obtain ⟨a, xs, e, _⟩ := h; subst e; rfl
  | exo c d => obtain ⟨a, _, _, _, e, _⟩ := h; subst e; rfl
theorem prim_isN : Prim2 X (compareOp .Is) fIsN := ⟨_, op_isN, fun F H a b x y c Q s hx hy e q => by
  cases b with
  | non => cases e; refine ⟨hy, ?_⟩; rw [vw_non hx]; exact q F H _ (Grow.refl s) rfl
  | _ => cases e⟩
theorem prim_notN : Prim2 X (compareOp .IsNot) fNotN := ⟨_, op_notN, fun F H a b x y c Q s hx hy e q => by
  cases b with
  | non =>
    cases e
    refine ⟨hy, ?_⟩
    rw [vw_non hx]
    exact q F H _ (Grow.refl s) rfl
  | _ => cases e⟩

/-! ### subscripts -/
def fIx : Dt → Dt → Option Res
  | .lst ds, .int i => (atI ds i).map .dat
  | .tup ds, .int i => (atI ds i).map .dat
  | .str x, .int i => if x.length ≤ sizeLine then (atI x i).map fun c => .dat (.str [c]) else none
  | _, _ => none
theorem Reps.atI {K : PySem.W.Frag} {F : Hp} {ds : List Dt} {xs : List V} {i : Int} {d : Dt} (r : Reps K F ds xs) (h : L2.atI ds i = some d) : ∃ v, L2.atI xs i = some v ∧ Rep K F d v := by
  unfold L2.atI at h ⊢
  rw [← r.length]
  cases e : ixN ds.length i with
  | none => rw [e] at h; cases h
  | some k => rw [e] at h; exact r.get h
theorem prim_ix : PrimIx X fIx := ⟨_, ix_seq, fun F H a b x y c Q s hx hy e q => by
  cases b with
  | int i =>
    have hy : y = .int i := hy
    cases a with
    | exo _ _ => cases e
    | lst ds =>
      obtain ⟨p, xs, ex, h1, r⟩ := hx
      unfold fIx at e
      cases z : atI ds i with
      | none => simp only [z] at e; cases e
      | some d =>
        simp only [z] at e; cases e
        obtain ⟨v, ev, rv⟩ := r.atI z
        exact .inl ⟨p, xs, i, v, ex, hy, SqL.of h1, ev, q F H _ (Grow.refl s) rv⟩
    | tup ds =>
      obtain ⟨p, xs, ex, h1, r⟩ := hx
      unfold fIx at e
      cases z : atI ds i with
      | none => simp only [z] at e; cases e
      | some d =>
        simp only [z] at e; cases e
        obtain ⟨v, ev, rv⟩ := r.atI z
        exact .inr (.inl ⟨p, xs, i, v, ex, hy, Same.seqT s h1, ev, q F H _ (Grow.refl s) rv⟩)
    | str u =>
      have hx : x = .str (st u) := hx
      unfold fIx at e
      by_cases hz : u.length ≤ sizeLine
      · simp only [if_pos hz] at e
        cases z : atI u i with
        | none => simp only [z] at e; cases e
        | some d =>
          simp only [z] at e; cases e
          exact .inr (.inr ⟨st u, i, d, hx, hy, by rw [st_len]; exact hz, by rw [st_toList]; exact z, q F H _ (Grow.refl s) rfl⟩)
      · simp only [if_neg hz] at e; cases e
    | non => cases e
    | bl _ => cases e
    | int _ => cases e
  | _ => cases a <;> cases e⟩

/-! ### built-in functions -/
def asInts : List Dt → Option (List Int)
  | [] => some []
  | .int i :: ds => (asInts ds).map (i :: ·)
  | _ => none
def asBls : List Dt → Option (List Bool)
  | [] => some []
  | .bl b :: ds => (asBls ds).map (b :: ·)
  | _ => none
def asStrs : List Dt → Option (List Wd)
  | [] => some []
  | .str x :: ds => (asStrs ds).map (x :: ·)
  | _ => none
theorem asInts_of : ∀ {ds : List Dt} {ns : List Int}, asInts ds = some ns → ds = ns.map .int
  | [], ns, h => by cases h; rfl
  | .int i :: ds, ns, h => by
    unfold asInts at h
    cases e : asInts ds with
    | none => rw [e] at h; cases h
    | some ms => rw [e] at h; cases h; rw [List.map_cons, ← asInts_of e]
  | .non :: _, _, h => by cases h
  | .bl _ :: _, _, h => by cases h
  | .str _ :: _, _, h => by cases h
  | .tup _ :: _, _, h => by cases h
  | .lst _ :: _, _, h => by cases h
  | .exo _ _ :: _, _, h => by cases h
theorem asBls_of : ∀ {ds : List Dt} {ns : List Bool}, asBls ds = some ns → ds = ns.map .bl
  | [], ns, h => by cases h; rfl
  | .bl i :: ds, ns, h => by
    unfold asBls at h
    cases e : asBls ds with
    | none => rw [e] at h; cases h
    | some ms => rw [e] at h; cases h; rw [List.map_cons, ← asBls_of e]
  | .non :: _, _, h => by cases h
  | .int _ :: _, _, h => by cases h
  | .str _ :: _, _, h => by cases h
  | .tup _ :: _, _, h => by cases h
  | .lst _ :: _, _, h => by cases h
  | .exo _ _ :: _, _, h => by cases h
theorem asStrs_of : ∀ {ds : List Dt} {ns : List Wd}, asStrs ds = some ns → ds = ns.map .str
  | [], ns, h => by cases h; rfl
  | .str i :: ds, ns, h => by
    unfold asStrs at h
    cases e : asStrs ds with
    | none => rw [e] at h; cases h
    | some ms => rw [e] at h; cases h; rw [List.map_cons, ← asStrs_of e]
  | .non :: _, _, h => by cases h
  | .int _ :: _, _, h => by cases h
  | .bl _ :: _, _, h => by cases h
  | .tup _ :: _, _, h => by cases h
  | .lst _ :: _, _, h => by cases h
  | .exo _ _ :: _, _, h => by cases h
theorem asInts_map : ∀ ns : List Int, asInts (ns.map .int) = some ns
  | [] => rfl
  | n :: ns => by rw [List.map_cons]; unfold asInts; rw [asInts_map ns]; rfl
theorem asBls_map : ∀ ns : List Bool, asBls (ns.map .bl) = some ns
  | [] => rfl
  | n :: ns => by rw [List.map_cons]; unfold asBls; rw [asBls_map ns]; rfl
theorem asStrs_map : ∀ ns : List Wd, asStrs (ns.map .str) = some ns
  | [] => rfl
  | n :: ns => by rw [List.map_cons]; unfold asStrs; rw [asStrs_map ns]; rfl
section
variable {K : PySem.W.Frag} {F : Hp}
theorem reps_ints : ∀ {ns : List Int} {xs : List V}, Reps K F (ns.map .int) xs → xs = ns.map V.int
  | [], xs, h => h
  | n :: ns, xs, ⟨v, r, e, q, t⟩ => by rw [e, List.map_cons, ← reps_ints t, show v = .int n from q]
theorem reps_bls : ∀ {ns : List Bool} {xs : List V}, Reps K F (ns.map .bl) xs → xs = ns.map V.bl
  | [], xs, h => h
  | n :: ns, xs, ⟨v, r, e, q, t⟩ => by rw [e, List.map_cons, ← reps_bls t, show v = .bl n from q]
theorem reps_strs : ∀ {ns : List Wd} {xs : List V}, Reps K F (ns.map .str) xs → xs = (ns.map st).map V.str
  | [], xs, h => h
  | n :: ns, xs, ⟨v, r, e, q, t⟩ => by rw [e, List.map_cons, List.map_cons, ← reps_strs t, show v = .str (st n) from q]
theorem strs_reps : ∀ (ns : List Wd), Reps K F (ns.map .str) ((ns.map st).map V.str)
  | [] => rfl
  | n :: ns => ⟨_, _, rfl, rfl, strs_reps ns⟩
end
def fLen : List Dt → Option Res
  | [.lst ds] => some (.dat (.int ds.length))
  | [.tup ds] => some (.dat (.int ds.length))
  | [.str x] => if x.length ≤ sizeLine then some (.dat (.int x.length)) else none
  | _ => none
abbrev PrimN (X : Cx) (f : Value) (g : List Dt → Option Res) : Prop := PrimNR X (CallR X f) g
theorem vwAll1 {K : PySem.W.Frag} {F H : Hp} {d : Dt} {vs : List V} (h : VwAll K F H [d] vs) : ∃ v, vs = [v] ∧ Vw K F H d v := by
  obtain ⟨v, t, e, q, r⟩ := h
  cases (show t = [] from r)
  exact ⟨v, e, q⟩
theorem vwAll2 {K : PySem.W.Frag} {F H : Hp} {d d2 : Dt} {vs : List V} (h : VwAll K F H [d, d2] vs) : ∃ v v2, vs = [v, v2] ∧ Vw K F H d v ∧ Vw K F H d2 v2 := by
  obtain ⟨v, t, e, q, r⟩ := h
  obtain ⟨v2, rfl, q2⟩ := vwAll1 r
  exact ⟨v, v2, e, q, q2⟩
theorem fLen_inv {ds : List Dt} {c : Res} (h : fLen ds = some c) : (∃ es, ds = [.lst es] ∧ c = .dat (.int es.length)) ∨ (∃ es, ds = [.tup es] ∧ c = .dat (.int es.length)) ∨ (∃ x : Wd, ds = [.str x] ∧ x.length ≤ sizeLine ∧ c = .dat (.int x.length)) := by
  unfold fLen at h
  split at h
  · cases h; exact .inl ⟨_, rfl, rfl⟩
  · cases h; exact .inr (.inl ⟨_, rfl, rfl⟩)
  · split at h
    · rename_i hz; cases h; exact .inr (.inr ⟨_, rfl, hz, rfl⟩)
    · cases h
  · cases h
theorem prim_len : PrimN X (.builtin "len") fLen := ⟨_, call_len_seq.or call_len_str, fun F H ds vs c Q s h e q => by
  rcases fLen_inv e with ⟨es, rfl, rfl⟩ | ⟨es, rfl, rfl⟩ | ⟨x, rfl, hz, rfl⟩
  · obtain ⟨v, rfl, p, xs, ev, h1, r⟩ := vwAll1 h
    exact .inl ⟨p, xs, by rw [ev], .inl (SqL.of h1), by rw [← r.length]; exact q F H _ (Grow.refl s) rfl⟩
  · obtain ⟨v, rfl, p, xs, ev, h1, r⟩ := vwAll1 h
    exact .inl ⟨p, xs, by rw [ev], .inr (Same.seqT s h1), by rw [← r.length]; exact q F H _ (Grow.refl s) rfl⟩
  · obtain ⟨v, rfl, ev⟩ := vwAll1 h
    have ev : v = .str (st x) := ev
    exact .inr ⟨st x, by rw [ev], by rw [st_len]; exact hz, by rw [st_len]; exact q F H _ (Grow.refl s) rfl⟩⟩
def fSum : List Dt → Option Res
  | [.lst ds] => (asInts ds).map fun ns => .dat (.int ns.sum)
  | _ => none
def fBls (g : List Bool → Bool) : List Dt → Option Res
  | [.lst ds] => (asBls ds).map fun bs => .dat (.bl (g bs))
  | _ => none
theorem prim_bls {f : Value} {g : List Bool → Bool} (ho : CallR X f (fun vs H Q => ∃ (a : Addr) (bs : List Bool), vs = [V.ref a] ∧ SqL X.K H a (bs.map V.bl) ∧ Q (.bl (g bs)) H)) : PrimN X f (fBls g) := ⟨_, ho, fun F H ds vs c Q s h e q => by
  unfold fBls at e
  split at e
  · rename_i ds
    obtain ⟨v, rfl, p, xs, ev, h1, r⟩ := vwAll1 h
    obtain ⟨bs, z, rfl⟩ := Option.map_eq_some_iff.mp e
    rw [asBls_of z] at r
    rw [reps_bls r] at h1
    exact ⟨p, bs, by rw [ev], SqL.of h1, q F H _ (Grow.refl s) rfl⟩
  · cases e⟩
abbrev fAll := fBls fun bs => bs.all id
abbrev fAny := fBls fun bs => bs.any id
theorem prim_all (hc : X.calm = true) : PrimN X (.builtin "all") fAll := prim_bls (cr_all hc)
theorem prim_any (hc : X.calm = true) : PrimN X (.builtin "any") fAny := prim_bls (cr_any hc)
theorem prim_sum (hc : X.calm = true) : PrimN X (.builtin "sum") fSum := ⟨_, cr_sum hc, fun F H ds vs c Q s h e q => by
  unfold fSum at e
  split at e
  · obtain ⟨v, rfl, p, xs, ev, h1, r⟩ := vwAll1 h
    obtain ⟨bs, z, rfl⟩ := Option.map_eq_some_iff.mp e
    rw [asInts_of z] at r
    rw [reps_ints r] at h1
    exact ⟨p, bs, by rw [ev], SqL.of h1, q F H _ (Grow.refl s) rfl⟩
  · cases e⟩
def fMin2 : List Dt → Option Res
  | [.int i, .int j] => some (.dat (.int (if j < i then j else i)))
  | _ => none
def fMax2 : List Dt → Option Res
  | [.int i, .int j] => some (.dat (.int (if j > i then j else i)))
  | _ => none
theorem prim_min2 (hc : X.calm = true) : PrimN X (.builtin "min") fMin2 := ⟨_, call_min2 hc, fun F H ds vs c Q s h e q => by
  unfold fMin2 at e
  split at e
  · rename_i i j
    obtain ⟨v, v2, rfl, e1, e2⟩ := vwAll2 h
    cases e
    exact ⟨i, j, by rw [show v = .int i from e1, show v2 = .int j from e2], q F H _ (Grow.refl s) rfl⟩
  · cases e⟩
theorem prim_max2 (hc : X.calm = true) : PrimN X (.builtin "max") fMax2 := ⟨_, call_max2 hc, fun F H ds vs c Q s h e q => by
  unfold fMax2 at e
  split at e
  · rename_i i j
    obtain ⟨v, v2, rfl, e1, e2⟩ := vwAll2 h
    cases e
    exact ⟨i, j, by rw [show v = .int i from e1, show v2 = .int j from e2], q F H _ (Grow.refl s) rfl⟩
  · cases e⟩
def fAbs : List Dt → Option Res
  | [.int i] => some (.dat (.int (if i < 0 then -i else i)))
  | _ => none
theorem prim_abs : PrimN X (.builtin "abs") fAbs := ⟨_, call_abs, fun F H ds vs c Q s h e q => by
  unfold fAbs at e
  split at e
  · rename_i i
    obtain ⟨v, rfl, e1⟩ := vwAll1 h
    cases e
    exact ⟨i, by rw [show v = .int i from e1], q F H _ (Grow.refl s) rfl⟩
  · cases e⟩
def fInt : List Dt → Option Res
  | [.int i] => some (.dat (.int i))
  | [.bl b] => some (.dat (.int (if b then 1 else 0)))
  | _ => none
theorem prim_int : PrimN X (.type "int") fInt := ⟨_, call_int1, fun F H ds vs c Q s h e q => by
  unfold fInt at e
  split at e
  · rename_i i
    obtain ⟨v, rfl, e1⟩ := vwAll1 h
    cases e
    exact .inl ⟨i, by rw [show v = .int i from e1], q F H _ (Grow.refl s) rfl⟩
  · rename_i i
    obtain ⟨v, rfl, e1⟩ := vwAll1 h
    cases e
    exact .inr ⟨i, by rw [show v = .bl i from e1], q F H _ (Grow.refl s) rfl⟩
  · cases e⟩
def fList : List Dt → Option Res
  | [.lst ds] => some (.new ds)
  | [.tup ds] => some (.new ds)
  | _ => none
theorem prim_list : PrimN X (.type "list") fList := ⟨_, call_list_of, fun F H ds vs c Q s h e q => by
  unfold fList at e
  split at e
  · obtain ⟨v, rfl, p, xs, ev, h1, r⟩ := vwAll1 h
    cases e
    exact ⟨p, xs, by rw [ev], .inl (SqL.of h1), fun l nl => q F _ _ (grow_own s nl) ⟨l, _, rfl, nl, upd_same, s.free nl, r⟩⟩
  · obtain ⟨v, rfl, p, xs, ev, h1, r⟩ := vwAll1 h
    cases e
    exact ⟨p, xs, by rw [ev], .inr (Same.seqT s h1), fun l nl => q F _ _ (grow_own s nl) ⟨l, _, rfl, nl, upd_same, s.free nl, r⟩⟩
  · cases e⟩
def fTuple : List Dt → Option Res
  | [.lst ds] => some (.dat (.tup ds))
  | [.tup ds] => some (.dat (.tup ds))
  | _ => none
theorem prim_tuple : PrimN X (.type "tuple") fTuple := ⟨_, call_tuple_of, fun F H ds vs c Q s h e q => by
  unfold fTuple at e
  split at e
  · obtain ⟨v, rfl, p, xs, ev, h1, r⟩ := vwAll1 h
    cases e
    refine ⟨p, xs, by rw [ev], .inl ⟨SqL.of h1, fun l nl => ?_⟩⟩
    have g : Grow F H (upd F l (.tup xs)) (upd H l (.tup xs)) := grow_frz s nl
    exact q _ _ _ g ⟨l, _, rfl, .inl (.inl upd_same), Reps.mono g.sub _ _ r⟩
  · obtain ⟨v, rfl, p, xs, ev, h1, r⟩ := vwAll1 h
    cases e
    exact ⟨p, xs, by rw [ev], .inr ⟨Same.seqT s h1, q F H _ (Grow.refl s) ⟨p, xs, rfl, h1, r⟩⟩⟩
  · cases e⟩

variable {e : Expr} {es : List Expr} {pos p : Pos} {x : Str} {id T : String} {ms : M (List Res)} {f : List Dt → Option Res}
theorem cb_core {r : List V → Hp → VK → Prop} (hf : ∀ F H (ds : List Dt) (vs : List V) (c : Res) (Q : VK), Same F H → VwAll X.K F H ds vs → f ds = some c → (∀ F' H' v, Grow F H F' H' → PrOk X.K H F' H' v c → Q v H') → r vs H Q)
    {σ : St} {H : Hp} {Q : VK} (h : tE X.K X.mg W (eCB f ms) σ H Q) : tCB r (tOs X.K X.mg W ms) σ H Q := by
  obtain ⟨F, en, R, h⟩ := h
  refine ⟨F, en, R, (OutOk.ofBind h).imp fun F1 H1 en1 rs _ ⟨R1, p1, q⟩ vs hvs => ?_⟩
  obtain ⟨c, ec, fin⟩ := lift_ok p1.there R1 (q.bind p1)
  cases z : vws en1 rs with
  | none => rw [z] at ec; cases ec
  | some ds =>
    rw [z] at ec
    exact hf F1 H1 ds vs c Q R1.sub (rsOk_vws R1 hvs z) ec fin
theorem re_cb (hp : PrimN X (.builtin id) f) (hm : X.mg x = none) (hv : bootBuiltins x = some (.builtin id)) (ha : PA X (e :: es) (tOs X.K X.mg W ms)) (hg : Gl X x := by rfl) (hn : x ≠ "__name__" := by decide) (hdb : (x == ("__debug__" : Str)) = false := by decide)
    (he : starEach (e :: es) X.env = (false, eval e X.env) :: starEach es X.env := by rfl) (hpl : (backTo pos (starEach es X.env)).any (·.1) = false := by rfl) : PE X (.Call (.Name x p) (e :: es) [] pos) (tE X.K X.mg W (eCB f ms)) := by
  obtain ⟨r, hr, hf⟩ := hp
  exact PE.imp (pe_callB hr hg hm hv ha hn hdb he hpl) fun σ H Q h => cb_core hf h
theorem re_ct (hp : PrimN X (.type T) f) (hm : X.mg x = none) (hv : bootBuiltins x = some (.type T)) (ha : PA X (e :: es) (tOs X.K X.mg W ms)) (hg : Gl X x := by rfl) (hn : x ≠ "__name__" := by decide) (hdb : (x == ("__debug__" : Str)) = false := by decide)
    (he : starEach (e :: es) X.env = (false, eval e X.env) :: starEach es X.env := by rfl) (hpl : (backTo pos (starEach es X.env)).any (·.1) = false := by rfl) : PE X (.Call (.Name x p) (e :: es) [] pos) (tE X.K X.mg W (eCB f ms)) := by
  obtain ⟨r, hr, hf⟩ := hp
  exact PE.imp (pe_callTy hr hg hm hv ha hn hdb he hpl) fun σ H Q h => cb_core hf h
end
end Fw

/-! Fw10: chains of comparisons, isinstance, texts, slices, several names at once. -/
namespace Fw
open PySem PySem.Spec PyProof.Rows L2

section
variable {X : Cx} {W : WX} {fx : Nat} {e a b c : Expr} {m ma mb mc : M Res} {pos p : Pos} {x : Str}

/-! ### a op b op' c -/
def eChain (f g : Dt → Dt → Option Res) (ma mb mc : M Res) : M Res := fun en => (eOpd ma en).bind fun ra en1 => (eOpd mb en1).bind fun rb en2 => match (vw en2 ra).bind fun a => (vw en2 rb).bind fun b => f a b with
  | some (.dat (.bl k)) => if k = true then (eOpd mc en2).bind fun rc en3 => lift en3 ((vw en3 rb).bind fun b => (vw en3 rc).bind fun c => g b c) else .ok (.dat (.bl false)) en2
  | _ => .stuck
theorem chain_core {f g : Dt → Dt → Option Res} {r r' : R2}
    (hf : ∀ F H (a b : Dt) (x y : V) (c : Res) (Q : VK), Same F H → Vw X.K F H a x → Vw X.K F H b y → f a b = some c → (∀ F' H' v, Grow F H F' H' → PrOk X.K H F' H' v c → Q v H') → r x y H Q)
    (hg : ∀ F H (a b : Dt) (x y : V) (c : Res) (Q : VK), Same F H → Vw X.K F H a x → Vw X.K F H b y → g a b = some c → (∀ F' H' v, Grow F H F' H' → PrOk X.K H F' H' v c → Q v H') → r' x y H Q)
    {σ : St} {H : Hp} {Q : VK} (h : tE X.K X.mg W (eChain f g ma mb mc) σ H Q) : tChain r r' (tE X.K X.mg W ma) (tE X.K X.mg W mb) (tE X.K X.mg W mc) σ H Q := by
  obtain ⟨F, en, R, h⟩ := h
  refine ⟨F, en, R, (opd h).imp fun F1 H1 en1 r0 _ q x hx fx => ?_⟩
  obtain ⟨F2, ra, R2, p2, n2, hx2, q⟩ := q x hx fx
  refine ⟨F2, en1, R2, (opd q).imp fun F3 H3 en3 r3 _ q y hy fy => ?_⟩
  obtain ⟨F4, rb, R4, p4, n4, hy4, q⟩ := q y hy fy
  cases e1 : vw en3 ra with
  | none => rw [e1] at q; exact q.elim
  | some da =>
    cases e2 : vw en3 rb with
    | none => rw [e1, e2] at q; exact q.elim
    | some db =>
      rw [e1, e2] at q
      cases e3 : f da db with
      | none => simp only [Option.bind, e3] at q; exact q.elim
      | some cc =>
        simp only [Option.bind, e3] at q
        refine hf F4 H3 da db x y cc _ R4.sub ((hx2.keep (en1 := en3) (H1 := H3) p4.sub n2).vw R4 e1) (hy4.vw R4 e2) e3 fun F5 H5 v g5 pr => ?_
        cases cc with
        | dat d =>
          cases d with
          | bl k =>
            refine ⟨k, pr, ?_⟩
            dsimp only at q
            cases k with
            | false =>
              rw [if_neg Bool.false_ne_true] at q ⊢
              exact q F5 H5 (R4.grow g5) g5.post _ rfl trivial
            | true =>
              rw [if_pos rfl] at q ⊢
              refine ⟨F5, en3, R4.grow g5, (opd (q.bind g5.post)).imp fun F6 H6 en6 r6 _ q w hw fw => ?_⟩
              obtain ⟨F7, rc, R7, p7, n7, hw7, q⟩ := q w hw fw
              obtain ⟨cc2, ec, fin⟩ := lift_ok (fun b hb => p2.there b (p4.there b (g5.keep.free (p7.there b hb)))) R7 q
              cases e4 : vw en6 rb with
              | none => rw [e4] at ec; cases ec
              | some db2 =>
                cases e5 : vw en6 rc with
                | none => rw [e4, e5] at ec; cases ec
                | some dc =>
                  rw [e4, e5] at ec
                  exact hg F7 H6 db2 dc y w cc2 Q R7.sub ((hy4.keep (en1 := en6) (H1 := H6) (g5.sub.trans p7.sub) n4).vw R7 e4) (hw7.vw R7 e5) ec fin
          | _ => exact q.elim
        | _ => exact q.elim
theorem re_chain {op op' : CmpOp} {f g : Dt → Dt → Option Res} (hp : Prim2 X (compareOp op) f) (hq : Prim2 X (compareOp op') g) (ha : PE X a (tE X.K X.mg W ma)) (hb : PE X b (tE X.K X.mg W mb)) (hc : PE X c (tE X.K X.mg W mc))
    (hm : lastMarks [op, op'] [b, c] = false := by with_unfolding_all rfl) : PE X (.Compare a [op, op'] [b, c] pos) (tE X.K X.mg W (eChain f g ma mb mc)) := by
  obtain ⟨r, ho, hf⟩ := hp
  obtain ⟨r', ho', hg⟩ := hq
  exact PE.imp (pe_chain ho ho' ha hb hc hm) fun σ H Q h => chain_core hf hg h
theorem rt_chain {op op' : CmpOp} {f g : Dt → Dt → Option Res} (hp : Prim2 X (compareOp op) f) (hq : Prim2 X (compareOp op') g) (ha : PE X a (tE X.K X.mg W ma)) (hb : PE X b (tE X.K X.mg W mb)) (hc : PE X c (tE X.K X.mg W mc))
    (hm : lastMarks [op, op'] [b, c] = false := by with_unfolding_all rfl) : PT X (.Compare a [op, op'] [b, c] pos) (tT X.K X.mg W (cBl (eChain f g ma mb mc))) := by
  obtain ⟨r, ho, hf⟩ := hp
  obtain ⟨r', ho', hg⟩ := hq
  exact PT.imp (pt_chain ho ho' ha hb hc hm) fun σ H Q h => chain_core hf hg (bl_core h)

/-! ### one sign in a text -/
def fInS : Dt → Dt → Option Res
  | .str [s], .str z => some (.dat (.bl (decide (s ∈ z))))
  | _, _ => none
def fNotInS : Dt → Dt → Option Res
  | .str [s], .str z => some (.dat (.bl (!decide (s ∈ z))))
  | _, _ => none
theorem fInS_inv {a b : Dt} {c : Res} (h : fInS a b = some c) : ∃ s z, a = .str [s] ∧ b = .str z ∧ c = .dat (.bl (decide (s ∈ z))) := by
  unfold fInS at h
  split at h
  · cases h; exact ⟨_, _, rfl, rfl, rfl⟩
  · cases h
theorem fNotInS_inv {a b : Dt} {c : Res} (h : fNotInS a b = some c) : ∃ s z, a = .str [s] ∧ b = .str z ∧ c = .dat (.bl (!decide (s ∈ z))) := by
  unfold fNotInS at h
  split at h
  · cases h; exact ⟨_, _, rfl, rfl, rfl⟩
  · cases h
theorem prim_inS : Prim2 X (compareOp .In) fInS := ⟨_, op_in_sign, fun F H a b x y c Q s hx hy e q => by
  obtain ⟨s', z, rfl, rfl, rfl⟩ := fInS_inv e
  exact ⟨s', st z, hx, hy, by rw [st_toList]; exact q F H _ (Grow.refl s) rfl⟩⟩
theorem prim_notInS : Prim2 X (compareOp .NotIn) fNotInS := ⟨_, op_notIn_sign, fun F H a b x y c Q s hx hy e q => by
  obtain ⟨s', z, rfl, rfl, rfl⟩ := fNotInS_inv e
  exact ⟨s', st z, hx, hy, by rw [st_toList]; exact q F H _ (Grow.refl s) rfl⟩⟩

/-! ### isinstance with built-in types -/
def tyN : Dt → String
  | .non => "NoneType" | .bl _ => "bool" | .int _ => "int" | .str _ => "str" | .tup _ => "tuple" | .lst _ => "list" | .exo _ _ => "NoneType"
def isTy (d : Dt) (t : String) : Bool := tyN d == t || (tyN d == "bool" && t == "int")
def kitAll : Bool := ["NoneType", "bool", "int", "str", "tuple", "list"].all fun a => ["bool", "int", "str", "tuple", "list"].all fun b => decide (kitB a b = some (a == b || (a == "bool" && b == "int")))
theorem kitAll_ok : kitAll = true := by decide +kernel
theorem kit_isTy {K : PySem.W.Frag} (d : Dt) {t : String} (ht : t ∈ ["bool", "int", "str", "tuple", "list"]) : PySem.W.kitOne K (.type (tyN d)) (.type t) = some (isTy d t) := by
  have h := kitAll_ok
  unfold kitAll at h
  rw [List.all_eq_true] at h
  have h1 := h (tyN d) (by cases d <;> simp [tyN])
  rw [List.all_eq_true] at h1
  exact kit_ty (of_decide_eq_true (h1 t ht))
theorem vw_ty {K : PySem.W.Frag} {F H : Hp} {d : Dt} {v : V} (s : Same F H) (hn : isX d = false) (h : Vw K F H d v) : TyX K H v (.type (tyN d)) := by
  cases d with
  | exo _ _ => cases hn
  | non => cases (show v = .non from h); exact .base .non
  | bl b => cases (show v = .bl b from h); exact .base (.bl b)
  | int b => cases (show v = .int b from h); exact .base (.int b)
  | str b => cases (show v = .str _ from h); exact .base (.str _)
  | lst ds => obtain ⟨a, xs, e, q, _⟩ := h; subst e; exact .base (.lst q)
  | tup ds =>
    obtain ⟨a, xs, e, q, _⟩ := h
    subst e
    rcases Same.seqT s q with (q | ⟨o, q⟩) | ⟨o, its, n, hk, hc, _⟩
    · exact .base (.tup q)
    · exact .fTuple q
    · exact .kTuple hk hc
def eIsi (ts : List String) (m : M Res) : M Res := fun en => (eOpd m en).bind fun r en1 => match vw en1 r with
  | some d => if isX d = true then .stuck else .ok (.dat (.bl (ts.any (isTy d)))) en1
  | none => .stuck
theorem re_isi (t : String) {tn : Str} {tp : Pos} (hm : X.mg "isinstance" = none) (hmt : X.mg tn = none) (hvt : bootBuiltins tn = some (.type t)) (ha : PE X a (tE X.K X.mg W m)) (ht : t ∈ ["bool", "int", "str", "tuple", "list"] := by decide) (hg : Gl X "isinstance" := by rfl) (hgt : Gl X tn := by rfl)
    (htn : tn ≠ "__name__" := by decide) (htd : (tn == ("__debug__" : Str)) = false := by decide) (he : starEach [a, .Name tn tp] X.env = [(false, eval a X.env), (false, eval (.Name tn tp) X.env)] := by rfl) :
    PE X (.Call (.Name "isinstance" p) [a, .Name tn tp] [] pos) (tE X.K X.mg W (eIsi [t] m)) :=
  PE.imp (pe_callB call_isi hg hm PyProof.Rows.boot_isinstance (pa_cons ha (pa_cons (pe_bltn (v := .ty t) hgt hmt hvt rfl htn htd) pa_nil (by rfl)) (by rw [he]; rfl)) (by decide) (by decide) (by rw [he]; rfl) (by rfl)) fun σ H Q ⟨F, en, R, h⟩ => ⟨F, en, R, (opd h).imp fun F1 H1 en1 r0 _ q v hv fr => by
    obtain ⟨F2, r, R2, p2, n2, hv2, q⟩ := q v hv fr
    cases z : vw en1 r with
    | none => rw [z] at q; exact q.elim
    | some d =>
      rw [z] at q
      dsimp only at q
      by_cases hX : isX d = true
      · rw [if_pos hX] at q; exact q.elim
      rw [if_neg hX] at q
      have hX : isX d = false := Bool.eq_false_iff.mpr hX
      refine ⟨v, .ty t, _, _, _, rfl, .ty t, vw_ty R2.sub hX (hv2.vw R2 z), kit_isTy d ht, ?_⟩
      have := q F2 H1 R2 .refl (.bl (isTy d t)) (by show V.bl _ = V.bl _; simp) trivial
      exact this⟩
theorem kitAny_isTy {K : PySem.W.Frag} (d : Dt) : ∀ {ts : List String}, (∀ t ∈ ts, t ∈ ["bool", "int", "str", "tuple", "list"]) → PySem.W.kitAny K (.type (tyN d)) (ts.map .type) = some (ts.any (isTy d))
  | [], _ => rfl
  | t :: ts, h => by
    rw [List.map_cons, List.any_cons]
    refine kitAny_cons (kit_isTy d (h t List.mem_cons_self)) (fun e => ?_) fun e => ?_
    · rw [e, Bool.false_or]; exact kitAny_isTy d fun u hu => h u (List.mem_cons_of_mem _ hu)
    · rw [e, Bool.true_or]
theorem re_isi2 (t1 t2 : String) {n1 n2 : Str} {q1 q2 tp : Pos} {kk} (hm : X.mg "isinstance" = none) (hm1 : X.mg n1 = none) (hv1 : bootBuiltins n1 = some (.type t1)) (hm2 : X.mg n2 = none) (hv2 : bootBuiltins n2 = some (.type t2)) (ha : PE X a (tE X.K X.mg W m))
    (ht1 : t1 ∈ ["bool", "int", "str", "tuple", "list"] := by decide) (ht2 : t2 ∈ ["bool", "int", "str", "tuple", "list"] := by decide) (hg : Gl X "isinstance" := by rfl) (hg1 : Gl X n1 := by rfl) (hg2 : Gl X n2 := by rfl)
    (h1 : n1 ≠ "__name__" := by decide) (h2 : n2 ≠ "__name__" := by decide) (hd1 : (n1 == ("__debug__" : Str)) = false := by decide) (hd2 : (n2 == ("__debug__" : Str)) = false := by decide)
    (he : starEach [a, .Tuple [.Name n1 q1, .Name n2 q2] kk tp] X.env = [(false, eval a X.env), (false, eval (.Tuple [.Name n1 q1, .Name n2 q2] kk tp) X.env)] := by rfl) :
    PE X (.Call (.Name "isinstance" p) [a, .Tuple [.Name n1 q1, .Name n2 q2] kk tp] [] pos) (tE X.K X.mg W (eIsi [t1, t2] m)) :=
  PE.imp (pe_callB call_isiT hg hm PyProof.Rows.boot_isinstance (pa_cons ha (pa_cons (pe_tup (pa_cons (pe_bltn (v := .ty t1) hg1 hm1 hv1 rfl h1 hd1) (pa_cons (pe_bltn (v := .ty t2) hg2 hm2 hv2 rfl h2 hd2) pa_nil (by rfl)) (by rfl))) pa_nil (by rfl)) (by rw [he]; rfl)) (by decide) (by decide) (by rw [he]; rfl) (by rfl)) fun σ H Q ⟨F, en, R, h⟩ => ⟨F, en, R, (opd h).imp fun F1 H1 en1 r0 _ q v hv fr => by
    obtain ⟨F2, r, R2, p2, n2', hv2', q⟩ := q v hv fr
    cases z : vw en1 r with
    | none => rw [z] at q; exact q.elim
    | some d =>
      rw [z] at q
      dsimp only at q
      by_cases hX : isX d = true
      · rw [if_pos hX] at q; exact q.elim
      rw [if_neg hX] at q
      have hX : isX d = false := Bool.eq_false_iff.mpr hX
      refine ⟨show 2 ≤ sizeLine by decide, fun pp np => ⟨v, pp, [.ty t1, .ty t2], _, [.type t1, .type t2], _, rfl, upd_same, .cons (.ty t1) (.cons (.ty t2) .nil), ?_, kitAny_isTy (ts := [t1, t2]) d (by intro t ht; rcases List.mem_cons.mp ht with rfl | ht; exact ht1; rw [List.mem_singleton.mp ht]; exact ht2), ?_⟩⟩
      · have g : Grow F2 H1 (upd F2 pp (.tup [.ty t1, .ty t2])) (upd H1 pp (.tup [.ty t1, .ty t2])) := grow_frz R2.sub np
        exact vw_ty (R2.grow g).sub hX ((hv2'.keep (en1 := en1) (H1 := upd H1 pp (.tup [.ty t1, .ty t2])) g.sub n2').vw (R2.grow g) z)
      · have g : Grow F2 H1 (upd F2 pp (.tup [.ty t1, .ty t2])) (upd H1 pp (.tup [.ty t1, .ty t2])) := grow_frz R2.sub np
        exact q _ _ (R2.grow g) g.post _ rfl trivial⟩

/-! ### a text's methods of one argument -/
def eM1 (f : Wd → Dt → Option Res) (mo me : M Res) : M Res := fun en => (eVal mo en).bind fun o en1 => match o with
  | .str a => (eOpd me en1).bind fun r en2 => lift en2 ((vw en2 r).bind (f a))
  | _ => .stuck
def PrimM (X : Cx) (id : String) (f : Wd → Dt → Option Res) : Prop := ∃ r, MtR X id r ∧ ∀ F H (a : Wd) (d : Dt) (y : V) (c : Res) (Q : VK), Same F H → Vw X.K F H d y → f a d = some c →
  (∀ F' H' v, Grow F H F' H' → PrOk X.K H F' H' v c → Q v H') → r (.str (st a)) [y] H Q
theorem re_m1 {id : String} {name : Str} {apos : Pos} {f : Wd → Dt → Option Res} (slot : Slot "str" name id) (ty : typeOf (.builtin id) = pure (.type "method_descriptor")) (hp : PrimM X id f) (ho : PE X a (tE X.K X.mg W ma)) (he : PE X b (tE X.K X.mg W mb))
    (hs : starEach [b] X.env = [(false, eval b X.env)] := by rfl) (hbase : attributeBase a name X.env (eval a X.env) = eval a X.env := by rfl) (hline : (apos.endLine == pos.line) = true := by rfl) :
    PE X (.Call (.Attribute a name apos) [b] [] pos) (tE X.K X.mg W (eM1 f ma mb)) := by
  obtain ⟨r, hr, hf⟩ := hp
  refine PE.imp (pe_m1 slot ty hr (rv_of ho) he hs hbase hline) fun σ H Q ⟨F, en, R, h⟩ => ⟨F, en, R, (OutOk.ofBind h).imp fun F1 H1 en1 d _ ⟨R1, p1, q⟩ x hx => ?_⟩
  cases d with
  | str u =>
    have hx : x = .str (st u) := hx
    subst hx
    dsimp only at q
    refine ⟨⟨_, rfl⟩, F1, en1, R1, (opd (q.bind p1)).imp fun F2 H2 en2 r0 _ q y hy fy => ?_⟩
    obtain ⟨F3, rb, R3, p3, n3, hy3, q⟩ := q y hy fy
    obtain ⟨c, ec, fin⟩ := lift_ok (fun b hb => p1.there b (p3.there b hb)) R3 q
    cases z : vw en2 rb with
    | none => rw [z] at ec; cases ec
    | some d =>
      rw [z] at ec
      exact hf F3 H2 u d y c Q R3.sub (hy3.vw R3 z) ec fin
  | _ => exact q.elim
def fJoin (a : Wd) : Dt → Option Res
  | .lst ds => (asStrs ds).bind fun ws => if (ws.map (·.length)).sum + ws.length * a.length ≤ 16777216 then some (.dat (.str (TL.joinL a ws))) else none
  | .tup ds => (asStrs ds).bind fun ws => if (ws.map (·.length)).sum + ws.length * a.length ≤ 16777216 then some (.dat (.str (TL.joinL a ws))) else none
  | _ => none
theorem join_st (a : Wd) (ws : List Wd) : Txt.join (st a) (ws.map st) = st (TL.joinL a ws) := by
  rw [TL.join_eq]
  refine TL.ext_tl ?_
  rw [TL.tl_join, List.map_map]
  have e1 : TL.tl (st a) = a := st_toList a
  have e2 : (TL.tl ∘ st) = (fun x : Wd => x) := by funext x; exact st_toList x
  rw [e1, e2, List.map_id']
  exact (st_toList _).symm
theorem lens_st (ws : List Wd) : ((ws.map st).map (·.length)) = ws.map (·.length) := by
  rw [List.map_map]
  refine List.map_congr_left fun x _ => st_len x
theorem prim_join : PrimM X "str.join" fJoin := ⟨_, mt_join, fun F H a d y c Q s hy e q => by
  cases d with
  | lst ds =>
    obtain ⟨pp, xs, ey, h1, r⟩ := hy
    obtain ⟨ws, z, e⟩ := Option.bind_eq_some_iff.mp e
    rw [asStrs_of z] at r
    rw [reps_strs r] at h1
    by_cases hz : (ws.map (·.length)).sum + ws.length * a.length ≤ 16777216
    · rw [if_pos hz] at e; cases e
      exact ⟨st a, pp, ws.map st, rfl, by rw [ey], .inl (SqL.of h1), by rw [lens_st, List.length_map, st_len]; exact hz, by rw [join_st]; exact q F H _ (Grow.refl s) rfl⟩
    · rw [if_neg hz] at e; cases e
  | tup ds =>
    obtain ⟨pp, xs, ey, h1, r⟩ := hy
    obtain ⟨ws, z, e⟩ := Option.bind_eq_some_iff.mp e
    rw [asStrs_of z] at r
    rw [reps_strs r] at h1
    by_cases hz : (ws.map (·.length)).sum + ws.length * a.length ≤ 16777216
    · rw [if_pos hz] at e; cases e
      exact ⟨st a, pp, ws.map st, rfl, by rw [ey], .inr (Same.seqT s h1), by rw [lens_st, List.length_map, st_len]; exact hz, by rw [join_st]; exact q F H _ (Grow.refl s) rfl⟩
    · rw [if_neg hz] at e; cases e
  | _ => cases e⟩
def fIndex (a : Wd) : Dt → Option Res
  | .str b => match Builtin.Str.occurrences (st a) (st b) 0 (st a).length 1 with
    | i :: _ => some (.dat (.int (i : Nat)))
    | [] => none
  | _ => none
theorem prim_index : PrimM X "str.index" fIndex := ⟨_, mt_sindex, fun F H a d y c Q s hy e q => by
  cases d with
  | str b =>
    have hy : y = .str (st b) := hy
    unfold fIndex at e
    cases z : Builtin.Str.occurrences (st a) (st b) 0 (st a).length 1 with
    | nil => simp only [z] at e; cases e
    | cons i r =>
      simp only [z] at e; cases e
      exact ⟨st a, st b, i, r, rfl, by rw [hy], z, q F H _ (Grow.refl s) rfl⟩
  | _ => cases e⟩

/-! ### slices -/
def cutL {α : Type} (xs : List α) (lo hi : Option Int) : List α := (xs.drop (HT.sIx xs.length 0 lo)).take (HT.sIx xs.length xs.length hi - HT.sIx xs.length 0 lo)
def fSl : Dt → Option Int → Option Int → Option Res
  | .str x, lo, hi => if x.length ≤ sizeLine then some (.dat (.str (cutL x lo hi))) else none
  | .lst ds, lo, hi => some (.new (cutL ds lo hi))
  | .tup ds, lo, hi => if ¬ (HT.sIx ds.length 0 lo = 0 ∧ HT.sIx ds.length ds.length hi = ds.length) then some (.dat (.tup (cutL ds lo hi))) else none
  | _, _, _ => none
theorem Reps.cut {K : PySem.W.Frag} {F : Hp} {ds : List Dt} {xs : List V} (r : Reps K F ds xs) (lo hi : Option Int) : Reps K F (cutL ds lo hi) (cutV xs lo hi) := by
  unfold cutL cutV
  rw [r.length]
  exact Reps.take _ (Reps.drop _ r)
theorem cut_st (x : Wd) (lo hi : Option Int) : cutS (st x) lo hi = st (cutL x lo hi) := by
  unfold cutS cutL
  rw [st_len, st_toList]
  rfl
/-- a slice's part -/
def oNone : M (Option Int) := fun en => .ok none en
def oSome (m : M Res) : M (Option Int) := fun en => (eOpd m en).bind fun r en1 => match vw en1 r with
  | some (.int i) => .ok (some i) en1
  | _ => .stuck
def tO (K : PySem.W.Frag) (mg : Str → Option Value) (W : WX) (m : M (Option Int)) : TO := fun σ H Q => ∃ F en, Rel K F H en σ ∧ OutOk K mg W F H en σ (m en) fun F' H' en' o => Q o H'
theorem PO.imp {e : Option Expr} {t t' : TO} (h : PO X e t) (i : ∀ σ H Q, t' σ H Q → t σ H Q) : PO X e t' := ⟨fun pins s σ H Q I q => h.run pins s σ H Q I (i σ H Q q)⟩
theorem ro_none : PO X none (tO X.K X.mg W oNone) := PO.imp po_none fun σ H Q ⟨F, en, R, h⟩ => h F H R .refl
theorem ro_some (h : PE X e (tE X.K X.mg W m)) : PO X (some e) (tO X.K X.mg W (oSome m)) := PO.imp (po_some h) fun σ H Q ⟨F, en, R, h⟩ => ⟨F, en, R, (opd h).imp fun F1 H1 en1 r0 _ q v hv fr => by
  obtain ⟨F2, r, R2, p2, n2, hv2, q⟩ := q v hv fr
  cases z : vw en1 r with
  | none => rw [z] at q; exact q.elim
  | some d =>
    rw [z] at q
    have vx := hv2.vw R2 z
    cases d with
    | int i => exact ⟨i, vx, q F2 H1 R2 .refl⟩
    | _ => exact q.elim⟩
def eSlice (m : M Res) (lo hi : M (Option Int)) : M Res := fun en => (eOpd m en).bind fun r en1 => (lo en1).bind fun l en2 => (hi en2).bind fun h en3 => lift en3 ((vw en3 r).bind fun d => fSl d l h)
theorem re_slice {lo hi : Option Expr} {p2 : Pos} {l h : M (Option Int)} (ho : PE X e (tE X.K X.mg W m)) (hl : PO X lo (tO X.K X.mg W l)) (hh : PO X hi (tO X.K X.mg W h)) : PE X (.Subscript e (.Slice lo hi none p2) pos) (tE X.K X.mg W (eSlice m l h)) :=
  PE.imp (pe_slice (sl_str.or (sl_list.or sl_tup)) ho hl hh) fun σ H Q ⟨F, en, R, hq⟩ => ⟨F, en, R, (opd hq).imp fun F1 H1 en1 r0 _ q v hv fr => by
    obtain ⟨F2, r, R2, p2, n2, hv2, q⟩ := q v hv fr
    refine ⟨F2, en1, R2, (OutOk.ofBind q).imp fun F3 H3 en3 ol _ ⟨R3, p3, q⟩ => ⟨F3, en3, R3, (OutOk.ofBind (q.bind p3)).imp fun F4 H4 en4 oh _ ⟨R4, p4, q⟩ => ?_⟩⟩
    obtain ⟨c, ec, fin⟩ := lift_ok (fun b hb => p2.there b (p3.there b (p4.there b hb))) R4 (q.bind p4)
    cases z : vw en4 r with
    | none => rw [z] at ec; cases ec
    | some d =>
      rw [z] at ec
      have vx := (hv2.keep (en1 := en4) (H1 := H4) (p3.sub.trans p4.sub) n2).vw R4 z
      change fSl d ol oh = some c at ec
      cases d with
      | str u =>
        have vx : v = .str (st u) := vx
        unfold fSl at ec
        by_cases hz : u.length ≤ sizeLine
        · simp only [if_pos hz] at ec; cases ec
          exact .inl ⟨st u, vx, by rw [st_len]; exact hz, by rw [cut_st]; exact fin F4 H4 _ (Grow.refl R4.sub) rfl⟩
        · simp only [if_neg hz] at ec; cases ec
      | lst ds =>
        obtain ⟨a, xs, ev, h1, rr⟩ := vx
        cases ec
        exact .inr (.inl ⟨a, xs, ev, SqL.of h1, fun pp np => fin _ _ _ (grow_own R4.sub np) ⟨pp, _, rfl, np, upd_same, R4.sub.free np, rr.cut ol oh⟩⟩)
      | tup ds =>
        obtain ⟨a, xs, ev, h1, rr⟩ := vx
        unfold fSl at ec
        by_cases hz : ¬ (HT.sIx ds.length 0 ol = 0 ∧ HT.sIx ds.length ds.length oh = ds.length)
        · simp only [if_pos hz] at ec; cases ec
          refine .inr (.inr ⟨a, xs, ev, Same.seqT R4.sub h1, by rw [← rr.length]; exact hz, fun pp np => ?_⟩)
          have g : Grow F4 H4 (upd F4 pp (.tup (cutV xs ol oh))) (upd H4 pp (.tup (cutV xs ol oh))) := grow_frz R4.sub np
          exact fin _ _ _ g ⟨pp, _, rfl, .inl (.inl upd_same), Reps.mono g.sub _ _ (rr.cut ol oh)⟩
        · simp only [if_neg hz] at ec; cases ec
      | _ => cases ec⟩
end
end Fw

/-! Fw11: several names at once. -/
namespace Fw
open PySem PySem.Spec PyProof.Rows L2

section
variable {K : PySem.W.Frag} {mg : Str → Option Value} {W : WX} {F F1 H H1 H0 : Hp} {en en1 : En} {σ : St} {v : V} {fx : Nat} {D : Ends}
/-- a result stays one while something else is reckoned -/
theorem ResOk.stay {r : Res} (p : Post F H (Own en σ) F1 H1 (Own en1 σ)) (h : ResOk K F H en σ v r) : ResOk K F1 H1 en1 σ v r := by
  cases r with
  | dat d => exact Rep.mono p.sub _ _ h
  | slt i => exact h
  | new ds =>
    obtain ⟨a, xs, e, h1, h2, h3, q⟩ := h
    refine ⟨a, xs, e, p.keep _ _ h1 h3, ?_, fun z => ?_, Reps.mono p.sub _ _ q⟩
    · cases z : F1 a with
      | none => rfl
      | some u =>
        rcases p.frz a u z with y | y | y
        · rw [h2] at y; cases y
        · rw [h1] at y; cases y
        · exact absurd y h3
    · rcases p.own a z with y | y
      · exact h3 y
      · rw [h1] at y; cases y
/-- of two results one is not the other's new list -/
def Apart (r s : Res) (v w : V) : Prop := (∃ ds, r = .new ds) → (∃ es, s = .new es) → v ≠ w
/-- as data, a new list as it is -/
def toR (r : Res) (en : En) : Out Res := match r with
  | .slt i => (toV (.slt i) en).bind fun d en1 => .ok (.dat d) en1
  | r => .ok r en
theorem toR_ok {r : Res} {k : Res → En → OutS} (p : Post F H (Own en σ) F1 H1 (Own en1 σ)) (R : Rel K F1 H1 en1 σ) (h : ResOk K F1 H1 en1 σ v r) (q : SOk K mg W fx F H en σ D ((toR r en1).then k)) :
    ∃ F2 en2 s, Rel K F2 H1 en2 σ ∧ Post F H (Own en σ) F2 H1 (Own en2 σ) ∧ Post F1 H1 (Own en1 σ) F2 H1 (Own en2 σ) ∧ ResOk K F2 H1 en2 σ v s ∧ (∀ i, s ≠ .slt i) ∧ (∀ ds, s = .new ds → r = .new ds) ∧ SOk K mg W fx F H en σ D (k s en2) := by
  cases r with
  | dat d => exact ⟨F1, en1, .dat d, R, p, .refl, h, (fun _ z => by cases z), (fun _ z => by cases z), q⟩
  | new ds => exact ⟨F1, en1, .new ds, R, p, .refl, h, (fun _ z => by cases z), (fun _ z => z), q⟩
  | slt i =>
    have hv : σ[i]? = some (some v) := h
    have q : SOk K mg W fx F H en σ D (((toV (.slt i) en1).bind fun d en1 => .ok (.dat d) en1).then k) := q
    unfold toV at q
    cases z : en1[i]? with
    | none => simp only [z] at q; exact q.elim
    | some sl =>
      have pp := R.ok i sl _ z hv
      cases sl with
      | un => simp only [z] at q; exact q.elim
      | scr ns => simp only [z] at q; exact q.elim
      | val d =>
        simp only [z] at q
        obtain ⟨v', e, pp⟩ := pp
        cases e
        exact ⟨F1, en1, .dat d, R, p, .refl, pp, (fun _ z => by cases z), (fun _ z => by cases z), q⟩
      | own ds =>
        simp only [z] at q
        obtain ⟨F', R', p', r'⟩ := freeze_slot R z hv
        exact ⟨F', _, .dat (.lst ds), R', p.trans p', p', r', (fun _ z => by cases z), (fun _ z => by cases z), q⟩
/-- from a later state: what follows is still told from the start -/
theorem ofThenB {α : Type} {o : Out α} {k : α → En → OutS} (p : Post F H (Own en σ) F1 H1 (Own en1 σ)) (h : SOk K mg W fx F H en σ D (o.then k)) :
    OutOk K mg W F1 H1 en1 σ o fun F2 H2 en2 a => Rel K F2 H2 en2 σ ∧ Post F1 H1 (Own en1 σ) F2 H2 (Own en2 σ) ∧ Post F H (Own en σ) F2 H2 (Own en2 σ) ∧ SOk K mg W fx F H en σ D (k a en2) := by
  cases o with
  | ok a en2 => exact fun F2 H2 R q => ⟨R, q, p.trans q, h⟩
  | exc c d en2 => exact fun cls dx F2 H2 R q x => h cls dx σ F2 H2 R (p.trans q) rfl x
  | stuck => exact h
/-- data or a new list into a slot, then what follows -/
theorem put_then {A0 : Addr → Prop} {F0 : Hp} {i : Nat} {s : Res} (R : Rel K F H en σ) (h : ResOk K F H en σ v s) (fr : Fresh H0 v s) (ns : ∀ i, s ≠ .slt i) (p : Post F0 H0 A0 F H (Own en σ)) :
    ∃ sl, putR i s en = .nx (en.set i sl) ∧ Rel K F H (en.set i sl) (σ.set i (some v)) ∧ Post F0 H0 A0 F H (Own (en.set i sl) (σ.set i (some v))) ∧ ∀ b, Own (en.set i sl) (σ.set i (some v)) b → Own en σ b ∨ ((∃ ds, s = .new ds) ∧ v = .ref b) := by
  cases s with
  | dat d =>
    obtain ⟨R2, p2⟩ := store_val (i := i) R h
    exact ⟨_, rfl, R2, p.trans p2, fun b z => .inl (own_set_val z)⟩
  | new ds =>
    obtain ⟨a, xs, e, h1, h2, h3, g⟩ := h
    subst e
    obtain ⟨R2, p2⟩ := store_own (i := i) p R h1 h2 h3 (fr a rfl) g
    refine ⟨_, rfl, R2, p2, fun b ⟨j, fs, e1, e2⟩ => ?_⟩
    by_cases hj : j = i
    · subst hj
      rw [List.getElem?_set] at e2
      simp only [if_pos trivial] at e2
      split at e2
      · cases e2; exact .inr ⟨⟨_, rfl⟩, rfl⟩
      · cases e2
    · rw [List.getElem?_set_ne (Ne.symm hj)] at e1 e2
      exact .inl ⟨j, fs, e1, e2⟩
  | slt j => exact absurd rfl (ns j)
end

section
variable {X : Cx} {W : WX} {fx : Nat} {a b c : Expr} {m1 m2 m3 : M Res} {pos px py pz pt : Pos} {x y z : Str} {kt k2 : Nat} {pt2 : Pos}
def sPar2 (i j : Nat) (m1 m2 : M Res) : MS := fun en => (m1 en).then fun r1 en1 => (m2 en1).then fun r2 en2 => (toR r1 en2).then fun s1 en3 => (toR r2 en3).then fun s2 en4 => (putR i s1 en4).seq (putR j s2)
def sPar3 (i j l : Nat) (m1 m2 m3 : M Res) : MS := fun en => (m1 en).then fun r1 en1 => (m2 en1).then fun r2 en2 => (m3 en2).then fun r3 en3 => (toR r1 en3).then fun s1 en4 => (toR r2 en4).then fun s2 en5 => (toR r3 en5).then fun s3 en6 =>
  (putR i s1 en6).seq fun en7 => (putR j s2 en7).seq (putR l s3)
theorem fresh_mono {H0 H : Hp} {v : V} {r : Res} (t : ∀ b, H b = none → H0 b = none) (h : Fresh H v r) : Fresh H0 v r := by
  cases r with
  | new ds => exact fun a e => t a (h a e)
  | _ => trivial
theorem new_ne {K : PySem.W.Frag} {F H F' H' : Hp} {en en' : En} {σ σ' : St} {v w : V} {r s : Res} (h : ResOk K F H en σ v r) (fr : Fresh H w s) : Apart r s v w := by
  rintro ⟨ds, rfl⟩ ⟨es, rfl⟩ e
  obtain ⟨a, xs, ev, h1, _⟩ := h
  have := fr a (by rw [← e, ev])
  rw [h1] at this; cases this
theorem fresh_s {H : Hp} {v : V} {r s : Res} (e : ∀ ds, s = .new ds → r = .new ds) (h : Fresh H v r) : Fresh H v s := by
  cases s with
  | new ds => rw [e ds rfl] at h; exact h
  | _ => trivial
theorem newIs {K : PySem.W.Frag} {F H : Hp} {en : En} {σ : St} {v : V} {s : Res} (h : ResOk K F H en σ v s) (n : ¬ (∃ ds, s = .new ds)) (Rp : ∀ i, s ≠ .slt i) : ∃ d, s = .dat d := by
  cases s with
  | dat d => exact ⟨d, rfl⟩
  | new ds => exact absurd ⟨ds, rfl⟩ n
  | slt i => exact absurd rfl (Rp i)
/-- a result in the environment after another one was stored -/
theorem ResOk.afterPut {K : PySem.W.Frag} {F H : Hp} {en en' : En} {σ σ' : St} {v w : V} {r s : Res} (h : ResOk K F H en σ w s) (ns : ∀ i, s ≠ .slt i) (ap : Apart r s v w) (o : ∀ b, Own en' σ' b → Own en σ b ∨ ((∃ ds, r = .new ds) ∧ v = .ref b)) : ResOk K F H en' σ' w s := by
  cases s with
  | dat d => exact h
  | new ds =>
    obtain ⟨a, xs, e, h1, h2, h3, q⟩ := h
    refine ⟨a, xs, e, h1, h2, fun z => ?_, q⟩
    rcases o a z with y | ⟨y, ev⟩
    · exact h3 y
    · exact ap y ⟨ds, rfl⟩ (by rw [ev, e])
  | slt i => exact absurd rfl (ns i)
theorem rs_par2 (i j : Nat) (hf : fx ≤ i ∧ fx ≤ j) (hc : X.calm = true) (hN : X.N.Nodup) (ha : PE X a (tE X.K X.mg W m1)) (hb : PE X b (tE X.K X.mg W m2)) (hij : i ≠ j := by decide) (hi : X.N[i]? = some x := by rfl) (hj : X.N[j]? = some y := by rfl)
    (hx : X.env.scope.names.lookup x = some .local := by rfl) (hy : X.env.scope.names.lookup y = some .local := by rfl) (h1 : starEach [a, b] X.env = (false, eval a X.env) :: starEach [b] X.env := by rfl) (h2 : starEach [b] X.env = [(false, eval b X.env)] := by rfl)
    (hw : swappedStores [.Tuple [.Name x px, .Name y py] kt pt] (.Tuple [a, b] k2 pt2) X.env = pure (some [x, y]) := by rfl)
    (hs : swapsWithSole [.Tuple [.Name x px, .Name y py] kt pt] (.Tuple [a, b] k2 pt2) pos.line X.env = pure false := by rfl) :
    PS X (.Assign [.Tuple [.Name x px, .Name y py] kt pt] (.Tuple [a, b] k2 pt2) pos) (tS X.K X.mg W fx (sPar2 i j m1 m2)) :=
  PS.imp (ps_par hc hN hi hj hij hx hy (pa_cons ha (pa_cons hb pa_nil h2) h1) hw hs) fun D σ H ⟨F, en, R, h⟩ => ⟨F, en, R, h.ofThen.imp fun F1 H1 en1 r1 _ ⟨R1, p1, q⟩ v1 hv1 fr1 => ⟨F1, en1, R1, (ofThenB p1 q).imp fun F2 H2 en2 r2 _ ⟨R2, p2, p02, q⟩ v2 hv2 fr2 => by
    have ap := new_ne (F' := F) (H' := H) (en' := en) (σ' := σ) (s := r2) (w := v2) hv1 fr2
    obtain ⟨F3, en3, s1, R3, p03, p3, hs1, n1, e1, q⟩ := toR_ok p02 R2 (hv1.stay p2) q
    obtain ⟨F4, en4, s2, R4, p04, p4, hs2, n2, e2, q⟩ := toR_ok p03 R3 (hv2.stay p3) q
    have f2 : Fresh H v2 s2 := fresh_s e2 (fresh_mono p1.there fr2)
    have ap' : Apart s1 s2 v1 v2 := fun ⟨ds, z1⟩ ⟨es, z2⟩ => ap ⟨ds, e1 ds z1⟩ ⟨es, e2 es z2⟩
    obtain ⟨sl, eq1, R5, p5, o5⟩ := put_then (i := i) R4 (hs1.stay p4) (fresh_s e1 fr1) n1 p04
    obtain ⟨sl2, eq2, R6, p6, _⟩ := put_then (i := j) R5 (hs2.afterPut n2 ap' o5) f2 n2 p5
    rw [eq1] at q
    change SOk X.K X.mg W fx F H en σ D (putR j s2 _) at q
    rw [eq2] at q
    exact ⟨v1, v2, rfl, q _ _ _ R6 p6 ((take_set hf.2).trans (take_set hf.1))⟩⟩⟩
theorem rs_par3 (i j l : Nat) (hf : fx ≤ i ∧ fx ≤ j ∧ fx ≤ l) (hc : X.calm = true) (hN : X.N.Nodup) (ha : PE X a (tE X.K X.mg W m1)) (hb : PE X b (tE X.K X.mg W m2)) (hcc : PE X c (tE X.K X.mg W m3)) (hij : i ≠ j := by decide) (hil : i ≠ l := by decide) (hjl : j ≠ l := by decide)
    (hi : X.N[i]? = some x := by rfl) (hj : X.N[j]? = some y := by rfl) (hl : X.N[l]? = some z := by rfl)
    (hx : X.env.scope.names.lookup x = some .local := by rfl) (hy : X.env.scope.names.lookup y = some .local := by rfl) (hz : X.env.scope.names.lookup z = some .local := by rfl)
    (h1 : starEach [a, b, c] X.env = (false, eval a X.env) :: starEach [b, c] X.env := by rfl) (h2 : starEach [b, c] X.env = (false, eval b X.env) :: starEach [c] X.env := by rfl) (h3 : starEach [c] X.env = [(false, eval c X.env)] := by rfl)
    (hw : swappedStores [.Tuple [.Name x px, .Name y py, .Name z pz] kt pt] (.Tuple [a, b, c] k2 pt2) X.env = pure (some [x, y, z]) := by rfl)
    (hs : swapsWithSole [.Tuple [.Name x px, .Name y py, .Name z pz] kt pt] (.Tuple [a, b, c] k2 pt2) pos.line X.env = pure false := by rfl) :
    PS X (.Assign [.Tuple [.Name x px, .Name y py, .Name z pz] kt pt] (.Tuple [a, b, c] k2 pt2) pos) (tS X.K X.mg W fx (sPar3 i j l m1 m2 m3)) :=
  PS.imp (ps_par3 hc hN hi hj hl hij hil hjl hx hy hz (pa_cons ha (pa_cons hb (pa_cons hcc pa_nil h3) h2) h1) hw hs) fun D σ H ⟨F, en, R, h⟩ => ⟨F, en, R, h.ofThen.imp fun F1 H1 en1 r1 _ ⟨R1, p1, q⟩ v1 hv1 fr1 => ⟨F1, en1, R1, (ofThenB p1 q).imp fun F2 H2 en2 r2 _ ⟨R2, p2, p02, q⟩ v2 hv2 fr2 =>
    ⟨F2, en2, R2, (ofThenB p02 q).imp fun Fc Hc enc r3 _ ⟨Rc, pc, p0c, q⟩ v3 hv3 fr3 => by
    have ap := new_ne (F' := F) (H' := H) (en' := en) (σ' := σ) (s := r2) (w := v2) hv1 fr2
    have ap13 := new_ne (F' := F) (H' := H) (en' := en) (σ' := σ) (s := r3) (w := v3) (hv1.stay p2) fr3
    have ap23 := new_ne (F' := F) (H' := H) (en' := en) (σ' := σ) (s := r3) (w := v3) hv2 fr3
    obtain ⟨F3, en3, s1, R3, p03, p3, hs1, n1, e1, q⟩ := toR_ok p0c Rc ((hv1.stay p2).stay pc) q
    obtain ⟨F4, en4, s2, R4, p04, p4, hs2, n2, e2, q⟩ := toR_ok p03 R3 ((hv2.stay pc).stay p3) q
    obtain ⟨F5, en5, s3, R5, p05, p5, hs3, n3, e3, q⟩ := toR_ok p04 R4 ((hv3.stay p3).stay p4) q
    have f2 : Fresh H v2 s2 := fresh_s e2 (fresh_mono p1.there fr2)
    have f3 : Fresh H v3 s3 := fresh_s e3 (fresh_mono p02.there fr3)
    have a12 : Apart s1 s2 v1 v2 := fun ⟨ds, z1⟩ ⟨es, z2⟩ => ap ⟨ds, e1 ds z1⟩ ⟨es, e2 es z2⟩
    have a13 : Apart s1 s3 v1 v3 := fun ⟨ds, z1⟩ ⟨es, z2⟩ => ap13 ⟨ds, e1 ds z1⟩ ⟨es, e3 es z2⟩
    have a23 : Apart s2 s3 v2 v3 := fun ⟨ds, z1⟩ ⟨es, z2⟩ => ap23 ⟨ds, e2 ds z1⟩ ⟨es, e3 es z2⟩
    obtain ⟨sl, eq1, R6, p6, o6⟩ := put_then (i := i) R5 ((hs1.stay p4).stay p5) (fresh_s e1 fr1) n1 p05
    obtain ⟨sl2, eq2, R7, p7, o7⟩ := put_then (i := j) R6 ((hs2.stay p5).afterPut n2 a12 o6) f2 n2 p6
    obtain ⟨sl3, eq3, R8, p8, _⟩ := put_then (i := l) R7 ((hs3.afterPut n3 a13 o6).afterPut n3 a23 o7) f3 n3 p7
    rw [eq1] at q
    change SOk X.K X.mg W fx F H en σ D ((putR j s2 _).seq (putR l s3)) at q
    rw [eq2] at q
    change SOk X.K X.mg W fx F H en σ D (putR l s3 _) at q
    rw [eq3] at q
    exact ⟨v1, v2, v3, rfl, q _ _ _ R8 p8 (((take_set hf.2.2).trans (take_set hf.2.1)).trans (take_set hf.1))⟩⟩⟩⟩
end
end Fw

/-! Fw12: the module's facts, the law. -/
namespace Fw
open PySem PySem.Spec PyProof.Rows L2

structure FnAt (K : PySem.W.Frag) (mg : Str → Option Value) (name : Str) (st : Stmt) (ps : List Str) (f : Addr) (fd : FuncData) : Prop where
  F : Fun K name name st f fd
  g : mg name = some (.ref f)
  b : Binds K fd ps []
theorem FnAt.mk' {K : PySem.W.Frag} {mg : Str → Option Value} {x : Str} {st : Stmt} {f : Addr} {ps : List Str} {oc : Value} {od an : Option Addr} {osl : Array (Option Value)} {kV doc pm cdv ct : Value} (l : K.lookup f = some ⟨oc, od, .func (PySem.W.fnOf x x (defArgs st) (defBody st) (defScope st) .none kV doc pm an cdv ct), osl⟩)
    (c : PySem.W.codeIn K cdv x = true) (k : PySem.W.keepIn K (.ref f) = true) (g : mg x = some (.ref f))
    (h : ∀ (kV doc pm : Value) (an : Option Addr) (cdv ct : Value) (us : List Value), us.length = ps.length → bindArgs (PySem.W.fnOf x x (defArgs st) (defBody st) (defScope st) .none kV doc pm an cdv ct) ⟨us, []⟩ = pure (ps.zip us)) :
    FnAt K mg x st ps f (PySem.W.fnOf x x (defArgs st) (defBody st) (defScope st) .none kV doc pm an cdv ct) :=
  let F := fun_mk l c k
  ⟨F, g, F.binds h⟩
def pick {α : Type} (d : α) (l : List (Nat × α)) (i : Nat) : α := (l.lookup i).getD d

section
variable {X : Cx} {W : WX} {x : Str} {pos : Pos}
theorem re_gint {i : Int} (hm : ∃ t, X.mg x = some (.int i t)) (hg : Gl X x := by rfl) (hd : (x == ("__debug__" : Str)) = false := by decide) : PE X (.Name x pos) (tE X.K X.mg W (eDat (.int i))) := by
  obtain ⟨t, hm⟩ := hm
  exact re_gdat hg hm (v := .int i) ⟨t, rfl⟩ (fun _ _ => rfl) hd
theorem re_gstr {z : Wd} (hm : ∃ t, X.mg x = some (.str (st z) t)) (hg : Gl X x := by rfl) (hd : (x == ("__debug__" : Str)) = false := by decide) : PE X (.Name x pos) (tE X.K X.mg W (eDat (.str z))) := by
  obtain ⟨t, hm⟩ := hm
  exact re_gdat hg hm (v := .str (st z)) ⟨t, rfl⟩ (fun _ _ => rfl) hd
end
section
variable {P : Program} {w : World} {K : PySem.W.Frag} {mg : Str → Option Value} {base : Heap}
theorem FnOk.stuck0 {k n : Nat} {f : Addr} {fd : FuncData} {ps : List Str} (hn : n = ps.length) : FnOk P w K mg base (L2.CX P w) k f fd ps (spF K mg n fun _ => .stuck) :=
  ⟨fun vs H Q E ⟨_, _, _, _, _, z⟩ => z.elim, fun A outer s H args us vs Q E _ _ _ _ ⟨_, _, _, _, _, z⟩ => z.elim⟩
/-- the law's promise -/
def spL (K : PySem.W.Frag) (n : Nat) (m : MS) : Sp := fun vs H Q _ => ∃ a ns, vs = [.ref a] ∧ SqL K H a (ns.map V.int) ∧ (∃ en, m (.scr ns :: List.replicate (n - 1) .un) = .ret (.dat (.bl true)) en) ∧ ∀ H', Q (.bl true) H'
theorem okL {x qual : Str} {st : Stmt} {f : Addr} {fd : FuncData} {N : List Str} {p : Str} {k : Nat} {m : MS} (F : Fun K x qual st f fd) (S : FnScope N [p] (defScope st)) (hN : N.length ≠ 0 := by decide)
    (hbody : ∀ (cdv : Value) (A : Around) (outer : List Env) (s : Shared) (H : Hp) (E : XK),
      Ct (cxOf (L2.CX P w) P w K mg base N qual (defScope st) f cdv A outer s H E) (fun cls d _ H => E cls d H) k →
      PSs (cxOf (L2.CX P w) P w K mg base N qual (defScope st) f cdv A outer s H E) (defBody st) (tS K mg (fun cls d _ H => E cls d H) 0 m)) :
    FnOk P w K mg base (L2.CX P w) (k + 1) f fd [p] (spL K N.length m) := by
  refine F.okX S (fun vs H Q E ⟨a, ns, e, _⟩ => by rw [e]; rfl) fun cdv A outer s H vs Q E hr ⟨a, ns, e, hS, ⟨en, em⟩, q⟩ => ?_
  subst e
  refine ⟨_, hbody cdv A outer s H E ⟨rfl, S.nd, takes_of rfl rfl rfl rfl, hr, passes_of rfl⟩, H, .scr ns :: List.replicate (N.length - 1) .un, ⟨Same.refl _, ?_, fun i s o e1 e2 => ?_, fun i j ds es a e1 => ?_⟩, ?_⟩
  · cases N with
    | nil => exact absurd rfl hN
    | cons y N => simp [L2.start]
  · cases N with
    | nil => exact absurd rfl hN
    | cons y N =>
      cases i with
      | zero =>
        have e1 : some (Sl.scr ns) = some s := e1
        cases e1
        have e2 : some (some (V.ref a)) = some o := e2
        cases e2
        exact ⟨a, rfl, hS⟩
      | succ i =>
        have e1 : (List.replicate ((y :: N).length - 1) Sl.un)[i]? = some s := e1
        rw [List.getElem?_replicate] at e1
        split at e1
        · cases e1; trivial
        · cases e1
  · cases i with
    | zero => cases e1
    | succ i =>
      have e1 : (List.replicate (N.length - 1) Sl.un)[i]? = some (.own ds) := e1
      rw [List.getElem?_replicate] at e1
      split at e1 <;> cases e1
  · rw [em]
    intro v σ' F' H' R' p' _ r
    cases (show v = .bl true from r)
    exact q H'
theorem cx_false {H : Hp} {s : Shared} {e : Value} {s' : Shared} {outer : List Env} (h : L2.CX P w outer H s (fun _ _ _ => False) e s') : False := by
  obtain ⟨_, _, _, _, _, _, _, _, _, _, _, _, z⟩ := h
  exact z
end
theorem spL_of {K : PySem.W.Frag} {H : Hp} {a : Addr} {ns : List Int} {n : Nat} {m : MS} {E : XK} (hS : SqL K H a (ns.map V.int)) (h : ∃ en, m (.scr ns :: List.replicate (n - 1) .un) = .ret (.dat (.bl true)) en) :
    spL K n m [.ref a] H (fun v _ => v = .bl true) E := ⟨a, ns, rfl, hS, h, fun _ => rfl⟩
end Fw

/-! Fx1: the __init__ that says super().__init__(value) and keeps value, run on a new exception. -/
namespace Fw
open PySem PySem.W PySem.Calls PyProof.Rows

/-- what the class at C must say -/
structure XcC (K : Frag) (D C : Addr) : Prop where
  ox : L2.OexC K C
  su : ks_superIn K C D "__init__" = some (some (.builtin "ValueError.__init__"))
  sv : subIn K (.ref C) (.type "ValueError") = some true
  sd : mroIn K C (.ref D) = some true
  nv : findIn K (.ref C) "value" = some none
/-- what the def's text says -/
structure XcF (prog : Program) (K : Frag) (f cc cda D : Addr) (qual : Str) (params : Arguments) (body : List Stmt) (scope : Scope) (kV doc pm ct : Value) (an : Option Addr) : Prop where
  at_ : ∃ oc od osl, K.lookup f = some ⟨oc, od, .func (ksFn "__init__" qual params body scope .none kV doc pm an (.ref cda) ct cc), osl⟩
  code : codeIn K (.ref cda) qual = true
  file : ∃ ccl cdd vs ccs file tf, K.lookup cda = some ⟨ccl, cdd, .fields vs, ccs⟩ ∧ vs[2]? = some (.str file tf) ∧ ((prog.main.file : Str) == file) = true
  cell : ∃ cl cld csl, K.lookup cc = some ⟨cl, cld, .cell (some (.ref D)), csl⟩
  cls : ∃ cd, clsIn K D = some cd
  any : nsIn K cStatics "thirdparty.any" = some none
  top : (prog.main.scope.names.lookup ("super" : Str)).isSome = false

abbrev xBody (p0 p1 p2 p3 p4 p5 p6 p7 p8 p9 : Pos) : List Stmt :=
  [.Expr (.Call (.Attribute (.Call (.Name "super" p0) [] [] p1) "__init__" p2) [.Name "value" p3] [] p4) p5, .Assign [.Attribute (.Name "self" p6) "value" p7] (.Name "value" p8) p9]
abbrev xScope (nms : List (Str × NameKind)) : Scope := { kind := .function, names := nms, isGenerator := false, isCoroutine := false, more := [] }
/-- what depends on where the text stands -/
structure XcP (f cc cda : Addr) (qual : Str) (nms : List (Str × NameKind)) (pl : Sem Bool) (p0 p1 p2 p3 p4 p5 p6 p7 p8 p9 : Pos) : Prop where
  ev : ∀ L : Addr, eval (.Call (.Attribute (.Call (.Name "super" p0) [] [] p1) "__init__" p2) [.Name "value" p3] [] p4) (ksEnv qual (xScope nms) L f (.ref cda) cc) = (do
      let ov ← attributeBase (.Call (.Name "super" p0) [] [] p1) "__init__" (ksEnv qual (xScope nms) L f (.ref cda) cc) (eval (.Call (.Name "super" p0) [] [] p1) (ksEnv qual (xScope nms) L f (.ref cda) cc))
      standAt p2.atName
      let (f', first) ← holding [ov] (getMethod ov "__init__" pl)
      callWith p4 f' first (backTo p4 (starEach [.Name "value" p3] (ksEnv qual (xScope nms) L f (.ref cda) cc))) [])
  s1 : ∀ L : Addr, swapsWith (.Call (.Attribute (.Call (.Name "super" p0) [] [] p1) "__init__" p2) [.Name "value" p3] [] p4) none p5.line (ksEnv qual (xScope nms) L f (.ref cda) cc) = pure false
  s2 : ∀ L : Addr, swapsWith (.Name "value" p8) (some (.Attribute (.Name "self" p6) "value" p7)) p9.line (ksEnv qual (xScope nms) L f (.ref cda) cc) = pure false

section
variable {prog : Program} {w : World} {A : Around} {s : Shared} {K : Frag} {base : Heap} {mg : Str → Option Value} {f cc cda D C e t0 : Addr} {qual : Str} {params : Arguments} {nms : List (Str × NameKind)} {pl : Sem Bool} {p0 p1 p2 p3 p4 p5 p6 p7 p8 p9 : Pos} {kV doc pm ct : Value} {an : Option Addr} {u : Value} {args : Args} {R : Result → Shared → Prop}
theorem init_run (Xf : XcF prog K f cc cda D qual params (xBody p0 p1 p2 p3 p4 p5 p6 p7 p8 p9) (xScope nms) kV doc pm ct an) (T : XcC K D C) (Xp : XcP f cc cda qual nms pl p0 p1 p2 p3 p4 p5 p6 p7 p8 p9)
    (Mo : L2.Mod K mg base) (hbs : ∀ b o, base.get? b = some o → s.heap.get? b = some o) (hsup : mg "super" = none)
    (he : s.heap.get? e = some (HandSPX.excO C t0)) (heb : base.get? e = none) (hroom : A.depth < recursionLimit) (hbind : BindsTo s (ksFn "__init__" qual params (xBody p0 p1 p2 p3 p4 p5 p6 p7 p8 p9) (xScope nms) .none kV doc pm an (.ref cda) ct cc) args [("self", .ref e), ("value", u)])
    (hcell : ∀ x ∈ nms, x.2 ≠ .cell) (hls : nms.lookup ("self" : Str) = some .local) (hlv : nms.lookup ("value" : Str) = some .local)
    (hsu : nms.lookup ("super" : Str) = some .globalImplicit) (hkc : nms.lookup ("__class__" : Str) = some .free)
    (hpar : ∃ ar, (params.posonlyargs ++ params.args).head? = some ar ∧ ar.arg = "self")
    (h : ∀ h' tk' t1 dx, (∀ b o, b ≠ e → s.heap.get? b = some o → h'.get? b = some o) → s.heap.objs.size ≤ dx → dx ≠ e → h'.get? e = some { cls := .ref C, dict := some dx, data := .fields #[.ref t1, .none, .none, .none, .bool false, .none] } →
      h'.Ns1 dx (fun y => if y = "value" then some u else none) → R (.ok (.ret .none)) { s with heap := h', toks := tk' }) :
    codeAny (model prog w) A (.call (.ref f) args) R s := by
  obtain ⟨oc, od, osl, hf⟩ := Xf.at_
  obtain ⟨ccl, cdd, vs, ccs, file, tf, hcode, hvs, hfile⟩ := Xf.file
  obtain ⟨cl, cld, csl, hcel⟩ := Xf.cell
  obtain ⟨cdD, hD⟩ := Xf.cls
  obtain ⟨ar, hp, hpa⟩ := hpar
  obtain ⟨nm, q, N, bs, bm, sn, sub, ab, col, dd, k0, k1, k2, k3, k5, hC, hbm⟩ := T.ox.cls
  have hcl : clsIn K C = some { name := nm, bases := bs, mro := .ref C :: bm, ns := N, qualname := q, hasDict := true, slotNames := sn, subclasses := sub, abstract := ab, collection := col, hasDel := false } := by unfold clsIn; rw [hC] <;> rfl
  have KI : K.In base := Mo.kin
  have X0 : K.In s.heap := KI.keeps hbs
  have inD : ∀ {h : Heap}, K.In h → ∃ oD, h.get? D = some oD ∧ oD.data = .cls cdD := fun {h} X => by
    unfold clsIn at hD
    split at hD
    · rename_i c d cd' sl ho
      cases hD
      exact ⟨_, X _ _ ho, rfl⟩
    · cases hD
  refine ks_codeAny_call_defAt hroom (X0 _ _ hf) rfl (Mo.nolimit.keeps hbs) (codeRec_of X0 Xf.code) rfl hbind hcell (fun x hx => ?_) (fun h₁ hns hk₁ => ?_) rfl rfl rfl
  · rcases List.mem_cons.mp hx with rfl | hx
    · exact hls
    · rcases List.mem_cons.mp hx with rfl | hx
      · exact hlv
      · cases hx
  have kb₁ : ∀ b o, base.get? b = some o → h₁.get? b = some o := fun b o z => hk₁ b o (hbs b o z)
  have X1 : K.In h₁ := KI.keeps kb₁
  have he₁ := hk₁ _ _ he
  obtain ⟨oD, hD1, hD2⟩ := inD X1
  obtain ⟨mb, hmb, hbb⟩ := Mo.blt
  refine ks_wpAt_execs_cons (ks_wpAt_Expr_any (ks_wpAt_MethodCall ?_ (Xp.ev _)) rfl (Xp.s1 _))
  refine ks_wpAt_super_base (env := ksEnv qual (xScope nms) s.heap.objs.size f (.ref cda) cc) hsu hkc (by decide) rfl (X1 _ _ hf) rfl hp rfl (X1 _ _ hcode) rfl hvs hfile Xf.top ?_
  refine ks_loadName_global rfl hsu (loadGlobal_builtin (env := ksEnv qual (xScope nms) s.heap.objs.size f (.ref cda) cc) (Mo.glob.keeps kb₁) hsup (hmb.keeps kb₁) ((hbb _ (by decide +kernel)).trans (by decide +kernel)) ⟨rfl, ?_⟩)
  refine wpAny_loadName_free rfl hkc rfl ⟨_, X1 _ _ hcel, rfl⟩ ?_
  refine wpAny_loadName_local rfl (by rw [hpa]; exact hls) hns (by rw [hpa]; rfl) ?_
  refine ks_wpAny_isType_cls hD1 hD2 ⟨rfl, ?_⟩
  refine ks_wpAny_call_super hD1 hD2 he₁ rfl (fun c z => by cases z) (looks_mroIn X1 T.sd) (fun h₂ hso k₂ => ?_)
  have k20 : ∀ b o, s.heap.get? b = some o → h₂.get? b = some o := fun b o z => k₂ b o (hk₁ b o z)
  have X2 : K.In h₂ := KI.keeps fun b o z => k20 b o (hbs b o z)
  have he₂ := k₂ _ _ he₁
  have I2 : InstAt h₂ e (HandSPX.excO C t0) C none := ⟨he₂, rfl, rfl, trivial⟩
  have hI : Looks (model prog w) h₂ (isInstance (.ref e) (.type "ValueError")) true := I2.type.andThen (looks_subIn X2 T.sv)
  have hal := T.su
  unfold ks_superIn at hal
  rw [hcl] at hal
  have hLk : Looks (model prog w) h₂ (mroOf (.ref C)) (.ref C :: bm) := fun A Q E s k q => wpAny_bind ((looks_clsIn X2 hcl) A _ E s k (wpAny_pure q))
  refine kxs_getMethod kxs_ValueError hso (looks_opaque X2 Xf.any) (l₀ := .ref C :: bm) hLk rfl X2 hal hI (ks_ne X2 I2 hcl) (by decide) ?_
  have hu : (h₂.push (kxs_mw "ValueError.__init__" e)).get? h₂.objs.size = some (kxs_mw "ValueError.__init__" e) := Heap.get?_push_at rfl rfl
  have k₃ : ∀ b o, s.heap.get? b = some o → (h₂.push (kxs_mw "ValueError.__init__" e)).get? b = some o := fun b o z => Heap.get?_push_of_some _ (k20 b o z)
  have kns : ∀ b o, h₁.get? b = some o → (h₂.push (kxs_mw "ValueError.__init__" e)).get? b = some o := fun b o z => Heap.get?_push_of_some _ (k₂ b o z)
  have hns₃ := hns.keeps kns
  have X3 : K.In (h₂.push (kxs_mw "ValueError.__init__" e)) := KI.keeps fun b o z => k₃ b o (hbs b o z)
  refine kxs_callWith (i := "ValueError.__init__") (x := e) rfl (evalArgs_plain ?_)
  have FB := F.excBase_ValueError
  have FC := FB.toExcCallFacts
  refine Calls.spliced_cons (wpAny_Name (wpAny_loadName_local rfl hlv hns₃ rfl ?_))
  refine Calls.spliced_nil ⟨hu, wpAny_call (codeAny_of_tree ?_)⟩
  have hC₃ := X3 _ _ hC
  have he₃ := k₃ _ _ he
  show wpAny _ _ (callAny (.ref h₂.objs.size) ⟨[u], []⟩) _ _ _
  simp only [callAny]; refine wpAny_bind (wpAny_load hu ?_)
  simp only [kxs_mw, show ((Value.type "method-wrapper" == Value.type "method") || (Value.type "method-wrapper" == Value.type "builtin_function_or_method") || (Value.type "method-wrapper" == Value.type "method-wrapper")) = true by decide, if_true]
  refine KFB.if_so (by decide) (wpAny_bind (check_bound_init FC hC₃ he₃ rfl (wpAny_bind (wpAny_pure (wpAny_pure ⟨plainId_quiet FB.init.plain _, codeAny_builtin FB.initEntry ?_⟩)))))
  refine exc_init_tree (cls := .ref C) (t0 := t0) (dv := none) (c2 := .none) (c3 := .none) (b4 := .bool false) he₃ (by rw [sizeLine_eq]; exact Nat.le_of_ble_eq_true rfl) (fun h₄ k₄ he₄ _ => ?_)
  have kk : ∀ b o, b ≠ e → s.heap.get? b = some o → h₄.get? b = some o := fun b o n z => k₄ b o n (k₃ b o z)
  have neb : ∀ b o, base.get? b = some o → b ≠ e := fun b o z q => by rw [q, heb] at z; cases z
  have X4 : K.In h₄ := KI.keeps fun b o z => kk b o (neb b o z) (hbs b o z)
  have hns₄ : h₄.Ns s.heap.objs.size fun x => List.lookup x [(Str.ofString "self", Value.ref e), (Str.ofString "value", u)].reverse := by
    obtain ⟨oL, es, ep, hL, r⟩ := hns₃
    exact ⟨oL, es, ep, k₄ _ _ (Nat.ne_of_gt (Heap.lt_size he)) hL, r⟩
  refine ks_wpAt_execs_cons (ks_wpAt_Assign_Attr ?_ (Xp.s2 _))
  refine wpAt_of_wpAny (wpAny_Name (wpAny_loadName_local rfl hlv hns₄ rfl (wpAny_Name (wpAny_loadName_local rfl hls hns₄ rfl ?_))))
  refine set_plain X4 (ox := excRec (.ref C) (h₂.push (kxs_mw "ValueError.__init__" e)).objs.size none .none .none (.bool false)) (od := none) ⟨he₄, rfl, rfl, trivial⟩ T.ox.sa ?_
  refine HandSPX.exc_osa X4 he₄ hcl (show HandSPX.refsVE (.ref C :: bm) = true from hbm) rfl T.nv (fun h₅ tk dx k₅ hdx dne he₅ hn₅ => ?_)
  have hsz : s.heap.objs.size ≤ dx := Nat.le_trans (Nat.le_of_lt hns₄.lt) hdx
  refine wpAt_of_wpAny (wpAny_execs_nil (h h₅ _ _ dx (fun b o n z => k₅ b o n (kk b o n z)) hsz dne he₅ hn₅))
end
end Fw

/-! Fx2: the promise of __init__. -/
namespace Fw
open PySem PySem.Spec PyProof.Rows L2

def spI (K : PySem.W.Frag) (D : Addr) : Sp := fun vs H Q _ => ∃ a C v, vs = [.ref a, v] ∧ XcC K D C ∧ H a = some (exo a C none) ∧
  ∀ dx, H dx = none → dx ≠ a → Q .non (upd (upd H dx (exd dx [("value", v)])) a (exo a C (some dx)))

section
variable {P : Program} {w : World} {K : PySem.W.Frag} {mg : Str → Option Value} {base : Heap} {f cc cda D : Addr} {qual : Str} {params : Arguments} {nms : List (Str × NameKind)} {pl : Sem Bool} {p0 p1 p2 p3 p4 p5 p6 p7 p8 p9 : Pos} {kV doc pm ct : Value} {an : Option Addr}
theorem init_ok {k : Nat} {CX : CXT} (Xf : XcF P K f cc cda D qual params (xBody p0 p1 p2 p3 p4 p5 p6 p7 p8 p9) (xScope nms) kV doc pm ct an) (Xp : XcP f cc cda qual nms pl p0 p1 p2 p3 p4 p5 p6 p7 p8 p9) (hsup : mg "super" = none)
    (hcell : ∀ x ∈ nms, x.2 ≠ .cell) (hls : nms.lookup ("self" : Str) = some .local) (hlv : nms.lookup ("value" : Str) = some .local)
    (hsu : nms.lookup ("super" : Str) = some .globalImplicit) (hkc : nms.lookup ("__class__" : Str) = some .free) (hpar : ∃ ar, (params.posonlyargs ++ params.args).head? = some ar ∧ ar.arg = "self") :
    FnOk P w K mg base CX (k + 1) f (PySem.W.ksFn "__init__" qual params (xBody p0 p1 p2 p3 p4 p5 p6 p7 p8 p9) (xScope nms) .none kV doc pm an (.ref cda) ct cc) ["self", "value"] (spI K D) := by
  refine ⟨fun vs H Q E ⟨a, C, v, e, _⟩ => by rw [e]; rfl, fun A outer s H args us vs Q E hr e0 hb hv ⟨a, C, v, ev, T, ea, q⟩ => ?_⟩
  subst ev
  cases hv with
  | cons ra hv =>
  cases hv with
  | @cons _ u _ us rv hv =>
  cases hv
  cases ra
  obtain ⟨t0, he⟩ := exo_at e0.hok ea
  have heb : base.get? a = none := by
    cases z : base.get? a with
    | none => rfl
    | some o => rw [(e0.bs a o z).2] at ea; cases ea
  refine init_run Xf T Xp e0.mod (fun b o z => (e0.bs b o z).1) hsup he heb (by have := hr.dp; omega) hb hcell hls hlv hsu hkc hpar (fun h' tk' t1 dx k hdx dne hx hn => ?_)
  have hnd : H dx = none := e0.hok.fresh hdx
  have nd : ∀ {b : Addr} {o : Obj}, s.heap.get? b = some o → b ≠ dx := fun {b o} q => Nat.ne_of_lt (Nat.lt_of_lt_of_le (Heap.lt_size q) hdx)
  have na : ∀ {b : Addr}, H b = none → b ≠ a := fun {b} n z => by rw [z, ea] at n; cases n
  refine ⟨.non, _, rfl, e0.bare, ⟨fun b o q n _ _ => k b o (na n) q, fun b o q n _ _ => ⟨o.slots, k b o (na n) q⟩, fun b o q n _ => by rw [upd_ne (na n), upd_ne (nd q)]; exact n, fun b o q _ => ?_,
    fun b xs q => by rw [upd_ne (at_ne ea q exo_tup), upd_ne (ne_of_none q hnd)]; exact q, fun b o v q => by rw [upd_ne (at_ne ea q exo_frz), upd_ne (ne_of_none q hnd)]; exact q,
    fun b ps q => ⟨#[], by rw [upd_ne (at_ne ea q exo_tbl), upd_ne (ne_of_none q hnd), q]; simp⟩⟩, fun b o q => ?_, rfl, q dx hnd dne⟩
  · by_cases hb : b = a
    · exact ⟨_, by rw [hb]; exact hx⟩
    · exact ⟨o, k b o hb q⟩
  · by_cases hb : b = a
    · subst hb; rw [upd_same] at q; cases q; exact exo_ok hx
    · rw [upd_ne hb] at q
      by_cases hd : b = dx
      · subst hd; rw [upd_same] at q; cases q
        exact exd_ok hn (relO_put (fs := []) rv fun g => True.intro)
      · rw [upd_ne hd] at q
        refine (e0.hok b o q).stay (fun c v hc z => k c v ?_ z) (fun c hc => by rw [upd_ne (at_ne ea hc exo_own), upd_ne (ne_of_none hc hnd)]; exact hc) (fun c xs hc => by rw [upd_ne (at_ne ea hc exo_tup), upd_ne (ne_of_none hc hnd)]; exact hc)
        rcases hc with hc | hc
        · rw [hc]; exact hb
        · exact at_ne ea hc exo_own
end
end Fw

/-! Fx3: exceptions raised, asked, read. -/
namespace Fw
open PySem PySem.Spec PyProof.Rows L2

/-- which class is under which -/
def xsub (c D : Str) : Bool := c == D || D == "OverlapsError"
/-- the module's exceptions -/
structure XK (P : Program) (w : World) (K : PySem.W.Frag) (mg : Str → Option Value) (base : Heap) (D fI : Addr) (fdI : FuncData) (ns : List Str) : Prop where
  ok : FnOk P w K mg base (L2.CX P w) 1 fI fdI ["self", "value"] (spI K D)
  bd : Binds K fdI ["self", "value"] []
  bdk : ∀ (s : Shared) (self u : Value), BindsTo s fdI ⟨[self], [("value", u)]⟩ [("self", self), ("value", u)]
  tI : PySem.W.typeIn K (.ref fI) = some (.type "function")
  all : ∀ C c, clsNm K C = some c → c ∈ ns → XcC K D C ∧ PySem.W.findIn K (.ref C) "__init__" = some (some (.ref fI)) ∧ XfC K C ∧ ExcC K C ∧ PySem.W.kitOne K (.ref C) (.type "ValueError") = some true
  is : ∀ C c C' c', clsNm K C = some c → c ∈ ns → clsNm K C' = some c' → c' ∈ ns → PySem.W.kitOne K (.ref C) (.ref C') = some (xsub c c') ∧ PySem.W.exmOne K (.ref C) (.ref C') = some (xsub c c')
/-- a class by its name -/
def ClsAt (K : PySem.W.Frag) (mg : Str → Option Value) (x : Str) : Prop := ∃ C, mg x = some (.ref C) ∧ clsNm K C = some x

def sRaise (c : Str) (m : M Res) : MS := fun en => (eVal m en).then fun d en1 => .exc c d en1
theorem cx_none {P : Program} {w : World} {X : Cx} (eP : X.prog = P) (ew : X.w = w) : Passes (L2.CX P w) X (fun _ _ _ => False) := fun pins σ H s e s' I c => by
  obtain ⟨_, _, _, _, _, _, _, _, _, _, _, _, z⟩ := c
  exact z.elim
section
variable {X : Cx} {W : WX} {fx : Nat} {m : M Res} {e : Expr} {pos pos' p : Pos} {x : Str} {D fI : Addr} {fdI : FuncData} {ns : List Str}
theorem rs_raise (hc : X.calm = true) (tk : Takes X W) (hr : Room 2 X.A) (T : XK X.prog X.w X.K X.mg X.base D fI fdI ns) (hx : ClsAt X.K X.mg x) (he : PE X e (tE X.K X.mg W m)) (hn : x ∈ ns := by decide) (hg : Gl X x := by rfl)
    (hdb : (x == ("__debug__" : Str)) = false := by decide) (hs : starEach [e] X.env = (false, eval e X.env) :: starEach [] X.env := by rfl) (hpl : (backTo pos (starEach [] X.env)).any (·.1) = false := by rfl) :
    PS X (.Raise (some (.Call (.Name x p) [e] [] pos)) none pos') (tS X.K X.mg W fx (sRaise x m)) := by
  obtain ⟨C, hm, hC⟩ := hx
  obtain ⟨TC, iC, _, _, _⟩ := T.all C x hC hn
  refine PS.imp (ps_raise hc tk (pmk_oex (dvs := []) (ds := []) TC.ox iC T.tI T.ok hr T.bd .nil (cx_none rfl rfl) hg hm (pa_cons he pa_nil hs) hdb hs hpl)) fun Ds σ H ⟨F, en, R, h⟩ => ⟨F, en, R, (valdS h).imp fun F1 H1 en1 r0 _ q v hv fr => ?_⟩
  obtain ⟨F2, en2, d, R2, p2, rv, q⟩ := q v hv fr
  refine ⟨by show 1 ≤ 1000; decide, fun a na => ⟨a, C, v, rfl, TC, upd_same, fun dx ndx dne => ⟨rfl, dx, _, upd_same, by rw [upd_ne dne, upd_same], ?_, ?_⟩⟩⟩
  · rw [upd_ne dne] at ndx; exact ndx
  · rw [upd_ne dne] at ndx
    have hH : upd (del (upd (upd (upd H1 a (exo a C none)) dx (exd dx [("value", v)])) a (exo a C (some dx))) a) dx (.xd [("value", v)]) = upd H1 dx (.xd [("value", v)]) := by
      funext b
      by_cases hb : b = dx
      · subst hb; rw [upd_same, upd_same]
      · rw [upd_ne hb, upd_ne hb]
        by_cases ha : b = a
        · subst ha; rw [del_same, na]
        · rw [del_ne ha, upd_ne ha, upd_ne hb, upd_ne ha]
    have g := grow_frz (o := .xd [("value", v)]) R2.sub ndx
    have key := q (.ref C) (some dx) σ _ (upd H1 dx (.xd [("value", v)])) (R2.grow g) g.post rfl ⟨C, dx, v, hC, rfl, rfl, upd_same, Rep.mono g.sub _ _ rv⟩
    rw [← hH] at key
    exact key
end
end Fw

/-! Fx4: an exception that is caught is held from then on. -/
namespace Fw
open PySem PySem.Spec PyProof.Rows L2
section
variable {X : Cx} {pins : List (Addr × Obj)} {σ : St} {H : Hp} {s : Shared}
/-- an object that nobody knew is tracked from now on -/
theorem Inv.track {a : Addr} {o : HO} (I : Inv X pins σ H s) (na : H a = none) (n0 : X.s_0.heap.get? a = none) (nL : a ≠ X.env.locals) (nC : ∀ x c, X.env.cells.lookup x = some c → a ≠ c) (np : ∀ p ∈ X.pn ++ pins, p.1 ≠ a)
    (new : ObjOk X.prog X.w (upd H a o) s.heap a o) : Inv X pins σ (upd H a o) s := by
  have ne : ∀ {b : Addr} {u : HO}, H b = some u → b ≠ a := fun {b u} e => ne_of_none e na
  have n1 : ∀ {b : Addr} {u : Obj}, X.s_0.heap.get? b = some u → b ≠ a := fun {b u} e z => by rw [z, n0] at e; cases e
  refine ⟨I.ok, I.os, I.bare, ⟨I.base.keep, I.base.slot, fun b u e n hx => ?_, I.base.there, fun b xs e => ?_, fun b u v e => ?_, fun b ps e => ?_⟩, I.loc, I.cell, ?_, fun x c e => ?_, fun p hp => ?_, fun b u e => ?_, I.len⟩
  · rw [upd_ne (n1 e)]; exact I.base.free b u e n hx
  · have q := I.base.tups b xs e; rw [upd_ne (ne q)]; exact q
  · have q := I.base.frzs b u v e; rw [upd_ne (ne q)]; exact q
  · obtain ⟨m, q⟩ := I.base.tbls b ps e; exact ⟨m, by rw [upd_ne (ne q)]; exact q⟩
  · rw [upd_ne (Ne.symm nL)]; exact I.free
  · rw [upd_ne (Ne.symm (nC x c e))]; exact I.freeC x c e
  · obtain ⟨h1, h2, h3⟩ := I.pin p hp; exact ⟨h1, by rw [upd_ne (np p hp)]; exact h2, h3⟩
  · by_cases hb : b = a
    · subst hb; rw [upd_same] at e; cases e; exact new
    · rw [upd_ne hb] at e
      exact (I.hok b u e).stay (fun c v _ q => q) (fun c q => by rw [upd_ne (ne q)]; exact q) fun c xs q => by rw [upd_ne (ne q)]; exact q
theorem xo_ok {P : Program} {w : World} {H : Hp} {h : Heap} {a C dx : Addr} {oe : Obj} {vs : Array Value} (e : h.get? a = some oe) (hz : Zc (.ref C) (some dx) oe) (hd : oe.data = .fields vs) : ObjOk P w H h a (xo a C dx) :=
  ⟨⟨oe, vs, e, hz.1, hz.2, hd⟩, ⟨oe, e⟩, fun _ _ ⟨o, v, q, r⟩ k => ⟨o, v, k o q, r⟩⟩
theorem Inv.inSuite (I : Inv X pins σ H s) (a : Addr) : Inv (X.suite a (X.pn ++ pins)) [] σ H s :=
  ⟨I.ok.suite _ _, I.os, I.bare, I.base, I.loc, I.cell, I.free, I.freeC, fun p hp => I.pin p (by rw [List.append_nil] at hp; exact hp), I.hok, I.len⟩
theorem Inv.outSuite {a : Addr} {pn' : List (Addr × Obj)} (I : Inv (X.suite a (X.pn ++ pins)) pn' σ H s) (ok : X.Ok) : Inv X pins σ H s :=
  ⟨ok, I.os, I.bare, I.base, I.loc, I.cell, I.free, I.freeC, fun p hp => I.pin p (List.mem_append_left _ hp), I.hok, I.len⟩
end

/-- the wish of the body: the exception is held -/
def wKp (K : PySem.W.Frag) (c : Value) (i : Nat) (ts : TS) (Wout : WX) (D : Ends) : WX := fun cls d σ H =>
  ∃ b, PySem.W.exmOne K cls c = some b ∧ (b = true → ∃ C dx, cls = .ref C ∧ d = some dx ∧ ∀ a, H a = none → ts { nx := fun σ' H' => D.nx (σ'.set i none) H', rt := D.rt, bk := fun σ' H' => D.bk (σ'.set i none) H', ct := fun σ' H' => D.ct (σ'.set i none) H' } (σ.set i (some (.ref a))) (upd H a (xo a C dx))) ∧
    (b = false → Wout cls d σ H)

section
variable {X : Cx} {x n : Str} {c : Value} {i : Nat} {body suite : List Stmt} {b₀ : Stmt} {np pos pos' : Pos} {tb : WX → TS} {ts : TS} {Wout : WX}
theorem ps_try_keep (hex : X.ex = []) (hs : X.stack = X.env :: X.outer) (hf : X.env.frame = some X.env.locals) (hN : X.N.Nodup) (hi : X.N[i]? = some n) (hln : X.env.kindOf n = some .local) (hc : Names X x c) (tk : Takes X Wout)
    (hb : ∀ (W : WX) (pn : List (Addr × Obj)) (xe : Value → Shared → Prop), Takes (X.tr pn xe) W → PassesOwn (model X.prog X.w) X.A X.env xe → PSs (X.tr pn xe) body (tb W))
    (hsu : ∀ (a : Addr) (pn : List (Addr × Obj)), PSs (X.suite a pn) (b₀ :: suite) ts) :
    PS X (.Try body [.ExceptHandler (some (.Name x np)) (some n) (b₀ :: suite) pos'] [] [] pos) (fun D σ H => tb (wKp X.K c i ts Wout D) D σ H) := by
  refine ⟨fun pins s σ H D I h => ?_⟩
  have ok := I.ok; have hfr : X.A.frames = some (X.env :: X.outer) := by rw [ok.frames, hs]
  have hloc : Loc X.env.scope n := .inl hln
  refine wpAny_Try_except (wpAny_mono ((hb (wKp X.K c i ts Wout D) (X.pn ++ pins) (fun e s₁ => wpAny (model X.prog X.w) X.A (noteFrame e X.env) (fun _ s₂ => wpAny (model X.prog X.w) X.A (setFlight e none) (fun _ s₃ =>
    wpAny (model X.prog X.w) X.A (handleBy e X.env [.ExceptHandler (some (.Name x np)) (some n) (b₀ :: suite) pos']) (SP X pins D) X.xe s₃) X.xe s₂) X.xe s₁) (fun u s' xx => ?_) PassesOwn.looking).run [] s σ H D (I.toTry _) h) (fun f s1 hsp => ?_) (fun e s1 he => he))
  · obtain ⟨a, B, sI, pins', σ', H', cls, d, rfl, J', nb, up, sky, na, os, ag, b, hb1, hyes, hno⟩ := xx
    have J : Inv X pins σ' H' sI := J'.ofTry ok; have sky' : Sky B (X.env :: X.outer) a (Zc cls d) X.env.locals s'.heap := by rw [← hs]; exact sky
    show wpAny (model X.prog X.w) X.A (noteFrame (.ref a) X.env) _ _ _
    refine Sky.land Zc.steady hfr hf sky' fun h3 fl3 up3 => ?_
    have J3 : Inv X pins σ' H' { s' with heap := h3 } := J.landed nb fl3.1 (up.trans up3) os ag
    obtain ⟨oe3, vs3, he3, hz3, hd3⟩ := fl3.there
    have notFr : ∀ {h : Heap} {o : Obj} {vs : Array Value}, h.FunFrames B (X.env :: X.outer) → h.get? a = some o → o.data = .fields vs → a ∉ frs (X.env :: X.outer) := fun {h o vs} ff e dd hm => by
      obtain ⟨_, o', e', hnf⟩ := ff.mem hm; rw [e] at e'; cases e'; exact hnf _ dd
    have nfr := notFr fl3.2.2.1 he3 hd3
    have nL : a ≠ X.env.locals := fun z => nfr (List.mem_filterMap.mpr ⟨X.env, List.mem_cons_self, by rw [hf, z]⟩)
    have nB : B.get? a = none := fl3.2.1
    have nI : sI.heap.get? a = none := by
      cases z : sI.heap.get? a with
      | none => rfl
      | some o => have q := nb a o z (by rw [hs]; exact nfr); rw [nB] at q; cases q
    have n0 : X.s_0.heap.get? a = none := by
      cases z : X.s_0.heap.get? a with
      | none => rfl
      | some o => obtain ⟨o', q⟩ := J.base.there a o z (by rw [hex]; exact fun y => nomatch y); rw [nI] at q; cases q
    have nC : ∀ y k, X.env.cells.lookup y = some k → a ≠ k := fun y k e z => by
      obtain ⟨v, o, q, _⟩ := J.cell y k e; rw [← z, nI] at q; cases q
    have np' : ∀ p ∈ X.pn ++ pins, p.1 ≠ a := fun p hp z => by
      have q := (J.pin p hp).1; rw [z, nI] at q; cases q
    have S3 := Inv.inSuite J3 a
    refine wpAny_handleBy_cons (codeAny_handlers_test ?_) (by intro q; cases q)
    have LT : PySem.W.Looks (model X.prog X.w) h3 (typeOf (.ref a)) cls := fun A Q E s k q => wpAny_typeOf_ref (k _ _ he3) (by rw [hz3.1]; exact q)
    have LM := PySem.W.exm_one (M := model X.prog X.w) (J3.kIn) LT hb1
    have test : ∀ {Q : Value → Shared → Prop} {E : Value → Shared → Prop}, Q c { s' with heap := h3 } → wpAny (model X.prog X.w) (X.A.mark (some (.ref a))) (eval (.Name x np) X.env) Q E { s' with heap := h3 } := fun {Q E} q => by
      obtain ⟨hg, hdbg, hm | ⟨hm, hv, hnn⟩⟩ := hc
      · exact ld_glob (X := X.suite a (X.pn ++ pins)) S3 hg hm q hdbg
      · exact ld_blt (X := X.suite a (X.pn ++ pins)) S3 hg hm hv q hnn hdbg
    refine test (LM.here ?_)
    cases b with
    | true =>
      obtain ⟨C, dx, ec, ed, hy⟩ := hyes rfl
      subst ec ed
      refine codeAny_handlers_suite_as (HandSPX.lands_againZ fl3 fun h4 fl4 up4 => ?_)
      have J4 : Inv X pins σ' H' { s' with heap := h4 } := J.landed nb fl4.1 ((up.trans up3).trans up4) os ag
      obtain ⟨oe4, vs4, he4, hz4, hd4⟩ := fl4.there
      have S4 := Inv.inSuite (Inv.track (o := xo a C dx) J4 na n0 nL nC np' (xo_ok he4 hz4 hd4)) a
      refine store_ok (X := X.suite a (X.pn ++ pins)) (v := .ref a) S4 hN hi hloc rfl (fun s5 S5 => ?_) (.inr hln)
      refine wpAny_mono ((hsu a (X.pn ++ pins)).run [] s5 _ _ _ S5 (hy a na)) (fun f s6 hsp => ?_) (fun _ _ z => False.elim z)
      have end_ : ∀ {σ6 : St} {H6 : Hp} {Q : Shared → Prop}, Inv (X.suite a (X.pn ++ pins)) [] σ6 H6 s6 → (∀ s7, Inv X pins (σ6.set i none) H6 s7 → Q s7) →
          wpAny (model X.prog X.w) X.A (do bindName X.env n .none; unbindBehindTheSuite X.env n pos') (fun _ s7 => Q s7) X.xe s6 := fun {σ6 H6 Q} S6 hq => gone_ok (Inv.outSuite S6 ok) hN hi hln hq
      cases f with
      | next => obtain ⟨σ6, H6, S6, q6⟩ := hsp; exact end_ S6 fun s7 J7 => ⟨_, _, J7, q6⟩
      | brk => obtain ⟨σ6, H6, S6, q6⟩ := hsp; exact end_ S6 fun s7 J7 => ⟨_, _, J7, q6⟩
      | cont => obtain ⟨σ6, H6, S6, q6⟩ := hsp; exact end_ S6 fun s7 J7 => ⟨_, _, J7, q6⟩
      | ret u => obtain ⟨v6, σ6, H6, S6, r6, q6⟩ := hsp; exact end_ S6 fun s7 J7 => ⟨_, _, _, J7, r6, q6⟩
    | false =>
      show wpAny _ X.A (handleBy (.ref a) X.env []) _ _ _
      refine wpAny_handleBy_nil ?_
      obtain ⟨k1, k2, k3, oe, vs, T, oT, ts', he, hz, hd, h1, hr⟩ := id fl3
      unfold PySem.passOn
      refine wpAny_bind (wpAny_field he hd h1 ?_)
      rw [if_neg (show ¬ ((Value.ref T == Value.none) = true) from by simp)]
      have fin : wpAny (model X.prog X.w) X.A (setFlight (.ref a) X.env.frame) (fun _ s4 => wpAny (model X.prog X.w) X.A (throw (.ref a) : Sem Flow) (SP X pins D) X.xe s4) X.xe { s' with heap := h3 } := by
        rw [hf]
        exact HandSPX.setFlight_upZ fl3 fun h4 hh4 up4 => wpAny_throw (tk _ _ ⟨a, B, sI, pins, σ', H', cls, d, rfl, J, nb, (up.trans up3).trans up4, .inr (.inr (by rw [hs]; exact hh4)), na, os, ag, hno rfl⟩)
      first
        | exact wpAny_bind (wpAny_pure (wpAny_bind fin))
        | exact wpAny_bind fin
  · cases f with
    | next => obtain ⟨σ', H', J', q⟩ := hsp; exact wpAny_execs_nil ⟨σ', H', J'.ofTry ok, q⟩
    | brk => obtain ⟨σ', H', J', q⟩ := hsp; exact ⟨σ', H', J'.ofTry ok, q⟩
    | cont => obtain ⟨σ', H', J', q⟩ := hsp; exact ⟨σ', H', J'.ofTry ok, q⟩
    | ret u => obtain ⟨v, σ', H', J', r, q⟩ := hsp; exact ⟨v, σ', H', J'.ofTry ok, r, q⟩
end
end Fw

/-! Fx5: what an exception is, its value, the try. -/
namespace Fw
open PySem PySem.Spec PySem.W PySem.Calls PyProof.Rows
section
variable {prog : Program} {w : World} {A : Around} {E : Value → Shared → Prop} {s : Shared} {K : Frag} {x D C : Addr} {ox : Obj} {od : Option Obj}
theorem find_dat {name : Str} {a g : Value} (hc : (clsIn K C).isSome = true) (ha : findIn K (.ref C) name = some (some a)) (hg : specialIn K a "__get__" = some (some g)) (ht : takesIn K a = some true) : findObj K C od name = some (.bind g a) := by
  obtain ⟨cd, hc⟩ := Option.isSome_iff_exists.mp hc
  unfold findObj; rw [hc, Option.bind_some, ha, Option.bind_some]; simp [hg, ht]
theorem cls_asked {Q : Option Value → Shared → Prop} (T : L2.ExcC K D) (X : K.In s.heap) (I : InstAt s.heap x ox D od) (h : Q (some (.ref D)) { s with toks := s.toks + 1 }) : wpAny (model prog w) A (getAttr? (.ref x) "__class__") Q E s := by
  have hf : findObj K D od "__class__" = some (.bind (.builtin "getset_descriptor.__get__") (.builtin "object.__class__")) := find_dat (by obtain ⟨cd, hc, _⟩ := any_some T.hd; rw [hc]; rfl) T.ha T.hn T.ht
  obtain ⟨hp, g, d, t, os⟩ := s
  have L0 := I.type (M := model prog w); have L1 := looks_findIn (M := model prog w) X T.hg; have L2 := looks_findIn (M := model prog w) X T.hk; have L3 := looks_find (M := model prog w) X I hf
  have sub : Looks (model prog w) hp (isInstance (.ref x) (.type "BaseException")) true := L0.andThen (looks_subIn X T.hs)
  have h0 : (false && onTheHeap (Value.builtin "BaseException.__getattribute__")) = false := rfl
  have h2 : (Value.builtin "BaseException.__getattribute__" == Value.builtin "object.__getattribute__") = false := by decide +kernel
  have h1 : (onTheHeap (Value.ref D) && Value.builtin "BaseException.__getattribute__" == Value.builtin "object.__getattribute__") = false := by rw [h2]; rfl
  unfold getAttr? getAttrBy? getAttrBy; refine wpAny_bind (wpAny_mkText (wpAny_bind (wpAny_attempt (wpAny_holding (wpAny_bind (L0.at (wpAny_bind (L1.at ?_))))))))
  show wpAny _ _ (if (onTheHeap (Value.ref D) && (Value.builtin "BaseException.__getattribute__" == Value.builtin "object.__getattribute__")) = true then _ else _) _ _ _; rw [h1, if_neg Bool.false_ne_true]
  unfold getAttrByItsOwn hookBefore; refine wpAny_bind ?_; rw [if_pos (show onTheHeap (Value.ref D) = true from rfl)]; refine L2.at (wpAny_bind (wpAny_attempt (wpAny_holding ?_)))
  unfold callGetattribute; rw [h0, if_neg Bool.false_ne_true]; unfold boundAndCalled; rw [PySem.F.excAttr_ValueError.ga.bind (.ref x)]; refine wpAny_bind (wpAny_pure ?_)
  show wpAny _ _ (call (.builtin "BaseException.__getattribute__") [.ref x, .str "__class__" t]) _ _ _; refine wpAny_call (codeAny_call_builtin PySem.F.excAttr_ValueError.ga.plain PySem.F.entry_bexc_ga ?_)
  refine @check_slot (model prog w) _ _ ⟨hp, g, d, t + 1, os⟩ "BaseException.__getattribute__" "BaseException" "__getattribute__" (.ref x) [.str "__class__" t] [] _ (by decide +kernel) (by decide +kernel) sub (PySem.F.args_bexc_ga (.ref x) (.str "__class__" t)) ?_
  unfold Builtin.«object.__getattribute__»; refine wpAny_bind (wpAny_of_eq (a := ((Value.ref x : Value), [Value.str "__class__" t])) (by first | rfl | (simp only [slotArgs]; rfl)) ?_); refine wpAny_bind (wpAny_pure (wpAny_bind (L0.at (wpAny_bind (L3.at ?_)))))
  show wpAny _ _ (holding [Value.builtin "object.__class__"] (call (.builtin "getset_descriptor.__get__") [.builtin "object.__class__", .ref x, .ref D]) >>= ret) _ _ _
  refine wpAny_bind (wpAny_holding (wpAny_call (class_get (s := ⟨hp, g, d, t + 1, os⟩) (ox := ox) (od := od) X I T.hm (wpAny_pure ?_))))
  show wpAny _ _ (handedOut (.ref D)) _ _ _; rw [handedOut_of (v := .ref D) rfl]
  first | exact wpAny_pure (wpAny_pure h) | exact wpAny_pure h | exact wpAny_pure (wpAny_bind (wpAny_pure (wpAny_pure h)))
theorem kit_exo (T : L2.ExcC K D) : KitX K (.ref x) (.ref D) (fun h => ∃ ox od, InstAt h x ox D od) where
  ty := fun _ _ _ ⟨_, _, I⟩ => I.type
  it := fun _ _ X _ => by
    obtain ⟨cdD, hcD, _⟩ := any_some T.hd; unfold clsIn at hcD; split at hcD
    · rename_i c' d' cd' sl' ho; intro A' Q' E' s' k q; unfold isType loadHead; exact wpAny_bind (wpAny_loadPart (k _ _ (X _ _ ho)) (wpAny_pure q))
    · cases hcD
  ne := fun h tp dd its n sl X htp => by
    obtain ⟨cdD, hcD, _⟩ := any_some T.hd; unfold clsIn at hcD; split at hcD
    · rename_i c' d' cd' sl' ho; refine Bool.eq_false_iff.mpr fun q => ?_; have e : D = tp := Value.ref.inj (beq_iff_eq.mp q); subst e; have z := (X _ _ ho).symm.trans htp; cases z
    · cases hcD
  ca := fun X ⟨ox, od, I⟩ k => cls_asked T X I k
end
end Fw
namespace Fw
open PySem PySem.Spec PyProof.Rows L2
section
variable {X : Cx} {pins : List (Addr × Obj)} {σ : St} {H : Hp} {s : Shared}
theorem Inv.exo {a C dx : Addr} {vv : V} (I : Inv X pins σ H s) (ha : H a = some (xo a C dx)) (hd : H dx = some (.xd [("value", vv)])) :
    ∃ oe od u, PySem.W.InstAt s.heap a oe C (some od) ∧ PySem.W.lookIn "value" od = some (some u) ∧ RelV vv u := by
  obtain ⟨⟨oe, vs, ho, h1, h2, h3⟩, _⟩ := I.hok a _ ha
  obtain ⟨mA, hns, hr⟩ := I.hok dx _ hd
  obtain ⟨od, hod, hl⟩ := lookIn_ns hns
  obtain ⟨u, hu, ru⟩ := RelO.some_of (v := vv) (o := mA "value") (hr "value")
  exact ⟨oe, od, u, ⟨ho, h1, by unfold PySem.W.notCls; rw [h3] <;> rfl, by rw [h2]; exact hod⟩, by rw [hl, hu], ru⟩
def rIsX (K : PySem.W.Frag) : List V → Hp → VK → Prop := fun xs H Q => ∃ (a C dx : Addr) (vv c : V) (cv : Value) (b : Bool), xs = [.ref a, c] ∧ H a = some (xo a C dx) ∧ H dx = some (.xd [("value", vv)]) ∧ (∀ u, RelV c u → u = cv) ∧ ExcC K C ∧ PySem.W.kitOne K (.ref C) cv = some b ∧ Q (.bl b) H
theorem call_isX : CallR X (.builtin "isinstance") (rIsX X.K) := by
  intro pins s σ H xs us Q I r ⟨a, C, dx, vv, c, cv, b, ex, ha, hd, hcv, T, e, q⟩
  subst ex
  cases r with
  | cons rx rr =>
    cases rr with
    | cons rt rr =>
      cases rr; cases rx
      have ec := hcv _ rt; subst ec
      obtain ⟨oe, od, u, J, _⟩ := Inv.exo I ha hd
      exact PySem.W.kia_one (kit_exo T) I.kIn ⟨oe, some od, J⟩ e (fun z => nomatch z) fun tk => ⟨.bl b, H, I.kept (t' := tk) fun _ _ z => z, rfl, q⟩
end
/-- isinstance(e, D) -/
def eIsX (ns : List Str) (f : Str → Bool) (m : M Res) : M Res := fun en => (eOpd m en).bind fun r en1 => match vw en1 r with
  | some (.exo c d) => if ns.contains c = true then .ok (.dat (.bl (f c))) en1 else .stuck
  | _ => .stuck
/-- e.value -/
def eVle (ns : List Str) (m : M Res) : M Res := fun en => (eOpd m en).bind fun r en1 => match vw en1 r with
  | some (.exo c d) => if ns.contains c = true then .ok (.dat d) en1 else .stuck
  | _ => .stuck
section
variable {X : Cx} {W : WX} {fx : Nat} {m : M Res} {a e : Expr} {pos pos' p tp : Pos} {x tn : Str} {D fI : Addr} {fdI : FuncData} {ns : List Str} {base : Heap}
theorem vw_exo {en : En} {r : Res} {α : Type} {k : Str → Dt → Out α} {P} {F H : Hp} {σ : St} {W : WX} {mg : Str → Option Value} {K : PySem.W.Frag}
    (q : OutOk K mg W F H en σ (match vw en r with | some (.exo c d) => if ns.contains c = true then k c d else .stuck | _ => .stuck) P) : ∃ c d, vw en r = some (.exo c d) ∧ c ∈ ns ∧ OutOk K mg W F H en σ (k c d) P := by
  cases z : vw en r with
  | none => rw [z] at q; exact q.elim
  | some d =>
    rw [z] at q
    cases d with
    | exo c d =>
      dsimp only at q
      by_cases hc : ns.contains c = true
      · rw [if_pos hc] at q; exact ⟨c, d, rfl, by simpa using hc, q⟩
      · rw [if_neg hc] at q; exact q.elim
    | _ => exact q.elim
theorem re_isX_any {te : TE} {f : Str → Bool} {c : V} {cv : Value} (T : XK X.prog X.w X.K X.mg base D fI fdI ns) (hm : X.mg "isinstance" = none) (ha : PE X a (tE X.K X.mg W m)) (hn : PE X (.Name tn tp) (tC c)) (hcv : ∀ u, RelV c u → u = cv)
    (hk : ∀ C n, clsNm X.K C = some n → n ∈ ns → PySem.W.kitOne X.K (.ref C) cv = some (f n)) (hg : Gl X "isinstance" := by rfl)
    (he : starEach [a, .Name tn tp] X.env = [(false, eval a X.env), (false, eval (.Name tn tp) X.env)] := by rfl) :
    PE X (.Call (.Name "isinstance" p) [a, .Name tn tp] [] pos) (tE X.K X.mg W (eIsX ns f m)) :=
  PE.imp (pe_callB call_isX hg hm PyProof.Rows.boot_isinstance (pa_cons ha (pa_cons hn pa_nil (by rfl)) (by rw [he]; rfl)) (by decide) (by decide) (by rw [he]; rfl) (by rfl)) fun σ H Q ⟨F, en, R, h⟩ => ⟨F, en, R, (opd h).imp fun F1 H1 en1 r0 _ q v hv fr => by
    obtain ⟨F2, r, R2, p2, n2, hv2, q⟩ := q v hv fr
    obtain ⟨n, d, z, hnn, q⟩ := vw_exo q
    obtain ⟨a', C, dx, vv, ev, hC, h1, h2, rv⟩ := hv2.vw R2 z
    refine ⟨a', C, dx, vv, c, cv, f n, by rw [ev], R2.sub _ _ h1, R2.sub _ _ h2, hcv, (T.all C n hC hnn).2.2.2.1, hk C n hC hnn, ?_⟩
    exact q F2 H1 R2 .refl (.bl (f n)) rfl trivial⟩
theorem re_isX (T : XK X.prog X.w X.K X.mg base D fI fdI ns) (hx : ClsAt X.K X.mg tn) (hm : X.mg "isinstance" = none) (ha : PE X a (tE X.K X.mg W m)) (hn : tn ∈ ns := by decide) (hg : Gl X "isinstance" := by rfl) (hgt : Gl X tn := by rfl) (htd : (tn == ("__debug__" : Str)) = false := by decide)
    (he : starEach [a, .Name tn tp] X.env = [(false, eval a X.env), (false, eval (.Name tn tp) X.env)] := by rfl) :
    PE X (.Call (.Name "isinstance" p) [a, .Name tn tp] [] pos) (tE X.K X.mg W (eIsX ns (fun c => xsub c tn) m)) := by
  obtain ⟨C', hm', hC'⟩ := hx
  exact re_isX_any (te := tC (.ref C')) (c := .ref C') (cv := .ref C') T hm ha (pe_glob hgt hm' rfl htd) (fun u h => h) (fun C n h1 h2 => (T.is C n C' tn h1 h2 hC' hn).1) hg he
theorem re_isVE (T : XK X.prog X.w X.K X.mg base D fI fdI ns) (hm : X.mg "isinstance" = none) (hmt : X.mg "ValueError" = none) (ha : PE X a (tE X.K X.mg W m)) (hg : Gl X "isinstance" := by rfl) (hgt : Gl X "ValueError" := by rfl)
    (he : starEach [a, .Name "ValueError" tp] X.env = [(false, eval a X.env), (false, eval (.Name "ValueError" tp) X.env)] := by rfl) :
    PE X (.Call (.Name "isinstance" p) [a, .Name "ValueError" tp] [] pos) (tE X.K X.mg W (eIsX ns (fun _ => true) m)) :=
  re_isX_any (te := tC (.ty "ValueError")) (c := .ty "ValueError") (cv := .type "ValueError") T hm ha (pe_bltn hgt hmt (by decide +kernel) rfl (by decide) (by decide)) (fun u h => h) (fun C n h1 h2 => (T.all C n h1 h2).2.2.2.2) hg he
theorem re_vle (T : XK X.prog X.w X.K X.mg base D fI fdI ns) (ha : PE X e (tE X.K X.mg W m)) (hb : attributeBase e "value" X.env (eval e X.env) = eval e X.env := by rfl) : PE X (.Attribute e "value" pos) (tE X.K X.mg W (eVle ns m)) := by
  have key : PE X (.Attribute e "value" pos) (fun σ H Q => (tE X.K X.mg W m) σ H fun x H1 => ∃ a C dx vv, x = .ref a ∧ H1 a = some (xo a C dx) ∧ H1 dx = some (.xd [("value", vv)]) ∧ XfC X.K C ∧ PySem.W.findIn X.K (.ref C) "value" = some none ∧ Q vv H1) := by
    refine ⟨fun pins s σ H Q I h => attr_of hb (thn (ha.run pins s σ H _ I h) fun u s1 hh => ?_)⟩
    obtain ⟨x, H1, I1, rx, a, C, dx, vv, ex, h1, h2, XF, hno, q⟩ := hh
    subst ex
    obtain rfl : u = Value.ref a := rx
    obtain ⟨oe, od, u', J, hl, ru⟩ := Inv.exo I1 h1 h2
    exact HandSPX.exc_get I1.kIn J XF.ga XF.gg XF.exC (PySem.W.findObj_own XF.hdC hno rfl hl) (handed_of ru) ⟨vv, H1, I1.tok _, ru, q⟩
  refine PE.imp key fun σ H Q ⟨F, en, R, h⟩ => ⟨F, en, R, (opd h).imp fun F1 H1 en1 r0 _ q v hv fr => ?_⟩
  obtain ⟨F2, r, R2, p2, n2, hv2, q⟩ := q v hv fr
  obtain ⟨n, d, z, hnn, q⟩ := vw_exo q
  obtain ⟨a', C, dx, vv, ev, hC, h1, h2, rv⟩ := hv2.vw R2 z
  exact ⟨a', C, dx, vv, ev, R2.sub _ _ h1, R2.sub _ _ h2, (T.all C n hC hnn).2.2.1, (T.all C n hC hnn).1.nv, q F2 H1 R2 .refl vv rv trivial⟩
end
end Fw

/-! Fx6: try .. except C as e. -/
namespace Fw
open PySem PySem.Spec PyProof.Rows L2
section
variable {K : PySem.W.Frag} {mg : Str → Option Value} {W : WX} {F F1 H H1 H0 : Hp} {en en1 : En} {σ : St} {fx : Nat} {D : Ends}
theorem own_set_un {i : Nat} {b : Addr} {v : Option V} (h : Own (en.set i .un) (σ.set i v) b) : Own en σ b := by
  obtain ⟨j, fs, e1, e2⟩ := h
  by_cases hj : j = i
  · subst hj; rw [List.getElem?_set] at e1; simp at e1
  · rw [List.getElem?_set_ne (Ne.symm hj)] at e1 e2; exact ⟨j, fs, e1, e2⟩
/-- a slot is emptied -/
theorem store_un {i : Nat} {v : Option V} (R : Rel K F H en σ) : Rel K F H (en.set i .un) (σ.set i v) ∧ Post F H (Own en σ) F H (Own (en.set i .un) (σ.set i v)) := by
  refine ⟨⟨R.sub, by rw [List.length_set, List.length_set]; exact R.len, fun j s o e1 e2 => ?_, fun j k fs gs b e1 e2 e3 e4 => ?_⟩, ⟨Same.refl _, fun _ _ h _ => h, fun _ h => h, fun _ _ h => .inl h, fun b h => .inl (own_set_un h)⟩⟩
  · by_cases hj : j = i
    · subst hj; rw [List.getElem?_set] at e1; simp only [if_pos trivial] at e1
      split at e1
      · cases e1; trivial
      · cases e1
    · rw [List.getElem?_set_ne (Ne.symm hj)] at e1 e2; exact R.ok j s o e1 e2
  · by_cases hj : j = i
    · subst hj; rw [List.getElem?_set] at e1; simp at e1
    · by_cases hk : k = i
      · subst hk; rw [List.getElem?_set] at e2; simp at e2
      · rw [List.getElem?_set_ne (Ne.symm hj)] at e1 e3; rw [List.getElem?_set_ne (Ne.symm hk)] at e2 e4
        exact R.ne j k fs gs b e1 e2 e3 e4
def outOf (i : Nat) : OutS → OutS
  | .nx en => .nx (en.set i .un)
  | .brk en => .brk (en.set i .un)
  | .cont en => .cont (en.set i .un)
  | .ret r en => .ret r (en.set i .un)
  | _ => .stuck
theorem outOf_ok {i : Nat} {o : OutS} (hf : fx ≤ i) (h : SOk K mg W fx F H en σ D (outOf i o)) :
    SOk K mg (fun _ _ _ _ => False) fx F H en σ { nx := fun σ' H' => D.nx (σ'.set i none) H', rt := D.rt, bk := fun σ' H' => D.bk (σ'.set i none) H', ct := fun σ' H' => D.ct (σ'.set i none) H' } o := by
  cases o with
  | nx en' => exact fun σ' F' H' r' p' t => h _ F' H' (store_un r').1 (p'.trans (store_un r').2) ((take_set hf).trans t)
  | brk en' => exact fun σ' F' H' r' p' t => h _ F' H' (store_un r').1 (p'.trans (store_un r').2) ((take_set hf).trans t)
  | cont en' => exact fun σ' F' H' r' p' t => h _ F' H' (store_un r').1 (p'.trans (store_un r').2) ((take_set hf).trans t)
  | ret r en' =>
    intro v σ' F' H' r' p' t q
    refine h v (σ'.set i none) F' H' (store_un r').1 (p'.trans (store_un r').2) ((take_set hf).trans t) ?_
    cases r with
    | dat d => exact q
    | new ds => obtain ⟨a, xs, e, h1, h2, h3, h4, q⟩ := q; exact ⟨a, xs, e, h1, h2, fun z => h3 (own_set_un z), h4, q⟩
    | slt j => exact q
  | exc c d en' => exact h.elim
  | stuck => exact h
end
def sTry (ns : List Str) (c : Str) (i : Nat) (mb ms : MS) : MS := fun en => match mb en with
  | .exc c' d en1 => if ns.contains c' = true then (if xsub c' c = true then outOf i (ms (en1.set i (.val (.exo c' d)))) else .exc c' d en1) else .stuck
  | o => o
/-- a suite's own context -/
structure Cs (X : Cx) : Prop where
  nd : X.N.Nodup
  cl : True
section
variable {X : Cx} {W : WX} {fx k : Nat} {mb ms : MS} {body suite : List Stmt} {b₀ : Stmt} {np pos pos' : Pos} {x n : Str} {D fI : Addr} {fdI : FuncData} {ns : List Str} {base : Heap}
theorem rs_try (i : Nat) (hf : fx ≤ i) (ct : Ct X W k) (T : XK X.prog X.w X.K X.mg base D fI fdI ns) (hx : ClsAt X.K X.mg x) (hex : X.ex = []) (hs : X.stack = X.env :: X.outer) (hfr : X.env.frame = some X.env.locals)
    (hb : ∀ (W : WX) (pn : List (Addr × Obj)) (xe : Value → Shared → Prop), Ct (X.tr pn xe) W k → PSs (X.tr pn xe) body (tS X.K X.mg W fx mb))
    (hsu : ∀ (a : Addr) (pn : List (Addr × Obj)), Cs (X.suite a pn) → PSs (X.suite a pn) (b₀ :: suite) (tS X.K X.mg (fun _ _ _ _ => False) fx ms))
    (hn : x ∈ ns := by decide) (hi : X.N[i]? = some n := by rfl) (hln : X.env.scope.names.lookup n = some .local := by rfl) (hg : Gl X x := by rfl) (hdb : (x == ("__debug__" : Str)) = false := by decide) :
    PS X (.Try body [.ExceptHandler (some (.Name x np)) (some n) (b₀ :: suite) pos'] [] [] pos) (tS X.K X.mg W fx (sTry ns x i mb ms)) := by
  obtain ⟨C, hm, hC⟩ := hx
  refine PS.imp (ps_try_keep (c := .ref C) hex hs hfr ct.nd hi hln ⟨hg, hdb, .inl hm⟩ ct.tk (tb := fun W => tS X.K X.mg W fx mb) (fun W pn xe tk ps => hb W pn xe ⟨ct.calm, ct.nd, tk, ct.room, ps⟩) (fun a pn => hsu a pn ⟨ct.nd, trivial⟩)) fun Ds σ H ⟨F, en, R, h⟩ => ⟨F, en, R, ?_⟩
  unfold sTry at h
  cases z : mb en with
  | nx en' => rw [z] at h; exact h
  | brk en' => rw [z] at h; exact h
  | cont en' => rw [z] at h; exact h
  | ret r en' => rw [z] at h; exact h
  | stuck => rw [z] at h; exact h
  | exc c' d en1 =>
    rw [z] at h
    dsimp only at h
    by_cases hc : ns.contains c' = true
    · rw [if_pos hc] at h
      have hc' : c' ∈ ns := by simpa using hc
      intro cls dx σ' F' H' R' P' t ⟨C', dd, v, hC', ecls, edx, hdd, rv⟩
      refine ⟨xsub c' x, by rw [ecls]; exact (T.is C' c' C x hC' hc' hC hn).2, fun hb => ⟨C', dd, ecls, edx, fun a na => ?_⟩, fun hb => ?_⟩
      · rw [if_pos hb] at h
        have g := grow_frz (o := xo a C' dd) R'.sub na
        have R2 := R'.grow g
        have rx : Rep X.K (upd F' a (xo a C' dd)) (.exo c' d) (.ref a) := ⟨a, C', dd, v, rfl, hC', upd_same, g.sub _ _ hdd, Rep.mono g.sub _ _ rv⟩
        obtain ⟨R3, p3⟩ := store_val (i := i) R2 rx
        exact ⟨_, _, R3, outOf_ok hf ((h.bind P' t).bind (g.post.trans p3) (take_set hf))⟩
      · rw [if_neg (by rw [hb]; exact Bool.false_ne_true)] at h
        exact h cls dx σ' F' H' R' P' t ⟨C', dd, v, hC', ecls, edx, hdd, rv⟩
    · rw [if_neg hc] at h; exact h.elim
end
end Fw

/-! Fx7: the module's exceptions from its written part. -/
namespace Fw
open PySem PySem.Spec PyProof.Rows L2

def oexB (K : PySem.W.Frag) (C : Addr) : Bool := match K.lookup C with
  | some ⟨.type "type", _, .cls cd, sl⟩ => (match cd.mro, sl.toList with
    | .ref C' :: bm, [_, _, _, _, some (.builtin n), _] => C' == C && n == "ValueError.__new__" && !cd.hasDel && cd.hasDict && HandSPX.refsVE bm
    | _, _ => false)
  | _ => false
theorem oexB_ok {K : PySem.W.Frag} {C : Addr} (q : oexB K C = true) : ∃ nm q N bs bm sn sub ab col dd k0 k1 k2 k3 k5, K.lookup C = some (excClassObj nm q C N bs bm true sn sub ab col dd k0 k1 k2 k3 k5 "ValueError.__new__") ∧ HandSPX.refsVE bm = true := by
  unfold oexB at q
  split at q
  · rename_i dd cd sl ho
    split at q
    · rename_i C' bm k0 k1 k2 k3 n k5 hm hs
      simp only [Bool.and_eq_true, beq_iff_eq, Bool.not_eq_true'] at q
      obtain ⟨⟨⟨⟨rfl, rfl⟩, hdel⟩, hdict⟩, ht⟩ := q
      obtain ⟨nm, bs, mro, ns, qn, hd, sn, sub, ab, col, del⟩ := cd
      dsimp only at hm hdel hdict; subst hm hdel hdict
      have hsl : sl = #[k0, k1, k2, k3, some (.builtin "ValueError.__new__"), k5] := by obtain ⟨l⟩ := sl; simp only at hs; rw [hs]
      subst hsl
      exact ⟨nm, qn, ns, bs, bm, sn, sub, ab, col, dd, k0, k1, k2, k3, k5, ho, ht⟩
    · cases q
  · cases q
def xcB (K : PySem.W.Frag) (D fI C : Addr) : Bool :=
  oexB K C && decide (PySem.W.findIn K (.ref C) "__setattr__" = some (some (.builtin "object.__setattr__"))) && decide (PySem.W.subIn K (.ref C) (.type "BaseException") = some true) && decide (PySem.W.typeIn K (.ref C) = some (.type "type")) && PySem.W.keepIn K (.ref C) &&
  decide (PySem.W.ks_superIn K C D "__init__" = some (some (.builtin "ValueError.__init__"))) && decide (PySem.W.subIn K (.ref C) (.type "ValueError") = some true) && decide (PySem.W.mroIn K C (.ref D) = some true) && decide (PySem.W.findIn K (.ref C) "value" = some none) &&
  decide (PySem.W.findIn K (.ref C) "__init__" = some (some (.ref fI))) && xfB K C && decide (PySem.W.findIn K (.ref C) "__class__" = some (some (.builtin "object.__class__"))) && decide (PySem.W.mroIn K C (.type "object") = some true) && decide (PySem.W.kitOne K (.ref C) (.type "ValueError") = some true)
theorem xcB_ok {K : PySem.W.Frag} {D fI C : Addr} (hn : PySem.W.specialIn K (.builtin "object.__class__") "__get__" = some (some (.builtin "getset_descriptor.__get__"))) (ht : PySem.W.takesIn K (.builtin "object.__class__") = some true) (h : xcB K D fI C = true) :
    XcC K D C ∧ PySem.W.findIn K (.ref C) "__init__" = some (some (.ref fI)) ∧ XfC K C ∧ ExcC K C ∧ PySem.W.kitOne K (.ref C) (.type "ValueError") = some true := by
  unfold xcB at h
  simp only [Bool.and_eq_true, decide_eq_true_eq] at h
  obtain ⟨⟨⟨⟨⟨⟨⟨⟨⟨⟨⟨⟨⟨h1, h2⟩, h3⟩, h4⟩, h5⟩, h6⟩, h7⟩, h8⟩, h9⟩, h10⟩, h11⟩, h12⟩, h13⟩, h14⟩ := h
  have X := xfB_ok h11
  exact ⟨⟨⟨oexB_ok h1, h2, h3, h4, h5⟩, h6, h7, h8, h9⟩, h10, X, ⟨X.ga, X.gg, X.exC, X.hdC, h12, hn, ht, h13⟩, h14⟩
/-- each class with such a name is one of these -/
def xnB (K : PySem.W.Frag) (cs : List (Str × Addr)) : Bool := K.all fun p => match clsNm K p.1 with
  | some c => match cs.lookup c with | some C => C == p.1 | none => true
  | none => true
def xpB (K : PySem.W.Frag) (cs : List (Str × Addr)) : Bool := cs.all fun p => cs.all fun q => decide (PySem.W.kitOne K (.ref p.2) (.ref q.2) = some (xsub p.1 q.1)) && decide (PySem.W.exmOne K (.ref p.2) (.ref q.2) = some (xsub p.1 q.1))
theorem lookup_some {α : Type} {x : Str} : ∀ {l : List (Str × α)}, x ∈ l.map (·.1) → ∃ v, l.lookup x = some v
  | (y, w) :: l, h => by
    rw [List.lookup_cons]
    cases e : (x == y) with
    | true => exact ⟨w, rfl⟩
    | false =>
      rcases List.mem_cons.mp h with h | h
      · rw [h] at e; rw [beq_self_eq_true] at e; cases e
      · exact lookup_some h
theorem xn_at {K : PySem.W.Frag} {cs : List (Str × Addr)} (h : xnB K cs = true) {C : Addr} {c : Str} (hC : clsNm K C = some c) (hc : c ∈ cs.map (·.1)) : (c, C) ∈ cs := by
  obtain ⟨C', hl⟩ := lookup_some hc
  unfold xnB at h
  rw [List.all_eq_true] at h
  have hk : ∃ o, (C, o) ∈ K := by
    unfold clsNm PySem.W.clsIn at hC
    cases z : K.lookup C with
    | none => rw [z] at hC; cases hC
    | some o =>
      have := List.lookup_eq_some_iff.mp z
      obtain ⟨l1, l2, e, _⟩ := this
      exact ⟨o, by rw [e]; simp⟩
  obtain ⟨o, hk⟩ := hk
  have q := h _ hk
  dsimp only at q
  rw [hC] at q
  dsimp only at q
  rw [hl] at q
  have e : C' = C := by simpa using q
  rw [← e]
  exact PySem.mem_of_lookup hl
theorem xk_of {P : Program} {w : World} {K : PySem.W.Frag} {mg : Str → Option Value} {base : Heap} {D fI : Addr} {fdI : FuncData} (cs : List (Str × Addr))
    (ok : FnOk P w K mg base (L2.CX P w) 1 fI fdI ["self", "value"] (spI K D)) (bd : Binds K fdI ["self", "value"] []) (bdk : ∀ (s : Shared) (self u : Value), BindsTo s fdI ⟨[self], [("value", u)]⟩ [("self", self), ("value", u)]) (tI : PySem.W.typeIn K (.ref fI) = some (.type "function"))
    (hn : PySem.W.specialIn K (.builtin "object.__class__") "__get__" = some (some (.builtin "getset_descriptor.__get__"))) (ht : PySem.W.takesIn K (.builtin "object.__class__") = some true)
    (h1 : xnB K cs = true) (h2 : (cs.all fun p => xcB K D fI p.2) = true) (h3 : xpB K cs = true) : XK P w K mg base D fI fdI (cs.map (·.1)) :=
  ⟨ok, bd, bdk, tI, fun C c hC hc => by
    have q := List.all_eq_true.mp h2 _ (xn_at h1 hC hc)
    exact xcB_ok hn ht q, fun C c C' c' hC hc hC' hc' => by
    have q := List.all_eq_true.mp (List.all_eq_true.mp h3 _ (xn_at h1 hC hc)) _ (xn_at h1 hC' hc')
    have q := Bool.and_eq_true_iff.mp q
    exact ⟨of_decide_eq_true q.1, of_decide_eq_true q.2⟩⟩
end Fw

/-! Fx8: what is never come to; in; str. -/
namespace Fw
open PySem PySem.Spec PyProof.Rows L2
section
variable {X : Cx} {W : WX} {e tg : Expr} {k : Nat}
def eStuck : M Res := fun _ => .stuck
def iStuck : M (List Dt) := fun _ => .stuck
theorem re_never : PE X e (tE X.K X.mg W eStuck) := ⟨fun pins s σ H Q I ⟨F, en, R, h⟩ => h.elim⟩
theorem ri_never : PI X tg e (tI X.K X.mg W iStuck) := ⟨fun pins s σ H Q I ⟨F, en, R, h⟩ => h.elim⟩
def seqInts : Dt → Option (List Int)
  | .lst ds => asInts ds
  | .tup ds => asInts ds
  | _ => none
def fIn (a b : Dt) : Option Res := match a with
  | .str [s] => match b with
    | .str z => some (.dat (.bl (decide (s ∈ z))))
    | _ => none
  | .int i => (seqInts b).map fun ns => .dat (.bl (decide (i ∈ ns)))
  | _ => none
def fNotIn (a b : Dt) : Option Res := match a with
  | .str [s] => match b with
    | .str z => some (.dat (.bl (!decide (s ∈ z))))
    | _ => none
  | .int i => (seqInts b).map fun ns => .dat (.bl (!decide (i ∈ ns)))
  | _ => none
theorem inV_ints (i : Int) : ∀ ns : List Int, inV (.int i) (ns.map V.int) = decide (i ∈ ns)
  | [] => rfl
  | n :: ns => by
    have h := inV_ints i ns
    unfold inV at h ⊢
    rw [List.map_cons, List.any_cons, h]
    show (decide (n = i) || decide (i ∈ ns)) = _
    by_cases e : n = i
    · subst e; simp
    · have e' : ¬ i = n := fun z => e z.symm
      simp [e, e']
theorem seqInts_at {K : PySem.W.Frag} {F H : Hp} {b : Dt} {ns : List Int} {y : V} (s : Same F H) (hy : Vw K F H b y) (h : seqInts b = some ns) : ∃ p, y = .ref p ∧ (SqL K H p (ns.map V.int) ∨ SqT K H p (ns.map V.int)) := by
  cases b with
  | lst ds =>
    obtain ⟨a, xs, e, q, r⟩ := hy
    have hd := asInts_of h
    subst hd
    exact ⟨a, e, .inl (by rw [← reps_ints r]; exact SqL.of q)⟩
  | tup ds =>
    obtain ⟨a, xs, e, q, r⟩ := hy
    have hd := asInts_of h
    subst hd
    exact ⟨a, e, .inr (by rw [← reps_ints r]; exact Same.seqT s q)⟩
  | _ => cases h
theorem ints_flat : ∀ ns : List Int, (ns.map V.int).all flatV = true
  | [] => rfl
  | n :: ns => by rw [List.map_cons, List.all_cons, ints_flat ns]; rfl
theorem prim_in : Prim2 X (compareOp .In) fIn := by
  refine ⟨_, op_in_sign.or op_in_seq, fun F H a b x y c Q s hx hy e q => ?_⟩
  unfold fIn at e
  split at e
  · split at e
    · rename_i s' _ z
      cases e
      exact .inl ⟨s', st z, hx, hy, by rw [st_toList]; exact q F H _ (Grow.refl s) rfl⟩
    · cases e
  · rename_i i
    cases z : seqInts b with
    | none => rw [z] at e; cases e
    | some ns =>
      rw [z] at e; cases e
      obtain ⟨p, ey, hp⟩ := seqInts_at s hy z
      have hx : x = .int i := hx
      subst hx
      exact .inr ⟨p, _, ey, hp, rfl, ints_flat ns, by rw [if_neg Bool.false_ne_true, inV_ints]; exact q F H _ (Grow.refl s) rfl⟩
  · cases e
theorem prim_notIn : Prim2 X (compareOp .NotIn) fNotIn := by
  refine ⟨_, op_notIn_sign.or op_notIn_seq, fun F H a b x y c Q s hx hy e q => ?_⟩
  unfold fNotIn at e
  split at e
  · split at e
    · rename_i s' _ z
      cases e
      exact .inl ⟨s', st z, hx, hy, by rw [st_toList]; exact q F H _ (Grow.refl s) rfl⟩
    · cases e
  · rename_i i
    cases z : seqInts b with
    | none => rw [z] at e; cases e
    | some ns =>
      rw [z] at e; cases e
      obtain ⟨p, ey, hp⟩ := seqInts_at s hy z
      have hx : x = .int i := hx
      subst hx
      exact .inr ⟨p, _, ey, hp, rfl, ints_flat ns, by rw [if_pos rfl, inV_ints]; exact q F H _ (Grow.refl s) rfl⟩
  · cases e
/-- times, a tuple too -/
def fMulX (a b : Dt) : Option Res := match a with
  | .tup xs => (match b with
    | .int k => if xs.isEmpty = false ∧ 2 ≤ k ∧ k ≤ 1000 ∧ xs.length ≤ 1000 then some (.dat (.tup (List.replicate k.toNat xs).flatten)) else none
    | _ => none)
  | a => fMul a b
theorem prim_mulX : Prim2 X (binaryOp .Mult) fMulX := by
  obtain ⟨r, hr, hf⟩ := prim_mul (X := X)
  refine ⟨_, hr.or op_repT, fun F H a b x y c Q s hx hy e q => ?_⟩
  cases a with
  | tup us =>
    cases b with
    | int k =>
      obtain ⟨l, xs, ex, h1, r1⟩ := hx
      have hy : y = .int k := hy
      unfold fMulX at e
      by_cases hz : us.isEmpty = false ∧ 2 ≤ k ∧ k ≤ 1000 ∧ us.length ≤ 1000
      · simp only [if_pos hz] at e
        cases e
        refine .inr ⟨l, k, xs, ex, hy, Same.seqT s h1, fun z => ?_, hz.2.1, hz.2.2.1, by rw [← r1.length]; exact hz.2.2.2, fun p np => ?_⟩
        · rw [z] at r1; have := r1.length; have h0 := hz.1; cases us <;> simp_all
        · have g : Grow F H (upd F p (.tup (List.replicate k.toNat xs).flatten)) (upd H p (.tup (List.replicate k.toNat xs).flatten)) := grow_frz s np
          exact q _ _ _ g ⟨p, _, rfl, .inl (.inl upd_same), Reps.mono g.sub _ _ (Reps.rep r1 _)⟩
      · simp only [if_neg hz] at e; cases e
    | _ => cases e
  | _ => exact .inl (hf F H _ b x y c Q s hx hy e q)
/-- str of an int or a text -/
def wdOf (x : Str) : Wd := x.cps.toList
def fStr : List Dt → Option Res
  | [.int i] => if i.natAbs.log2 < 1920 then some (.dat (.str (wdOf (toString i : String)))) else none
  | [.str x] => some (.dat (.str x))
  | _ => none
theorem prim_str : PrimN X (.type "str") fStr := by
  refine ⟨_, call_str_int.or SkE.call_str_str, fun F H ds vs c Q s hv e q => ?_⟩
  unfold fStr at e
  split at e
  · rename_i i
    obtain ⟨v, t, ev, hx, ht⟩ := hv
    have ht : t = [] := ht
    have hx : v = .int i := hx
    subst ht hx
    by_cases hz : i.natAbs.log2 < 1920
    · rw [if_pos hz] at e; cases e
      refine .inl ⟨i, ev, hz, q F H _ (Grow.refl s) ?_⟩
      show V.str _ = V.str (st (wdOf _))
      unfold wdOf
      rw [st_of]
    · rw [if_neg hz] at e; cases e
  · rename_i x
    obtain ⟨v, t, ev, hx, ht⟩ := hv
    have ht : t = [] := ht
    have hx : v = .str (st x) := hx
    subst ht hx
    cases e
    exact .inr ⟨st x, ev, q F H _ (Grow.refl s) rfl⟩
  · cases e
end
end Fw
namespace Fw
open PySem PySem.Spec PyProof.Rows L2
/-- the def of a class's __init__ -/
def clsInit (st : Stmt) : Stmt := match st with
  | .ClassDef _ _ _ b _ _ _ _ _ _ _ => b.getD 0 st
  | s => s
theorem cls_any {K : PySem.W.Frag} {D : Addr} (h : (PySem.W.clsIn K D).isSome = true) : ∃ cd, PySem.W.clsIn K D = some cd := Option.isSome_iff_exists.mp h
end Fw

/-! Fx9: an exception made as a value. -/
namespace Fw
open PySem PySem.Spec PyProof.Rows L2
section
variable {X : Cx} {pins : List (Addr × Obj)} {σ : St} {H : Hp} {s : Shared}
/-- what is told of an object of ours may be told otherwise -/
theorem Inv.retag {a : Addr} {φ : Heap → Prop} {o : HO} (I : Inv X pins σ H s) (ha : H a = some (.ext φ)) (new : ObjOk X.prog X.w (upd H a o) s.heap a o) : Inv X pins σ (upd H a o) s := by
  have n0 : ∀ {b : Addr}, H b = none → b ≠ a := fun {b} e z => by rw [z, ha] at e; cases e
  have nT : ∀ {b : Addr} {u : HO}, H b = some u → (∀ ψ, u ≠ .ext ψ) → b ≠ a := fun {b u} e q z => by rw [z, ha] at e; cases e; exact q _ rfl
  refine ⟨I.ok, I.os, I.bare, ⟨I.base.keep, I.base.slot, fun b u e n hx => ?_, I.base.there, fun b xs e => ?_, fun b u v e => ?_, fun b ps e => ?_⟩, I.loc, I.cell, ?_, fun x c e => ?_, fun p hp => ?_, fun b u e => ?_, I.len⟩
  · have q := I.base.free b u e n hx; rw [upd_ne (n0 q)]; exact q
  · have q := I.base.tups b xs e; rw [upd_ne (nT q fun _ z => by cases z)]; exact q
  · have q := I.base.frzs b u v e; rw [upd_ne (nT q fun _ z => by cases z)]; exact q
  · obtain ⟨m, q⟩ := I.base.tbls b ps e; exact ⟨m, by rw [upd_ne (nT q fun _ z => by cases z)]; exact q⟩
  · rw [upd_ne (n0 I.free)]; exact I.free
  · rw [upd_ne (n0 (I.freeC x c e))]; exact I.freeC x c e
  · obtain ⟨h1, h2, h3⟩ := I.pin p hp; exact ⟨h1, by rw [upd_ne (n0 h2)]; exact h2, h3⟩
  · by_cases hb : b = a
    · subst hb; rw [upd_same] at e; cases e; exact new
    · rw [upd_ne hb] at e
      exact (I.hok b u e).stay (fun c v _ q => q) (fun c q => by rw [upd_ne (nT q fun _ z => by cases z)]; exact q) fun c xs q => by rw [upd_ne (nT q fun _ z => by cases z)]; exact q
end
section
variable {X : Cx} {CX : CXT} {x : Str} {C D fI : Addr} {fdI : FuncData} {e : Expr} {te : TE} {p pos : Pos}
theorem pe_newx (T : XcC X.K D C) (iC : PySem.W.findIn X.K (.ref C) "__init__" = some (some (.ref fI))) (tI : PySem.W.typeIn X.K (.ref fI) = some (.type "function"))
    (F1 : FnOk X.prog X.w X.K X.mg X.base CX 1 fI fdI ["self", "value"] (spI X.K D)) (hr : Room 2 X.A) (hb : Binds X.K fdI ["self", "value"] []) (hx : Passes CX X (fun _ _ _ => False)) (hg : Gl X x) (hm : X.mg x = some (.ref C)) (he : PE X e te)
    (hdb : (x == ("__debug__" : Str)) = false := by decide) (hs : starEach [e] X.env = (false, eval e X.env) :: starEach [] X.env := by rfl) (hpl : (backTo pos (starEach [] X.env)).any (·.1) = false := by rfl) :
    PE X (.Call (.Name x p) [e] [] pos) (fun σ H Q => te σ H fun v H1 => ∀ a dx, H1 a = none → H1 dx = none → dx ≠ a → Q (.ref a) (upd (upd H1 dx (.xd [("value", v)])) a (xo a C dx))) := by
  refine ⟨fun pins s σ H Q I h => ?_⟩
  obtain ⟨nm, q, N, bs, bm, sn, sub, ab, col, dd, k0, k1, k2, k3, k5, hC, hbm⟩ := T.ox.cls
  refine wpAny_Call_Name_kw (ld_glob I hg hm ?_ hdb)
  refine PySem.W.callWith_K (h₀ := X.base) I.ok.mod.kin T.ox.kC (thn ((pa_cons he pa_nil hs).run pos pins s σ H (fun vs H1 => match vs with | [v] => ∀ a dx, H1 a = none → H1 dx = none → dx ≠ a → Q (.ref a) (upd (upd H1 dx (.xd [("value", v)])) a (xo a C dx)) | _ => False) I h) fun us s1 ⟨vs, H1, I1, r1, q1⟩ => ⟨I1.kIn, ?_⟩) hs hpl
  match vs, q1 with
  | [v], q1 =>
  show wpAny _ _ (call (.ref C) us) _ _ _
  obtain ⟨u, rfl, rv⟩ : ∃ u, us = [u] ∧ RelV v u := by
    cases r1 with
    | cons rv rr => cases rr; exact ⟨_, rfl, rv⟩
  obtain ⟨hp, g, dr, tk, os⟩ := s1
  have hsz : hp.objs.size ≤ hp.objs.size + 1 := Nat.le_succ _
  have hn : H1 (hp.objs.size + 1) = none := I1.hok.fresh hsz
  have kk : ∀ b o, hp.get? b = some o → ((hp.push (PySem.W.kdv_tup [u])).push (PySem.HandSPX.excO C hp.objs.size)).get? b = some o := fun b o e => Heap.get?_push_of_some _ (Heap.get?_push_of_some _ e)
  have hget : ((hp.push (PySem.W.kdv_tup [u])).push (PySem.HandSPX.excO C hp.objs.size)).get? (hp.objs.size + 1) = some (PySem.HandSPX.excO C hp.objs.size) := by heap_get
  have I2 : Inv X pins σ (upd H1 (hp.objs.size + 1) (exo (hp.objs.size + 1) C none)) ⟨(hp.push (PySem.W.kdv_tup [u])).push (PySem.HandSPX.excO C hp.objs.size), g, dr, tk, os⟩ :=
    I1.laid (t' := tk) (a := hp.objs.size + 1) (o := exo (hp.objs.size + 1) C none) (h' := (hp.push (PySem.W.kdv_tup [u])).push (PySem.HandSPX.excO C hp.objs.size)) kk hsz (exo_ok hget)
  have r2 : Vals [V.ref (hp.objs.size + 1), v] [Value.ref (hp.objs.size + 1), u] := .cons rfl (.cons rv .nil)
  refine wpAny_call (PySem.HandSPX.call_own F.excBase_ValueError (fun Y => PySem.HandSPX.refsVE_contains Y bm hbm) (I1.kIn _ _ hC) (PySem.W.looks_findIn I1.kIn iC) (fun self => PySem.W.bind_fn I1.kIn self tI) (by rw [sizeLine_eq]; exact Nat.le_of_ble_eq_true rfl)
    (codeAny_mono (F1.run _ X.stack _ _ ⟨[Value.ref (hp.objs.size + 1), u], []⟩ [Value.ref (hp.objs.size + 1), u] _ (fun v' H2 => v' = .non ∧ ∃ dx, H1 dx = none ∧ dx ≠ hp.objs.size + 1 ∧ H2 = upd (upd (upd H1 (hp.objs.size + 1) (exo (hp.objs.size + 1) C none)) dx (exd dx [("value", v)])) (hp.objs.size + 1) (exo (hp.objs.size + 1) C (some dx))) (fun _ _ _ => False) (hr.make C [u] []) (I2.env0.make C [u] []) (hb _ [Value.ref (hp.objs.size + 1), u] I2.kIn rfl) r2
      ⟨_, C, v, rfl, T, upd_same, fun dx n1 n2 => ⟨rfl, dx, by rw [upd_ne n2] at n1; exact n1, n2, rfl⟩⟩) fun r s' hq' => ?_))
  cases r with
  | error er => exact hx pins σ _ _ er s' I2 hq'
  | ok fl =>
    cases fl with
    | ret w =>
      obtain ⟨v', H2, os2, bare2, un2, hok2, rv', ev, dx, n1, n2, eH⟩ := hq'
      subst ev eH
      have J := Inv.call' (ch := []) I2 os2 un2 hok2 bare2 (fun b z => absurd z (by simp))
      obtain ⟨t1, ho⟩ := exo_at J.hok upd_same
      have J1 := Inv.retag (o := xo (hp.objs.size + 1) C dx) J (show _ = some (HO.ext _) from upd_same) (xo_ok ho ⟨rfl, rfl⟩ rfl)
      have e1 : upd (upd (upd (upd H1 (hp.objs.size + 1) (exo (hp.objs.size + 1) C none)) dx (exd dx [("value", v)])) (hp.objs.size + 1) (exo (hp.objs.size + 1) C (some dx))) (hp.objs.size + 1) (xo (hp.objs.size + 1) C dx) dx = some (exd dx [("value", v)]) := by
        rw [upd_ne n2, upd_ne n2, upd_same]
      obtain ⟨mA, hns, rel⟩ := exd_at J1.hok e1
      have J2 := Inv.retag (o := .xd [("value", v)]) J1 (show _ = some (HO.ext _) from e1) ⟨mA, hns, rel⟩
      have eH : upd (upd (upd (upd (upd H1 (hp.objs.size + 1) (exo (hp.objs.size + 1) C none)) dx (exd dx [("value", v)])) (hp.objs.size + 1) (exo (hp.objs.size + 1) C (some dx))) (hp.objs.size + 1) (xo (hp.objs.size + 1) C dx)) dx (.xd [("value", v)])
          = upd (upd H1 dx (.xd [("value", v)])) (hp.objs.size + 1) (xo (hp.objs.size + 1) C dx) := by
        funext b
        by_cases hb : b = dx
        · subst hb; rw [upd_same, upd_ne n2, upd_same]
        · rw [upd_ne hb]
          by_cases ha : b = hp.objs.size + 1
          · subst ha; rw [upd_same, upd_same]
          · rw [upd_ne ha, upd_ne ha, upd_ne hb, upd_ne ha, upd_ne ha, upd_ne hb]
      rw [eH] at J2
      exact ⟨rv', .ref (hp.objs.size + 1), _, J2, rfl, q1 _ dx hn n1 n2⟩
    | next => exact False.elim hq'
    | brk => exact False.elim hq'
    | cont => exact False.elim hq'
end
/-- C(e) as a value -/
def eNewX (c : Str) (m : M Res) : M Res := fun en => (eVal m en).bind fun d en1 => .ok (.dat (.exo c d)) en1
section
variable {X : Cx} {W : WX} {m : M Res} {e : Expr} {pos p : Pos} {x : Str} {D fI : Addr} {fdI : FuncData} {ns : List Str}
theorem re_newx (hr : Room 2 X.A) (T : XK X.prog X.w X.K X.mg X.base D fI fdI ns) (hx : ClsAt X.K X.mg x) (he : PE X e (tE X.K X.mg W m)) (hn : x ∈ ns := by decide) (hg : Gl X x := by rfl)
    (hdb : (x == ("__debug__" : Str)) = false := by decide) (hs : starEach [e] X.env = (false, eval e X.env) :: starEach [] X.env := by rfl) (hpl : (backTo pos (starEach [] X.env)).any (·.1) = false := by rfl) :
    PE X (.Call (.Name x p) [e] [] pos) (tE X.K X.mg W (eNewX x m)) := by
  obtain ⟨C, hm, hC⟩ := hx
  obtain ⟨TC, iC, _, _, _⟩ := T.all C x hC hn
  refine PE.imp (pe_newx TC iC T.tI T.ok hr T.bd (cx_none rfl rfl) hg hm he hdb hs hpl) fun σ H Q ⟨F, en, R, h⟩ => ⟨F, en, R, (vald h).imp fun F1 H1 en1 r0 _ q v hv fr => ?_⟩
  obtain ⟨F2, en2, d, R2, p2, rv, q⟩ := q v hv fr
  intro a dx na nd ne
  have g1 := grow_frz (o := .xd [("value", v)]) R2.sub nd
  have hne : a ≠ dx := Ne.symm ne
  have g2 := grow_frz (p := a) (o := xo a C dx) (R2.grow g1).sub (by rw [upd_ne hne]; exact na)
  exact q _ _ ((R2.grow g1).grow g2) (g1.trans g2).post (.ref a) ⟨a, C, dx, v, rfl, hC, upd_same, by rw [upd_ne ne]; exact upd_same, Rep.mono (g1.trans g2).sub _ _ rv⟩ trivial
end
end Fw

/-! Fx10 (under way): an exception made by keyword. -/
namespace Fw
open PySem PySem.Spec PyProof.Rows PySem.HandSPX
section
variable {M : Model} {A : Around} {E : Value → Shared → Prop} {h : Heap} {g : Array GenState} {d : Drawn} {t : Nat} {os : OsState}
variable {nm q : Str} {C N : Addr} {bs bm bmB : List Value} {hdct : Bool} {sn : List Str} {sub : List Value} {ab : Bool} {col : Option Bool} {dd : Option Addr} {k0 k1 k2 k3 k5 : Option Value} {B newId initId : String}
theorem check_new_kw (F : ExcBaseFacts B newId initId bmB) (hT : ∀ X : String, bm.contains (.type X) = bmB.contains (.type X)) {u : Value} {Q : Unit → Shared → Prop}
    (hC : h.get? C = some (excClassObj nm q C N bs bm hdct sn sub ab col dd k0 k1 k2 k3 k5 newId)) (hq : Q () ⟨h, g, d, t, os⟩) : wpAny M A (checkBuiltinCall newId ⟨[.ref C], [("value", u)]⟩) Q E ⟨h, g, d, t, os⟩ := by
  have hc : (Value.ref C :: bm).contains (.type B) = true := by rw [List.contains_cons, hT, F.hasB, Bool.or_true]
  have hs := F.noStar
  simp only [checkBuiltinCall, F.newKind, F.newSplit, F.newRow]
  repeat (first | refine wpAny_loadPart_at hC ?_ | (refine wpAny_isSubtype_exc hC ?_; rw [hc]) | refine wpAny_staticBase_exc hC ?_ | refine wpAny_madeBy_exc hC ?_ | simp only [bne_self_eq_false, Bool.false_eq_true, if_false] | wp_step)
  exact hq
end
end Fw
namespace Fw
open PySem PySem.HandSPX
section
variable {prog : Program} {w : World} {A : Around} {E : Value → Shared → Prop} {R : Result → Shared → Prop} {h : Heap} {g : Array GenState} {d : Drawn} {t : Nat} {os : OsState}
variable {nm q : Str} {C N : Addr} {bs bm bmB : List Value} {hdct : Bool} {sn : List Str} {sub : List Value} {ab : Bool} {col : Option Bool} {dd : Option Addr} {k0 k1 k2 k3 k5 : Option Value} {B newId initId : String}
theorem new_kw (F : ExcBaseFacts B newId initId bmB) (hT : ∀ X : String, bm.contains (.type X) = bmB.contains (.type X)) {u : Value}
    (hC : h.get? C = some (excClassObj nm q C N bs bm hdct sn sub ab col dd k0 k1 k2 k3 k5 newId))
    (hq : R (.ok (.ret (.ref (h.objs.size + 1)))) ⟨(h.push { cls := .type "tuple", data := .seq #[] }).push (excO C h.objs.size), g, d, t, os⟩) :
    codeAny (model prog w) A (.builtin newId ⟨[.ref C], [("value", u)]⟩) R ⟨h, g, d, t, os⟩ := by
  have hends := F.ends
  have cB : (Value.ref C :: bm).contains (.type B) = true := by rw [List.contains_cons, hT, F.hasB, Bool.or_true]
  have cA : (Value.ref C :: bm).contains (.type "AttributeError") = false := by rw [List.contains_cons, hT, F.noAttr]; rfl
  have cN : (Value.ref C :: bm).contains (.type "NameError") = false := by rw [List.contains_cons, hT, F.noName]; rfl
  refine codeAny_builtinAt F.entry ?_
  unfold Builtin.«BaseException.__new__»
  refine wpAt_bind ?_
  show wpAt _ _ _ (stack >>= _) _ _ _
  refine wpAt_bind (wpAt_stack fun p below => wpAt_of_wpAny ?_)
  wp_walk
  refine wpAt_of_wpAny ?_
  rw [F.owner]
  repeat (first | with_reducible refine wpAny_madeHere_exc F.canon hC ?_ | with_reducible refine wpAny_loadPart_at hC ?_ | (with_reducible refine wpAny_isSubtype_exc hC ?_; first | rw [cB] | rw [cA] | rw [cN]) | wp_step)
  show R _ _
  rw [Heap.size_push]
  exact hq
theorem tcall_kw (F : ExcBaseFacts B newId initId bmB) (hT : ∀ X : String, bm.contains (.type X) = bmB.contains (.type X)) {u : Value} {fI : Addr} {Q : Fin → Shared → Prop}
    (hC : h.get? C = some (excClassObj nm q C N bs bm hdct sn sub ab col dd k0 k1 k2 k3 k5 newId))
    (hi : W.Looks (model prog w) h (typeLookup (.ref C) "__init__") (some (.ref fI))) (hb : ∀ self, W.Looks (model prog w) h (bindSpecial (.ref fI) self) (.ref fI, [self]))
    (hq : codeAny (model prog w) A (.call (.ref fI) ⟨[.ref (h.objs.size + 1)], [("value", u)]⟩)
      (fun r s' => match r with | .ok (.ret v) => v = .none ∧ Q (.done (.ret (.ref (h.objs.size + 1)))) s' | .ok _ => False | .error e => E e s')
      ⟨(h.push (W.kdv_tup [])).push (excO C h.objs.size), g, d, t, os⟩) :
    wpAny (model prog w) A (Builtin.«type.__call__» ⟨[.ref C], [("value", u)]⟩) Q E ⟨h, g, d, t, os⟩ := by
  repeat (first | with_reducible refine wpAny_loadPart_at hC ?_ | with_reducible refine wpAny_madeBy_exc hC ?_ | wp_step)
  refine codeAny_call_builtin_code (Code.quiet_builtin _ F.quiet) (check_new_kw F hT hC (new_kw F hT hC ?_))
  show wpAny _ _ _ _ _ _
  have k : ∀ b o, h.get? b = some o → ((h.push (W.kdv_tup [])).push (excO C h.objs.size)).get? b = some o := fun b o e => Heap.get?_push_of_some _ (Heap.get?_push_of_some _ e)
  have hC₁ := k _ _ hC
  have hget : ((h.push (W.kdv_tup [])).push (excO C h.objs.size)).get? (h.objs.size + 1) = some (excO C h.objs.size) := by heap_get
  have hcC : (Value.ref C :: bm).contains (.ref C) = true := by simp
  have i1 := hi.keeps k; have b1 := (hb (.ref (h.objs.size + 1))).keeps k
  unfold isInstance
  repeat (first | with_reducible refine wpAny_loadPart_at hget ?_ | (with_reducible refine wpAny_isSubtype_exc hC₁ ?_; rw [hcC]) | wp_step)
  show wpAny _ _ (typeLookup (.ref C) _) _ _ _
  refine i1.at (wpAny_holding (wpAny_bind (b1.at ?_)))
  refine wpAny_bind (wpAny_call (codeAny_mono hq fun r s' z => ?_))
  rcases r with e | (v | _ | _ | _) <;> first | exact z | exact z.elim | skip
  obtain ⟨rfl, z⟩ := z
  first
    | exact wpAny_pure (wpAny_pure z)
    | (wp_walk; exact z)
theorem call_kw (F : ExcBaseFacts B newId initId bmB) (hT : ∀ X : String, bm.contains (.type X) = bmB.contains (.type X)) {u : Value} {fI : Addr}
    (hC : h.get? C = some (excClassObj nm q C N bs bm hdct sn sub ab col dd k0 k1 k2 k3 k5 newId))
    (hi : W.Looks (model prog w) h (typeLookup (.ref C) "__init__") (some (.ref fI))) (hb : ∀ self, W.Looks (model prog w) h (bindSpecial (.ref fI) self) (.ref fI, [self]))
    (hq : codeAny (model prog w) (A.under (.builtin "type.__call__" ⟨[.ref C], [("value", u)]⟩)) (.call (.ref fI) ⟨[.ref (h.objs.size + 1)], [("value", u)]⟩) (W.InitBack (h.objs.size + 1) R)
      ⟨(h.push (W.kdv_tup [])).push (excO C h.objs.size), g, d, t, os⟩) :
    codeAny (model prog w) A (.call (.ref C) ⟨[], [("value", u)]⟩) R ⟨h, g, d, t, os⟩ := by
  have f1 := tc_lookup; have f2 := tc_bind (.ref C)
  have hTy : (⟨h, g, d, t, os⟩ : Shared).TypeIs (.ref C) "type" := ⟨_, hC, rfl⟩
  refine codeAny_of_tree ?_
  show wpAny _ _ (callAny (.ref C) _) _ _ _
  repeat (any_goals (first | assumption | with_reducible refine wpAny_loadPart_at hC ?_ | wp_step))
  refine ⟨rfl, ?_⟩
  refine codeAny_call_builtin_at (Code.quiet_builtin _ (by decide +kernel)) entry_typeCall (wpAny_check_type_call_sub hC (tcall_kw F hT hC hi hb ?_))
  refine codeAny_mono hq fun r s' z => ?_
  rcases r with e | (v | _ | _ | _) <;> exact z
end
end Fw

/-! Fx11: an exception made as a value by keyword. -/
namespace Fw
open PySem PySem.Spec PyProof.Rows L2
section
variable {X : Cx} {CX : CXT} {x : Str} {C D fI : Addr} {fdI : FuncData} {kws : List Keyword} {te : TE} {p pos : Pos}
theorem pe_newxK (T : XcC X.K D C) (iC : PySem.W.findIn X.K (.ref C) "__init__" = some (some (.ref fI))) (tI : PySem.W.typeIn X.K (.ref fI) = some (.type "function"))
    (F1 : FnOk X.prog X.w X.K X.mg X.base CX 1 fI fdI ["self", "value"] (spI X.K D)) (hr : Room 2 X.A) (hb : ∀ (s : Shared) (self u : Value), BindsTo s fdI ⟨[self], [("value", u)]⟩ [("self", self), ("value", u)]) (hx : Passes CX X (fun _ _ _ => False)) (hg : Gl X x) (hm : X.mg x = some (.ref C)) (ha : PK X kws (tCons te tNil))
    (hks : (backToKw pos (keywordEach kws X.env)).filterMap (·.1) = [("value" : Str)] := by rfl) (hall : (backToKw pos (keywordEach kws X.env)).all (·.1.isSome) = true := by rfl) (hdb : (x == ("__debug__" : Str)) = false := by decide)
    (hpl : ((backTo pos (starEach [] X.env)).any (·.1) || (backToKw pos (keywordEach kws X.env)).any (·.1.isNone)) = false := by rfl) :
    PE X (.Call (.Name x p) [] kws pos) (fun σ H Q => te σ H fun v H1 => ∀ a dx, H1 a = none → H1 dx = none → dx ≠ a → Q (.ref a) (upd (upd H1 dx (.xd [("value", v)])) a (xo a C dx))) := by
  refine ⟨fun pins s σ H Q I h => ?_⟩
  obtain ⟨nm, q, N, bs, bm, sn, sub, ab, col, dd, k0, k1, k2, k3, k5, hC, hbm⟩ := T.ox.cls
  refine wpAny_Call_Name_kw (ld_glob I hg hm ?_ hdb)
  refine PySem.W.callWith_KW0 (h₀ := X.base) I.ok.mod.kin T.ox.kC hall (thn (ha.run pos pins s σ H (fun vs H1 => match vs with | [v] => ∀ a dx, H1 a = none → H1 dx = none → dx ≠ a → Q (.ref a) (upd (upd H1 dx (.xd [("value", v)])) a (xo a C dx)) | _ => False) I h) fun us s1 ⟨vs, H1, I1, r1, q1⟩ => ⟨I1.kIn, ?_⟩) hpl
  match vs, q1 with
  | [v], q1 =>
  obtain ⟨u, rfl, rv⟩ : ∃ u, us = [u] ∧ RelV v u := by
    cases r1 with
    | cons rv rr => cases rr; exact ⟨_, rfl, rv⟩
  rw [hks]
  show wpAny _ _ (call (.ref C) [] [("value", u)]) _ _ _
  obtain ⟨hp, g, dr, tk, os⟩ := s1
  have hsz : hp.objs.size ≤ hp.objs.size + 1 := Nat.le_succ _
  have hn : H1 (hp.objs.size + 1) = none := I1.hok.fresh hsz
  have kk : ∀ b o, hp.get? b = some o → ((hp.push (PySem.W.kdv_tup [])).push (PySem.HandSPX.excO C hp.objs.size)).get? b = some o := fun b o e => Heap.get?_push_of_some _ (Heap.get?_push_of_some _ e)
  have hget : ((hp.push (PySem.W.kdv_tup [])).push (PySem.HandSPX.excO C hp.objs.size)).get? (hp.objs.size + 1) = some (PySem.HandSPX.excO C hp.objs.size) := by heap_get
  have I2 : Inv X pins σ (upd H1 (hp.objs.size + 1) (exo (hp.objs.size + 1) C none)) ⟨(hp.push (PySem.W.kdv_tup [])).push (PySem.HandSPX.excO C hp.objs.size), g, dr, tk, os⟩ :=
    I1.laid (t' := tk) (a := hp.objs.size + 1) (o := exo (hp.objs.size + 1) C none) (h' := (hp.push (PySem.W.kdv_tup [])).push (PySem.HandSPX.excO C hp.objs.size)) kk hsz (exo_ok hget)
  have r2 : Vals [V.ref (hp.objs.size + 1), v] [Value.ref (hp.objs.size + 1), u] := .cons rfl (.cons rv .nil)
  refine wpAny_call (call_kw F.excBase_ValueError (fun Y => PySem.HandSPX.refsVE_contains Y bm hbm) (I1.kIn _ _ hC) (PySem.W.looks_findIn I1.kIn iC) (fun self => PySem.W.bind_fn I1.kIn self tI)
    (codeAny_mono (F1.run _ X.stack _ _ ⟨[Value.ref (hp.objs.size + 1)], [("value", u)]⟩ [Value.ref (hp.objs.size + 1), u] _ (fun v' H2 => v' = .non ∧ ∃ dx, H1 dx = none ∧ dx ≠ hp.objs.size + 1 ∧ H2 = upd (upd (upd H1 (hp.objs.size + 1) (exo (hp.objs.size + 1) C none)) dx (exd dx [("value", v)])) (hp.objs.size + 1) (exo (hp.objs.size + 1) C (some dx))) (fun _ _ _ => False) (hr.make C [] [("value", u)]) (I2.env0.make C [] [("value", u)]) (hb _ _ _) r2
      ⟨_, C, v, rfl, T, upd_same, fun dx n1 n2 => ⟨rfl, dx, by rw [upd_ne n2] at n1; exact n1, n2, rfl⟩⟩) fun r s' hq' => ?_))
  cases r with
  | error er => exact hx pins σ _ _ er s' I2 hq'
  | ok fl =>
    cases fl with
    | ret w =>
      obtain ⟨v', H2, os2, bare2, un2, hok2, rv', ev, dx, n1, n2, eH⟩ := hq'
      subst ev eH
      have J := Inv.call' (ch := []) I2 os2 un2 hok2 bare2 (fun b z => absurd z (by simp))
      obtain ⟨t1, ho⟩ := exo_at J.hok upd_same
      have J1 := Inv.retag (o := xo (hp.objs.size + 1) C dx) J (show _ = some (HO.ext _) from upd_same) (xo_ok ho ⟨rfl, rfl⟩ rfl)
      have e1 : upd (upd (upd (upd H1 (hp.objs.size + 1) (exo (hp.objs.size + 1) C none)) dx (exd dx [("value", v)])) (hp.objs.size + 1) (exo (hp.objs.size + 1) C (some dx))) (hp.objs.size + 1) (xo (hp.objs.size + 1) C dx) dx = some (exd dx [("value", v)]) := by
        rw [upd_ne n2, upd_ne n2, upd_same]
      obtain ⟨mA, hns, rel⟩ := exd_at J1.hok e1
      have J2 := Inv.retag (o := .xd [("value", v)]) J1 (show _ = some (HO.ext _) from e1) ⟨mA, hns, rel⟩
      have eH : upd (upd (upd (upd (upd H1 (hp.objs.size + 1) (exo (hp.objs.size + 1) C none)) dx (exd dx [("value", v)])) (hp.objs.size + 1) (exo (hp.objs.size + 1) C (some dx))) (hp.objs.size + 1) (xo (hp.objs.size + 1) C dx)) dx (.xd [("value", v)])
          = upd (upd H1 dx (.xd [("value", v)])) (hp.objs.size + 1) (xo (hp.objs.size + 1) C dx) := by
        funext b
        by_cases hb : b = dx
        · subst hb; rw [upd_same, upd_ne n2, upd_same]
        · rw [upd_ne hb]
          by_cases ha : b = hp.objs.size + 1
          · subst ha; rw [upd_same, upd_same]
          · rw [upd_ne ha, upd_ne ha, upd_ne hb, upd_ne ha, upd_ne ha, upd_ne hb]
      rw [eH] at J2
      exact ⟨rv', .ref (hp.objs.size + 1), _, J2, rfl, q1 _ dx hn n1 n2⟩
    | next => exact False.elim hq'
    | brk => exact False.elim hq'
    | cont => exact False.elim hq'
end
section
variable {X : Cx} {W : WX} {m : M Res} {kws : List Keyword} {pos p : Pos} {x : Str} {D fI : Addr} {fdI : FuncData} {ns : List Str}
theorem re_newxK (hr : Room 2 X.A) (T : XK X.prog X.w X.K X.mg X.base D fI fdI ns) (hx : ClsAt X.K X.mg x) (ha : PK X kws (tCons (tE X.K X.mg W m) tNil)) (hn : x ∈ ns := by decide) (hg : Gl X x := by rfl)
    (hks : (backToKw pos (keywordEach kws X.env)).filterMap (·.1) = [("value" : Str)] := by rfl) (hall : (backToKw pos (keywordEach kws X.env)).all (·.1.isSome) = true := by rfl) (hdb : (x == ("__debug__" : Str)) = false := by decide)
    (hpl : ((backTo pos (starEach [] X.env)).any (·.1) || (backToKw pos (keywordEach kws X.env)).any (·.1.isNone)) = false := by rfl) :
    PE X (.Call (.Name x p) [] kws pos) (tE X.K X.mg W (eNewX x m)) := by
  obtain ⟨C, hm, hC⟩ := hx
  obtain ⟨TC, iC, _, _, _⟩ := T.all C x hC hn
  refine PE.imp (pe_newxK TC iC T.tI T.ok hr T.bdk (cx_none rfl rfl) hg hm ha hks hall hdb hpl) fun σ H Q ⟨F, en, R, h⟩ => ⟨F, en, R, (vald h).imp fun F1 H1 en1 r0 _ q v hv fr => ?_⟩
  obtain ⟨F2, en2, d, R2, p2, rv, q⟩ := q v hv fr
  intro a dx na nd ne
  have g1 := grow_frz (o := .xd [("value", v)]) R2.sub nd
  have hne : a ≠ dx := Ne.symm ne
  have g2 := grow_frz (p := a) (o := xo a C dx) (R2.grow g1).sub (by rw [upd_ne hne]; exact na)
  exact q _ _ ((R2.grow g1).grow g2) (g1.trans g2).post (.ref a) ⟨a, C, dx, v, rfl, hC, upd_same, by rw [upd_ne ne]; exact upd_same, Rep.mono (g1.trans g2).sub _ _ rv⟩ trivial
end
end Fw

/-! Fy1: weakest preconditions of the plain functions. -/
namespace Fw
open PySem PySem.Spec PyProof.Rows L2
structure Wq where
  nx : En → Prop
  rt : Res → En → Prop
  ex : Str → Dt → En → Prop
  bk : En → Prop
  co : En → Prop
def Wq.setNx (P : Wq) (k : En → Prop) : Wq := { P with nx := k }
@[simp ↓] theorem Wq.sn_nx (P : Wq) (k : En → Prop) (en : En) : (P.setNx k).nx en = k en := id rfl
@[simp] theorem Wq.sn_rt (P : Wq) (k : En → Prop) : (P.setNx k).rt = P.rt := id rfl
@[simp] theorem Wq.sn_ex (P : Wq) (k : En → Prop) : (P.setNx k).ex = P.ex := id rfl
@[simp] theorem Wq.sn_bk (P : Wq) (k : En → Prop) : (P.setNx k).bk = P.bk := id rfl
@[simp] theorem Wq.sn_co (P : Wq) (k : En → Prop) : (P.setNx k).co = P.co := id rfl
/-- keeps what follows out of simp's way -/
inductive Tg {α : Sort _} (a : α) : Type where
  | mk
inductive Tg2 {α : Sort _} {β : Sort _} (a : α) (b : β) : Type where
  | mk
def wE {α : Type} (o : Out α) (Q : α → En → Prop) (X : Str → Dt → En → Prop) (_ : Tg2 Q X := .mk) : Prop := match o with
  | .ok a en => Q a en
  | .exc c d en => X c d en
  | .stuck => False
def wS (o : OutS) (P : Wq) (_ : Tg P := .mk) : Prop := match o with
  | .nx en => P.nx en
  | .ret r en => P.rt r en
  | .exc c d en => P.ex c d en
  | .brk en => P.bk en
  | .cont en => P.co en
  | .stuck => False
def wL {α : Type} (o : Option α) (k : α → Prop) (_ : Tg k := .mk) : Prop := match o with
  | some a => k a
  | none => False
/-- a guard -/
def wG (c k : Prop) (_ : Tg k := .mk) : Prop := c ∧ k
/-- two ways -/
def wI (b : Bool) (A B : Prop) (_ : Tg2 A B := .mk) : Prop := if b = true then A else B
def wF (o : FOut) (Q : Res → Prop) (X : Str → Dt → Prop) (_ : Tg2 Q X := .mk) : Prop := match o with
  | .ret (.dat d) => Q (.dat d)
  | .ret (.new ds) => Q (.new ds)
  | .ret (.slt _) => False
  | .exc c d => X c d
  | .stuck => False
def wFR (o : FOutR) (Q : Res → List Dt → Prop) (_ : Tg Q := .mk) : Prop := match o with
  | .ret (.dat d) cs => Q (.dat d) cs
  | .ret (.new ds) cs => Q (.new ds) cs
  | .ret (.slt _) _ => False
  | .stuck => False
/-- what stands in a slot -/
def wV (s : Sl) (kv : Dt → Prop) (ko : List Dt → Prop) (_ : Tg2 kv ko := .mk) : Prop := match s with
  | .val d => kv d
  | .own ds => ko ds
  | _ => False
/-- what is held, kept out of simp's way -/
def Hold {α : Type} (R : α → Prop) (e : α) (_ : Tg R := .mk) : Prop := R e
theorem hold {α : Type} {R : α → Prop} {e : α} (h : R e) : Hold R e := h
theorem wE_ext {α : Type} {o : Out α} {Q Q' : α → En → Prop} {X : Str → Dt → En → Prop} (h : ∀ a e, Q a e = Q' a e) : wE o Q X = wE o Q' X := by
  cases o <;> first | exact h _ _ | rfl
theorem wL_ext {α : Type} {o : Option α} {Q Q' : α → Prop} (h : ∀ a, Q a = Q' a) : wL o Q = wL o Q' := by
  cases o <;> first | exact h _ | rfl
section
variable {α β : Type} {Q : α → En → Prop} {X : Str → Dt → En → Prop} {P : Wq} {en : En} {k : α → Prop}
@[simp] theorem wE_ok (a : α) : wE (.ok a en) Q X = Q a en := id rfl
@[simp] theorem wE_exc (c : Str) (d : Dt) : wE (.exc c d en : Out α) Q X = X c d en := id rfl
@[simp] theorem wS_nx : wS (.nx en) P = P.nx en := id rfl
@[simp] theorem wS_ret (r : Res) : wS (.ret r en) P = P.rt r en := id rfl
@[simp] theorem wS_exc (c : Str) (d : Dt) : wS (.exc c d en) P = P.ex c d en := id rfl
@[simp] theorem wS_brk : wS (.brk en) P = P.bk en := id rfl
@[simp] theorem wS_cont : wS (.cont en) P = P.co en := id rfl
@[simp] theorem wL_some (a : α) : wL (some a) k = k a := id rfl
@[simp] theorem wL_none : wL (none : Option α) k = False := id rfl
@[simp ↓] theorem wL_ite (c : Prop) [Decidable c] (a : α) : wL (if c then some a else none) k = wG c (k a) := by
  unfold wL wG
  by_cases h : c
  · simp [h]
  · simp [h]
@[simp ↓] theorem wL_map (o : Option β) (f : β → α) : wL (o.map f) k = wL o (fun b => k (f b)) := by cases o <;> rfl
@[simp ↓] theorem wL_bind (o : Option β) (f : β → Option α) : wL (o.bind f) k = wL o (fun b => wL (f b) k) := by cases o <;> rfl
@[simp ↓] theorem wG_and (a b k : Prop) : wG (a ∧ b) k = wG a (wG b k) := by unfold wG; simp [and_assoc]
@[simp] theorem wG_true (k : Prop) : wG True k = k := by unfold wG; simp
@[simp] theorem wI_true (A B : Prop) : wI true A B = A := id rfl
@[simp] theorem wI_false (A B : Prop) : wI false A B = B := id rfl
@[simp] theorem wF_dat (d : Dt) (Q : Res → Prop) (X : Str → Dt → Prop) : wF (.ret (.dat d)) Q X = Q (.dat d) := id rfl
@[simp] theorem wF_new (d : List Dt) (Q : Res → Prop) (X : Str → Dt → Prop) : wF (.ret (.new d)) Q X = Q (.new d) := id rfl
@[simp] theorem wF_exc (c : Str) (d : Dt) (Q : Res → Prop) (X : Str → Dt → Prop) : wF (.exc c d) Q X = X c d := id rfl
@[simp] theorem wFR_dat (d : Dt) (cs : List Dt) (Q : Res → List Dt → Prop) : wFR (.ret (.dat d) cs) Q = Q (.dat d) cs := id rfl
@[simp] theorem wFR_new (d : List Dt) (cs : List Dt) (Q : Res → List Dt → Prop) : wFR (.ret (.new d) cs) Q = Q (.new d) cs := id rfl
@[simp] theorem wV_val (d : Dt) (kv : Dt → Prop) (ko : List Dt → Prop) : wV (.val d) kv ko = kv d := id rfl
@[simp] theorem wV_own (d : List Dt) (kv : Dt → Prop) (ko : List Dt → Prop) : wV (.own d) kv ko = ko d := id rfl
theorem wG_mk {c k : Prop} (h : c) (q : k) : wG c k := ⟨h, q⟩
theorem wI_mk {b : Bool} {A B : Prop} (h1 : b = true → A) (h2 : b = false → B) : wI b A B := by
  cases b
  · exact h2 rfl
  · exact h1 rfl
theorem wL_of {o : Option α} {a : α} (h : o = some a) (q : k a) : wL o k := by rw [h]; exact q
@[simp ↓] theorem wE_bind (o : Out β) (f : β → En → Out α) : wE (o.bind f) Q X = wE o (fun b e => wE (f b e) Q X) X := by cases o <;> rfl
@[simp ↓] theorem wS_then (o : Out β) (f : β → En → OutS) : wS (o.then f) P = wE o (fun b e => wS (f b e) P) P.ex := by cases o <;> rfl
@[simp ↓] theorem wS_seq (o : OutS) (f : MS) : wS (o.seq f) P = wS o (P.setNx fun e => wS (f e) P) := by cases o <;> rfl
@[simp ↓] theorem wS_sSeq (m f : MS) : wS (sSeq m f en) P = wS (m en) (P.setNx fun e => wS (f e) P) := wS_seq _ _
@[simp ↓] theorem wS_skip : wS (sSkip en) P = P.nx en := id rfl
@[simp ↓] theorem wE_lift (o : Option Res) (Q : Res → En → Prop) : wE (lift en o) Q X = wL o (fun r => Q r en) := by cases o <;> rfl
@[simp ↓] theorem wE_cLift (o : Option Bool) (Q : Bool → En → Prop) : wE (cLift en o) Q X = wL o (fun r => Q r en) := by cases o <;> rfl
/-- a new list kept -/
def asO : Res → Res
  | .new ds => .dat (.lst ds)
  | r => r
@[simp] theorem asO_dat (d : Dt) : asO (.dat d) = .dat d := id rfl
@[simp] theorem asO_slt (i : Nat) : asO (.slt i) = .slt i := id rfl
@[simp] theorem asO_new (ds : List Dt) : asO (.new ds) = .dat (.lst ds) := id rfl
theorem toO_eq (r : Res) (en : En) : toO r en = .ok (asO r) en := by cases r <;> rfl
@[simp ↓] theorem wE_opd (m : M Res) (Q : Res → En → Prop) : wE (eOpd m en) Q X = wE (m en) (fun r e => Q (asO r) e) X := by
  show wE ((m en).bind toO) Q X = _
  rw [wE_bind]
  refine congrArg (fun z => wE (m en) z X) (funext fun r => funext fun e => ?_)
  rw [toO_eq]; rfl
@[simp ↓] theorem wE_val (m : M Res) (Q : Dt → En → Prop) : wE (eVal m en) Q X = wE (m en) (fun r e => wE (toV r e) Q X) X := wE_bind _ _
@[simp ↓] theorem wE_toV_dat (d : Dt) (Q : Dt → En → Prop) : wE (toV (.dat d) en) Q X = Q d en := id rfl
@[simp ↓] theorem wE_toV_new (d : List Dt) (Q : Dt → En → Prop) : wE (toV (.new d) en) Q X = Q (.lst d) en := id rfl
@[simp ↓] theorem wE_toV_slt (i : Nat) (Q : Dt → En → Prop) : wE (toV (.slt i) en) Q X = wL en[i]? (fun s => wV s (fun d => Q d en) (fun ds => Q (.lst ds) (en.set i (.val (.lst ds))))) := by
  show wE (match en[i]? with
    | some (.val d) => .ok d en
    | some (.own ds) => .ok (.lst ds) (en.set i (.val (.lst ds)))
    | _ => .stuck) Q X = _
  cases en[i]? with
  | none => rfl
  | some s => cases s <;> rfl
@[simp ↓] theorem wE_toR_dat (d : Dt) (Q : Res → En → Prop) : wE (toR (.dat d) en) Q X = Q (.dat d) en := id rfl
@[simp ↓] theorem wE_toR_new (d : List Dt) (Q : Res → En → Prop) : wE (toR (.new d) en) Q X = Q (.new d) en := id rfl
@[simp ↓] theorem wE_toR_slt (i : Nat) (Q : Res → En → Prop) : wE (toR (.slt i) en) Q X = wE (toV (.slt i) en) (fun d e => Q (.dat d) e) X := wE_bind _ _
def slD : Option Sl → Option Dt
  | some (.val d) => some d
  | some (.own ds) => some (.lst ds)
  | _ => none
@[simp] theorem slD_val (d : Dt) : slD (some (.val d)) = some d := id rfl
@[simp] theorem slD_own (d : List Dt) : slD (some (.own d)) = some (.lst d) := id rfl
@[simp] theorem vw_dat_ (d : Dt) : vw en (.dat d) = some d := id rfl
@[simp] theorem vw_new_ (d : List Dt) : vw en (.new d) = some (.lst d) := id rfl
@[simp] theorem vw_slt_ (i : Nat) : vw en (.slt i) = slD en[i]? := by
  show (match en[i]? with
    | some (.val d) => some d
    | some (.own ds) => some (.lst ds)
    | _ => none) = _
  cases en[i]? with
  | none => rfl
  | some s => cases s <;> rfl
@[simp] theorem vws_nil_ : vws en [] = some [] := id rfl
@[simp] theorem vws_cons_ (r : Res) (rs : List Res) : vws en (r :: rs) = (vw en r).bind fun d => (vws en rs).bind fun ds => some (d :: ds) := by
  rw [vws]; cases vw en r with
  | none => rfl
  | some d => cases vws en rs <;> rfl
@[simp] theorem some_bind_ (a : β) (f : β → Option α) : (some a).bind f = f a := id rfl
@[simp] theorem some_map_ (a : β) (f : β → α) : (some a).map f = some (f a) := id rfl
/-- a slot that is told -/
def isSl : Option Sl → Bool
  | some .un => false
  | none => false
  | _ => true
@[simp] theorem isSl_val (d : Dt) : isSl (some (.val d)) = true := id rfl
@[simp] theorem isSl_own (d : List Dt) : isSl (some (.own d)) = true := id rfl
@[simp] theorem isSl_scr (d : List Int) : isSl (some (.scr d)) = true := id rfl
@[simp ↓] theorem wE_var (i : Nat) (Q : Res → En → Prop) : wE (eVar i en) Q X = wG (isSl en[i]? = true) (Q (.slt i) en) := by
  unfold eVar wG
  cases en[i]? with
  | none => simp [isSl, wE]
  | some s => cases s <;> simp [isSl, wE]
@[simp ↓] theorem wE_dat (d : Dt) (Q : Res → En → Prop) : wE (eDat d en) Q X = Q (.dat d) en := id rfl
@[simp ↓] theorem wE_un (f : Dt → Option Res) (m : M Res) (Q : Res → En → Prop) : wE (eUn f m en) Q X = wE (m en) (fun r e => wL (vw e (asO r)) (fun d => wL (f d) (fun r => Q r e))) X := by
  show wE ((eOpd m en).bind _) Q X = _
  repeat (first | rfl | refine wE_ext fun _ _ => ?_ | refine wL_ext fun _ => ?_ | simp only [wE_bind, wE_opd, wE_lift, wL_bind])
@[simp ↓] theorem wE_bin (f : Dt → Dt → Option Res) (ma mb : M Res) (Q : Res → En → Prop) : wE (eBin f ma mb en) Q X =
    wE (ma en) (fun ra e1 => wE (mb e1) (fun rb e2 => wL (vw e2 (asO ra)) (fun a => wL (vw e2 (asO rb)) (fun b => wL (f a b) (fun r => Q r e2)))) X) X := by
  show wE ((eOpd ma en).bind _) Q X = _
  repeat (first | rfl | refine wE_ext fun _ _ => ?_ | refine wL_ext fun _ => ?_ | simp only [wE_bind, wE_opd, wE_lift, wL_bind])
@[simp ↓] theorem wE_cb (f : List Dt → Option Res) (ms : M (List Res)) (Q : Res → En → Prop) : wE (eCB f ms en) Q X = wE (ms en) (fun rs e => wL (vws e rs) (fun ds => wL (f ds) (fun r => Q r e))) X := by
  show wE ((ms en).bind _) Q X = _
  repeat (first | rfl | refine wE_ext fun _ _ => ?_ | refine wL_ext fun _ => ?_ | simp only [wE_bind, wE_lift, wL_bind])
@[simp ↓] theorem wE_nil (Q : List Res → En → Prop) : wE (eNil en) Q X = Q [] en := id rfl
@[simp ↓] theorem wE_cons (m : M Res) (ms : M (List Res)) (Q : List Res → En → Prop) : wE (eCons m ms en) Q X = wE (m en) (fun r e1 => wE (ms e1) (fun rs e2 => Q (asO r :: rs) e2) X) X := by
  show wE ((eOpd m en).bind _) Q X = _
  repeat (first | rfl | refine wE_ext fun _ _ => ?_ | refine wL_ext fun _ => ?_ | simp only [wE_bind, wE_opd, wE_ok])
@[simp ↓] theorem wE_vnil (Q : List Dt → En → Prop) : wE (vNil en) Q X = Q [] en := id rfl
@[simp ↓] theorem wE_vcons (m : M Res) (ms : M (List Dt)) (Q : List Dt → En → Prop) : wE (vCons m ms en) Q X = wE (m en) (fun r e1 => wE (toV r e1) (fun d e2 => wE (ms e2) (fun ds e3 => Q (d :: ds) e3) X) X) X := by
  show wE ((eVal m en).bind _) Q X = _
  repeat (first | rfl | refine wE_ext fun _ _ => ?_ | refine wL_ext fun _ => ?_ | simp only [wE_bind, wE_val, wE_ok])
@[simp ↓] theorem wE_tup (ms : M (List Dt)) (Q : Res → En → Prop) : wE (eTup ms en) Q X = wE (ms en) (fun ds e => wG (ds.length ≤ sizeLine) (Q (.dat (.tup ds)) e)) X := by
  show wE ((ms en).bind _) Q X = _
  rw [wE_bind]
  refine congrArg (fun z => wE (ms en) z X) (funext fun ds => funext fun e => ?_)
  by_cases h : ds.length ≤ sizeLine <;> simp [h, wG, wE]
@[simp ↓] theorem wE_lst (ms : M (List Dt)) (Q : Res → En → Prop) : wE (eLst ms en) Q X = wE (ms en) (fun ds e => wG (ds.length ≤ sizeLine) (Q (.new ds) e)) X := by
  show wE ((ms en).bind _) Q X = _
  rw [wE_bind]
  refine congrArg (fun z => wE (ms en) z X) (funext fun ds => funext fun e => ?_)
  by_cases h : ds.length ≤ sizeLine <;> simp [h, wG, wE]
@[simp ↓] theorem wE_cTru (m : M Res) (Q : Bool → En → Prop) : wE (cTru m en) Q X = wE (m en) (fun r e => wL (vw e (asO r)) (fun d => wL (fTru d) (fun b => Q b e))) X := by
  show wE ((eOpd m en).bind _) Q X = _
  repeat (first | rfl | refine wE_ext fun _ _ => ?_ | refine wL_ext fun _ => ?_ | simp only [wE_bind, wE_opd, wE_cLift, wL_bind])
@[simp ↓] theorem wE_cBl (m : M Res) (Q : Bool → En → Prop) : wE (cBl m en) Q X = wE (m en) (fun r e => wL (vw e (asO r)) (fun d => wL (asBl d) (fun b => Q b e))) X := by
  show wE ((eOpd m en).bind _) Q X = _
  repeat (first | rfl | refine wE_ext fun _ _ => ?_ | refine wL_ext fun _ => ?_ | simp only [wE_bind, wE_opd, wE_cLift, wL_bind])
@[simp ↓] theorem wE_cNot (c : M Bool) (Q : Bool → En → Prop) : wE (cNot c en) Q X = wE (c en) (fun b e => Q (!b) e) X := wE_bind _ _
theorem wE_if {γ : Type} {R : γ → En → Prop} (b : Bool) (o o' : Out γ) : wE (if b = true then o else o') R X = wI b (wE o R X) (wE o' R X) := by cases b <;> rfl
theorem wS_if (b : Bool) (o o' : OutS) : wS (if b = true then o else o') P = wI b (wS o P) (wS o' P) := by cases b <;> rfl
@[simp ↓] theorem wE_cAnd (c d : M Bool) (Q : Bool → En → Prop) : wE (cAnd c d en) Q X = wE (c en) (fun b e => wI b (wE (d e) Q X) (Q false e)) X := by
  show wE ((c en).bind _) Q X = _
  repeat (first | rfl | refine wE_ext fun _ _ => ?_ | refine wL_ext fun _ => ?_ | simp only [wE_bind, wE_if, wE_ok])
@[simp ↓] theorem wE_cOr (c d : M Bool) (Q : Bool → En → Prop) : wE (cOr c d en) Q X = wE (c en) (fun b e => wI b (Q true e) (wE (d e) Q X)) X := by
  show wE ((c en).bind _) Q X = _
  repeat (first | rfl | refine wE_ext fun _ _ => ?_ | refine wL_ext fun _ => ?_ | simp only [wE_bind, wE_if, wE_ok])
@[simp ↓] theorem wE_and (ma mb : M Res) (Q : Res → En → Prop) : wE (eAnd ma mb en) Q X = wE (cBl ma en) (fun b e => wI b (wE (mb e) Q X) (Q (.dat (.bl false)) e)) X := by
  show wE ((cBl ma en).bind _) Q X = _
  repeat (first | rfl | refine wE_ext fun _ _ => ?_ | refine wL_ext fun _ => ?_ | simp only [wE_bind, wE_if, wE_ok])
@[simp ↓] theorem wE_or (ma mb : M Res) (Q : Res → En → Prop) : wE (eOr ma mb en) Q X = wE (cBl ma en) (fun b e => wI b (Q (.dat (.bl true)) e) (wE (mb e) Q X)) X := by
  show wE ((cBl ma en).bind _) Q X = _
  repeat (first | rfl | refine wE_ext fun _ _ => ?_ | refine wL_ext fun _ => ?_ | simp only [wE_bind, wE_if, wE_ok])
@[simp ↓] theorem wE_not (ma : M Res) (Q : Res → En → Prop) : wE (eNot ma en) Q X = wE (cBl ma en) (fun b e => Q (.dat (.bl (!b))) e) X := wE_bind _ _
@[simp ↓] theorem wE_eif (c : M Bool) (ma mb : M Res) (Q : Res → En → Prop) : wE (eIf c ma mb en) Q X = wE (c en) (fun b e => wI b (wE (ma e) Q X) (wE (mb e) Q X)) X := by
  show wE ((c en).bind _) Q X = _
  repeat (first | rfl | refine wE_ext fun _ _ => ?_ | refine wL_ext fun _ => ?_ | simp only [wE_bind, wE_if])
@[simp ↓] theorem wE_yes (Q : Bool → En → Prop) : wE (cYes en) Q X = Q true en := id rfl
@[simp] theorem asBl_ (b : Bool) : asBl (.bl b) = some b := id rfl
@[simp] theorem fTru_bl_ (b : Bool) : fTru (.bl b) = some b := id rfl
@[simp] theorem fTru_int_ (i : Int) : fTru (.int i) = some (i != 0) := id rfl
@[simp] theorem fTru_non_ : fTru .non = some false := id rfl
@[simp] theorem fTru_tup_ (ds : List Dt) : fTru (.tup ds) = some (!ds.isEmpty) := id rfl
@[simp] theorem fTru_lst_ (ds : List Dt) : fTru (.lst ds) = some (!ds.isEmpty) := id rfl
-- statements
@[simp ↓] theorem wS_sif (c : M Bool) (ma mb : MS) : wS (sIf c ma mb en) P = wE (c en) (fun b e => wI b (wS (ma e) P) (wS (mb e) P)) P.ex := by
  show wS ((c en).then _) P = _
  repeat (first | rfl | refine wE_ext fun _ _ => ?_ | refine wL_ext fun _ => ?_ | simp only [wS_then, wS_if])
@[simp ↓] theorem wS_drop (m : M Res) : wS (sDrop m en) P = wE (m en) (fun _ e => P.nx e) P.ex := wS_then _ _
@[simp ↓] theorem wS_set (i : Nat) (m : M Res) : wS (sSet i m en) P = wE (m en) (fun r e => wS (putR i r e) P) P.ex := wS_then _ _
@[simp ↓] theorem wS_put_dat (i : Nat) (d : Dt) : wS (putR i (.dat d) en) P = P.nx (en.set i (.val d)) := id rfl
@[simp ↓] theorem wS_put_new (i : Nat) (d : List Dt) : wS (putR i (.new d) en) P = P.nx (en.set i (.own d)) := id rfl
@[simp ↓] theorem wS_put_slt (i j : Nat) : wS (putR i (.slt j) en) P = wL en[j]? (fun s => wV s (fun d => P.nx (en.set i (.val d))) (fun ds => P.nx ((en.set j (.val (.lst ds))).set i (.val (.lst ds))))) := by
  unfold putR
  cases h : en[j]? with
  | none => simp [h, wS, wL]
  | some s => cases s <;> simp [h, wS, wL, wV]
/-- what is handed back -/
def wR (fx : Nat) (r : Res) (en : En) (k : Res → En → Prop) : Prop := match r with
  | .dat d => k (.dat d) en
  | .new ds => k (.new ds) en
  | .slt i => wL en[i]? fun s => wV s (fun d => k (.dat d) en) (fun ds => wG (fx ≤ i) (k (.new ds) (en.set i .un)))
@[simp ↓] theorem wR_dat (fx : Nat) (d : Dt) (k : Res → En → Prop) : wR fx (.dat d) en k = k (.dat d) en := id rfl
@[simp ↓] theorem wR_new (fx : Nat) (d : List Dt) (k : Res → En → Prop) : wR fx (.new d) en k = k (.new d) en := id rfl
@[simp ↓] theorem wR_slt (fx i : Nat) (k : Res → En → Prop) : wR fx (.slt i) en k = wL en[i]? fun s => wV s (fun d => k (.dat d) en) (fun ds => wG (fx ≤ i) (k (.new ds) (en.set i .un))) := id rfl
@[simp ↓] theorem wS_sret (fx : Nat) (m : M Res) : wS (sRet fx m en) P = wE (m en) (fun r e => wR fx r e P.rt) P.ex := by
  show wS ((m en).then _) P = _
  rw [wS_then]
  refine congrArg (fun z => wE (m en) z P.ex) (funext fun r => funext fun e => ?_)
  cases r with
  | dat d => rfl
  | new ds => rfl
  | slt i =>
    rw [wR]
    cases h : e[i]? with
    | none => simp [h, wS, wL]
    | some s =>
      cases s with
      | own ds => by_cases g : fx ≤ i <;> simp [h, g, wS, wL, wV, wG]
      | _ => simp [h, wS, wL, wV]
@[simp ↓] theorem wS_raise (c : Str) (m : M Res) : wS (sRaise c m en) P = wE (m en) (fun r e => wE (toV r e) (fun d e1 => P.ex c d e1) P.ex) P.ex := by
  show wS ((eVal m en).then _) P = _
  repeat (first | rfl | refine wE_ext fun _ _ => ?_ | refine wL_ext fun _ => ?_ | simp only [wS_then, wE_val, wS_exc])
@[simp ↓] theorem wS_sfor (mi : M (List Dt)) (g : Dt → En → Option En) (mb : MS) : wS (sFor mi g mb en) P = wE (mi en) (fun ds e => wS (forL g mb ds e) P) P.ex := wS_then _ _
@[simp ↓] theorem wS_for_nil (g : Dt → En → Option En) (mb : MS) : wS (forL g mb [] en) P = P.nx en := id rfl
theorem wS_for_cons (g : Dt → En → Option En) (mb : MS) (d : Dt) (ds : List Dt) : wS (forL g mb (d :: ds) en) P = wL (g d en) (fun e => wS (mb e) ⟨fun e2 => wS (forL g mb ds e2) P, P.rt, P.ex, P.nx, fun e2 => wS (forL g mb ds e2) P⟩) := by
  rw [forL]
  cases g d en with
  | none => rfl
  | some e =>
    simp only [wL_some]
    cases mb e <;> rfl
/-- a loop by what holds ahead of each turn -/
theorem wS_for {g : Dt → En → Option En} {mb : MS} (I : List Dt → En → Prop) {ds : List Dt} (h0 : I ds en) (hn : ∀ e, I [] e → P.nx e)
    (hs : ∀ d ds e, I (d :: ds) e → wL (g d e) (fun e1 => wS (mb e1) ⟨fun e => Hold (I ds) e, P.rt, P.ex, P.nx, fun e => Hold (I ds) e⟩)) : wS (forL g mb ds en) P := by
  induction ds generalizing en with
  | nil => exact hn _ h0
  | cons d ds ih =>
    have q := hs d ds en h0
    rw [wS_for_cons]
    cases e : g d en with
    | none => rw [e] at q; exact q
    | some e1 =>
      rw [e] at q
      simp only [wL_some] at q ⊢
      cases z : mb e1 <;> rw [z] at q <;> first | exact ih q | exact q
theorem wS_cut {m f : MS} {P : Wq} {en : En} (R : En → Prop) (h1 : wS (m en) (P.setNx fun e => Hold R e)) (h2 : ∀ e, R e → wS (f e) P) : wS (sSeq m f en) P := by
  rw [wS_sSeq]
  cases z : m en <;> rw [z] at h1 <;> first | exact h2 _ h1 | exact h1
@[simp ↓] theorem wS_asg (m : M Res) (g : Dt → En → Option En) : wS (sAsg m g en) P = wE (m en) (fun r e => wE (toV r e) (fun d e1 => wL (g d e1) P.nx) P.ex) P.ex := by
  show wS ((eVal m en).then _) P = _
  repeat (first | rfl | refine wE_ext fun _ _ => ?_ | refine wL_ext fun _ => ?_ | simp only [wS_then, wE_val])
  rename_i d e1
  cases g d e1 <;> rfl
@[simp ↓] theorem wL_gNm (i : Nat) (d : Dt) (k : En → Prop) : wL (gNm i d en) k = k (en.set i (.val d)) := id rfl
@[simp ↓] theorem wL_gN0 (k : En → Prop) : wL (gN0 [] en) k = k en := id rfl
@[simp ↓] theorem wL_gC (g : Dt → En → Option En) (gs : List Dt → En → Option En) (d : Dt) (ds : List Dt) (k : En → Prop) : wL (gC g gs (d :: ds) en) k = wL (g d en) (fun e => wL (gs ds e) k) := wL_bind _ _
@[simp ↓] theorem wL_gTp (n : Nat) (gs : List Dt → En → Option En) (ds : List Dt) (k : En → Prop) : wL (gTp n gs (.tup ds) en) k = wG (ds.length = n) (wL (gs ds en) k) := by
  show wL (if ds.length = n then gs ds en else none) k = _
  by_cases h : ds.length = n <;> simp [h, wG]
@[simp ↓] theorem wL_gTpL (n : Nat) (gs : List Dt → En → Option En) (ds : List Dt) (k : En → Prop) : wL (gTp n gs (.lst ds) en) k = wG (ds.length = n) (wL (gs ds en) k) := by
  show wL (if ds.length = n then gs ds en else none) k = _
  by_cases h : ds.length = n <;> simp [h, wG]
@[simp ↓] theorem wS_par2 (i j : Nat) (m1 m2 : M Res) : wS (sPar2 i j m1 m2 en) P = wE (m1 en) (fun r1 e1 => wE (m2 e1) (fun r2 e2 => wE (toR r1 e2) (fun s1 e3 => wE (toR r2 e3) (fun s2 e4 => wS (putR i s1 e4) (P.setNx fun e => wS (putR j s2 e) P)) P.ex) P.ex) P.ex) P.ex := by
  show wS ((m1 en).then _) P = _
  repeat (first | rfl | refine wE_ext fun _ _ => ?_ | refine wL_ext fun _ => ?_ | simp only [wS_then, wS_seq])
@[simp ↓] theorem wS_par3 (i j l : Nat) (m1 m2 m3 : M Res) : wS (sPar3 i j l m1 m2 m3 en) P = wE (m1 en) (fun r1 e1 => wE (m2 e1) (fun r2 e2 => wE (m3 e2) (fun r3 e3 => wE (toR r1 e3) (fun s1 e4 => wE (toR r2 e4) (fun s2 e5 => wE (toR r3 e5) (fun s3 e6 => wS (putR i s1 e6) (P.setNx fun e => wS (putR j s2 e) (P.setNx fun e => wS (putR l s3 e) P))) P.ex) P.ex) P.ex) P.ex) P.ex) P.ex := by
  show wS ((m1 en).then _) P = _
  repeat (first | rfl | refine wE_ext fun _ _ => ?_ | refine wL_ext fun _ => ?_ | simp only [wS_then, wS_seq])
  rename_i e6
  exact congrArg (fun z => wS (putR i _ _) (P.setNx z)) (funext fun e => wS_seq _ _)
/-- behind a caught exception -/
def Wq.off (P : Wq) (i : Nat) : Wq := ⟨fun e => P.nx (e.set i .un), fun r e => P.rt r (e.set i .un), fun _ _ _ => False, fun e => P.bk (e.set i .un), fun e => P.co (e.set i .un)⟩
@[simp ↓] theorem Wq.off_nx (i : Nat) : (P.off i).nx en = P.nx (en.set i .un) := id rfl
@[simp ↓] theorem Wq.off_rt (i : Nat) (r : Res) : (P.off i).rt r en = P.rt r (en.set i .un) := id rfl
@[simp ↓] theorem Wq.off_ex (i : Nat) (c : Str) (d : Dt) : (P.off i).ex c d en = False := id rfl
theorem wS_outOf (i : Nat) (o : OutS) : wS (outOf i o) P = wS o (P.off i) := by cases o <;> rfl
def Wq.try (P : Wq) (ns : List Str) (c : Str) (i : Nat) (ms : MS) : Wq := { P with ex := fun c' d e => wG (ns.contains c' = true) (wI (xsub c' c) (wS (ms (e.set i (.val (.exo c' d)))) (P.off i)) (P.ex c' d e)) }
@[simp ↓] theorem Wq.try_nx (ns : List Str) (c : Str) (i : Nat) (ms : MS) : (P.try ns c i ms).nx en = P.nx en := id rfl
@[simp ↓] theorem Wq.try_rt (ns : List Str) (c : Str) (i : Nat) (ms : MS) (r : Res) : (P.try ns c i ms).rt r en = P.rt r en := id rfl
@[simp ↓] theorem Wq.try_ex (ns : List Str) (c : Str) (i : Nat) (ms : MS) (c' : Str) (d : Dt) : (P.try ns c i ms).ex c' d en = wG (ns.contains c' = true) (wI (xsub c' c) (wS (ms (en.set i (.val (.exo c' d)))) (P.off i)) (P.ex c' d en)) := id rfl
@[simp ↓] theorem wS_try (ns : List Str) (c : Str) (i : Nat) (mb ms : MS) : wS (sTry ns c i mb ms en) P = wS (mb en) (P.try ns c i ms) := by
  unfold sTry
  cases h : mb en with
  | exc c' d e =>
    show wS (if ns.contains c' = true then (if xsub c' c = true then outOf i (ms (e.set i (.val (.exo c' d)))) else .exc c' d e) else .stuck) P = wG (ns.contains c' = true) (wI (xsub c' c) (wS (ms (e.set i (.val (.exo c' d)))) (P.off i)) (P.ex c' d e))
    by_cases h1 : ns.contains c' = true
    · rw [if_pos h1, eq_true h1, wG_true, wS_if, wS_outOf, wS_exc]
    · rw [if_neg h1]
      exact (eq_false fun z : wG (ns.contains c' = true) _ => h1 z.1).symm
  | _ => rfl
-- calls
@[simp ↓] theorem wE_out (o : FOut) (Q : Res → En → Prop) : wE (o.out en) Q X = wF o (fun r => Q r en) (fun c d => X c d en) := by
  cases o with
  | ret r => cases r <;> rfl
  | exc c d => rfl
  | stuck => rfl
theorem wE_iteG {γ : Type} {R : γ → En → Prop} (c : Prop) [Decidable c] (o : Out γ) : wE (if c then o else .stuck) R X = wG c (wE o R X) := by
  by_cases h : c <;> simp [h, wG, wE]
theorem wS_iteG (c : Prop) [Decidable c] (o : OutS) : wS (if c then o else .stuck) P = wG c (wS o P) := by
  by_cases h : c <;> simp [h, wG, wS]
@[simp ↓] theorem wE_call (n : Nat) (sem : FS) (ms : M (List Dt)) (Q : Res → En → Prop) : wE (eCall n sem ms en) Q X = wE (ms en) (fun ds e => wG (ds.length = n) (wF (sem ds) (fun r => Q r e) (fun c d => X c d e))) X := by
  show wE ((ms en).bind _) Q X = _
  rw [wE_bind]
  refine wE_ext fun ds e => ?_
  rw [wE_iteG, wE_out]
@[simp ↓] theorem wE_callK (n nk : Nat) (pm : List Nat) (sem : FS) (ms : M (List Dt)) (Q : Res → En → Prop) : wE (eCallK n nk pm sem ms en) Q X = wE (ms en) (fun ds e => wG (ds.length = nk) (wG ((pmL pm ds).length = n) (wF (sem (pmL pm ds)) (fun r => Q r e) (fun c d => X c d e)))) X := by
  show wE (eCall n sem _ en) Q X = _
  rw [wE_call]
  show wE ((ms en).bind _) _ X = _
  rw [wE_bind]
  refine wE_ext fun ds e => ?_
  rw [wE_iteG]; rfl
@[simp] theorem ownAt_ (i : Nat) : ownAt en i = en[i]?.bind fun s => match s with | .own ds => some ds | _ => none := by
  unfold ownAt
  cases en[i]? with
  | none => rfl
  | some s => cases s <;> rfl
@[simp] theorem isOwn_ (i : Nat) : isOwn en i = (ownAt en i).isSome := by
  unfold isOwn ownAt
  cases en[i]? with
  | none => rfl
  | some s => cases s <;> rfl
theorem wFR_out (o : FOutR) (i : Nat) (Q : Res → En → Prop) : wE (o.out i en) Q X = wFR o (fun r cs => Q r (en.set i (.own cs))) := by
  cases o with
  | ret r cs => cases r <;> rfl
  | stuck => rfl
@[simp ↓] theorem wE_callR (n : Nat) (sem : FSR) (i : Nat) (ms : M (List Dt)) (Q : Res → En → Prop) : wE (eCallR n sem i ms en) Q X = wG (isOwn en i = true) (wE (ms en) (fun ds e => wL (ownAt e i) (fun cs => wG (ds.length + 1 = n) (wFR (sem cs ds) (fun r cs' => Q r (e.set i (.own cs')))))) X) := by
  show wE (if isOwn en i = true then (ms en).bind _ else .stuck) Q X = _
  rw [wE_iteG, wE_bind]
  refine congrArg (fun z => wG (isOwn en i = true) (wE (ms en) z X)) (funext fun ds => funext fun e => ?_)
  unfold ownAt
  cases e[i]? with
  | none => rfl
  | some s =>
    cases s with
    | own cs =>
      show wE (if ds.length + 1 = n then (sem cs ds).out i e else .stuck) Q X = _
      rw [wE_iteG, wFR_out]; rfl
    | _ => rfl
theorem wF_sem (n : Nat) (m : MS) (ds : List Dt) (Q : Res → Prop) (X : Str → Dt → Prop) : wF (semF n m ds) Q X = wS (m (startE n ds)) ⟨fun _ => Q (.dat .non), fun r _ => wF (.ret r) Q X, fun c d _ => X c d, fun _ => False, fun _ => False⟩ := by
  unfold semF
  cases m (startE n ds) <;> rfl
theorem wF_eq {o : FOut} {R : Res} (h : wF o (fun r => r = R) (fun _ _ => False)) : o = .ret R := by
  cases o with
  | ret r => cases r <;> first | exact congrArg FOut.ret h | exact h.elim
  | exc c d => exact h.elim
  | stuck => exact h.elim
theorem wF_eqx {o : FOut} {c : Str} {d : Dt} (h : wF o (fun _ => False) (fun c' d' => c' = c ∧ d' = d)) : o = .exc c d := by
  cases o with
  | ret r => cases r <;> exact h.elim
  | exc c d => obtain ⟨h1, h2⟩ := h; rw [h1, h2]
  | stuck => exact h.elim
theorem wFR_sem (n : Nat) (m : MS) (cs ds : List Dt) (Q : Res → List Dt → Prop) : wFR (semR n m cs ds) Q = wS (m (startR n cs ds)) ⟨fun e => wL (ownAt e 0) fun cs => Q (.dat .non) cs, fun r e => wL (ownAt e 0) fun cs => wFR (.ret r cs) Q, fun _ _ _ => False, fun _ => False, fun _ => False⟩ := by
  unfold semR
  cases m (startR n cs ds) with
  | nx en =>
    unfold OutS.foutR ownAt
    simp only [wS_nx]
    cases en[(0 : Nat)]? with
    | none => rfl
    | some s => cases s <;> rfl
  | ret r en =>
    unfold OutS.foutR ownAt
    simp only [wS_ret]
    cases en[(0 : Nat)]? with
    | none => rfl
    | some s => cases s <;> rfl
  | _ => rfl
/-- the law's end -/
theorem law_of {m : MS} {en : En} (h : wS (m en) ⟨fun _ => False, fun r _ => r = .dat (.bl true), fun _ _ _ => False, fun _ => False, fun _ => False⟩) : ∃ e, m en = .ret (.dat (.bl true)) e := by
  cases z : m en <;> rw [z] at h <;> first | exact ⟨_, by rw [show _ = Res.dat (.bl true) from h]⟩ | exact h.elim
-- comprehensions
def rsl : Option Sl → Sl
  | some s => s
  | none => .un
@[simp] theorem rsl_some (s : Sl) : rsl (some s) = s := id rfl
@[simp] theorem restE_nil (a b : En) : restE a b [] = b := id rfl
@[simp] theorem restE_cons (a b : En) (v : Nat) (vs : List Nat) : restE a b (v :: vs) = (restE a b vs).set v (rsl a[v]?) := by
  rw [restE]; cases a[v]? <;> rfl
@[simp] theorem wipeE_nil (a : En) : wipeE a [] = a := id rfl
@[simp] theorem wipeE_cons (a : En) (v : Nat) (vs : List Nat) : wipeE a (v :: vs) = (wipeE a vs).set v .un := id rfl
theorem wE_calm {γ : Type} (o : Out γ) (R : γ → En → Prop) : wE o.calm R (fun _ _ _ => False) = wE o R (fun _ _ _ => False) := by cases o <;> rfl
@[simp ↓] theorem wE_comp (mi : M (List Dt)) (g : Dt → En → Option En) (c : M Bool) (me : M Res) (vs : List Nat) (Q : Res → En → Prop) : wE (eComp mi g c me vs en) Q X = wE (mi en) (fun ds e => wE (compL g c me vs ds [] (wipeE e vs)) (fun ys e2 => Q (.new ys) (restE e e2 vs)) X) X := by
  show wE ((mi en).bind _) Q X = _
  repeat (first | rfl | refine wE_ext fun _ _ => ?_ | refine wL_ext fun _ => ?_ | simp only [wE_bind, wE_ok])
theorem wE_compL_cons (g : Dt → En → Option En) (c : M Bool) (me : M Res) (vs : List Nat) (d : Dt) (ds acc : List Dt) (Q : List Dt → En → Prop)
    (h : wL (g d en) (fun e1 => wE (c e1) (fun b e2 => wI b (wE (eVal me e2) (fun y e3 => wG (acc.length < sizeLine) (wE (compL g c me vs ds (acc ++ [y]) (wipeE e3 vs)) Q X)) (fun _ _ _ => False)) (wE (compL g c me vs ds acc (wipeE e2 vs)) Q X)) (fun _ _ _ => False))) :
    wE (compL g c me vs (d :: ds) acc en) Q X := by
  unfold compL
  cases e : g d en with
  | none => rw [e] at h; exact h
  | some e1 =>
    rw [e] at h
    simp only [wL_some] at h
    dsimp only
    cases e2 : c e1 with
    | ok b en2 =>
      rw [e2] at h
      simp only [wE_ok, Out.calm] at h ⊢
      cases b with
      | false => exact h
      | true =>
        simp only [wI_true, if_true] at h ⊢
        cases e3 : eVal me en2 with
        | ok y en3 =>
          rw [e3] at h
          obtain ⟨h1, h2⟩ := h
          simp only [Out.calm]
          rw [if_pos h1]; exact h2
        | exc _ _ _ => rw [e3] at h; exact h.elim
        | stuck => rw [e3] at h; exact h.elim
    | exc _ _ _ => rw [e2] at h; exact h.elim
    | stuck => rw [e2] at h; exact h.elim
/-- a comprehension by what holds ahead of each turn -/
theorem wE_compI {g : Dt → En → Option En} {c : M Bool} {me : M Res} {vs : List Nat} {Q : List Dt → En → Prop} (I : List Dt → List Dt → En → Prop) {ds acc : List Dt} (h0 : I ds acc en) (hl : acc.length + ds.length ≤ sizeLine)
    (hn : ∀ acc e, I [] acc e → Q acc e)
    (hs : ∀ d ds acc e, I (d :: ds) acc e → wL (g d e) (fun e1 => wE (c e1) (fun b e2 => wI b (wE (eVal me e2) (fun y e3 => Hold (I ds (acc ++ [y])) (wipeE e3 vs)) (fun _ _ _ => False)) (Hold (I ds acc) (wipeE e2 vs))) (fun _ _ _ => False))) :
    wE (compL g c me vs ds acc en) Q X := by
  induction ds generalizing acc en with
  | nil => exact hn _ _ h0
  | cons d ds ih =>
    refine wE_compL_cons _ _ _ _ _ _ _ _ ?_
    have q := hs d ds acc en h0
    rw [List.length_cons] at hl
    cases e : g d en with
    | none => rw [e] at q; exact q
    | some e1 =>
      rw [e] at q
      simp only [wL_some] at q ⊢
      cases e2 : c e1 with
      | ok b en2 =>
        rw [e2] at q
        simp only [wE_ok] at q ⊢
        cases b with
        | false => exact ih q (by omega)
        | true =>
          simp only [wI_true] at q ⊢
          cases e3 : eVal me en2 with
          | ok y en3 =>
            rw [e3] at q
            exact ⟨by omega, ih q (by rw [List.length_append]; simp only [List.length_cons, List.length_nil]; omega)⟩
          | exc _ _ _ => rw [e3] at q; exact q.elim
          | stuck => rw [e3] at q; exact q.elim
      | exc _ _ _ => rw [e2] at q; exact q.elim
      | stuck => rw [e2] at q; exact q.elim
/-- each by a function, some left out -/
theorem wE_compF {g : Dt → En → Option En} {c : M Bool} {me : M Res} {vs : List Nat} {Q : List Dt → En → Prop} (p : Dt → Bool) (φ : Dt → Dt) {ds : List Dt} (hl : ds.length ≤ sizeLine) (hq : Q ((ds.filter p).map φ) en)
    (hs : ∀ d ∈ ds, wL (g d en) (fun e1 => wE (c e1) (fun b e2 => b = p d ∧ wI b (wE (eVal me e2) (fun y e3 => y = φ d ∧ wipeE e3 vs = en) (fun _ _ _ => False)) (wipeE e2 vs = en)) (fun _ _ _ => False))) :
    wE (compL g c me vs ds [] en) Q X := by
  refine wE_compI (fun r acc e => (∀ d ∈ r, d ∈ ds) ∧ e = en ∧ acc ++ (r.filter p).map φ = (ds.filter p).map φ) ⟨fun _ h => h, rfl, by simp⟩ (by simpa using hl) (fun acc e ⟨_, h1, h2⟩ => by subst h1; rw [← h2] at hq; simpa using hq) ?_
  intro d r acc e ⟨h0, h1, h2⟩
  subst h1
  have q := hs d (h0 d List.mem_cons_self)
  have h0' : ∀ d' ∈ r, d' ∈ ds := fun d' h => h0 d' (List.mem_cons_of_mem _ h)
  cases e0 : g d e with
  | none => rw [e0] at q; exact q
  | some e1 =>
    rw [e0] at q
    simp only [wL_some] at q ⊢
    cases e2 : c e1 with
    | ok b en2 =>
      rw [e2] at q
      simp only [wE_ok] at q ⊢
      obtain ⟨q1, q⟩ := q
      cases b with
      | false => exact ⟨h0', q, by rw [← h2, List.filter_cons, ← q1]; rfl⟩
      | true =>
        simp only [wI_true] at q ⊢
        cases e3 : eVal me en2 with
        | ok y en3 =>
          rw [e3] at q
          obtain ⟨q2, q3⟩ := q
          exact ⟨h0', q3, by rw [← h2, List.filter_cons, ← q1, q2]; simp⟩
        | exc _ _ _ => rw [e3] at q; exact q.elim
        | stuck => rw [e3] at q; exact q.elim
    | exc _ _ _ => rw [e2] at q; exact q.elim
    | stuck => rw [e2] at q; exact q.elim
end
end Fw

namespace Fw
open PySem PySem.Spec PyProof.Rows L2
def wN (d : Dt) (k : Int → Prop) (_ : Tg k := .mk) : Prop := match d with
  | .int i => k i
  | _ => False
def wT (d : Dt) (k : Wd → Prop) (_ : Tg k := .mk) : Prop := match d with
  | .str i => k i
  | _ => False
def wX (d : Dt) (k : Str → Dt → Prop) (_ : Tg k := .mk) : Prop := match d with
  | .exo c d => k c d
  | _ => False
def wLs (d : Dt) (k : List Dt → Prop) (_ : Tg k := .mk) : Prop := match d with
  | .lst c => k c
  | _ => False
def wB (d : Res) (k : Bool → Prop) (_ : Tg k := .mk) : Prop := match d with
  | .dat (.bl b) => k b
  | _ => False
def wSc (s : Sl) (k : List Int → Prop) (_ : Tg k := .mk) : Prop := match s with
  | .scr ns => k ns
  | _ => False
@[simp] theorem wN_ (i : Int) (k : Int → Prop) : wN (.int i) k = k i := id rfl
@[simp] theorem wT_ (i : Wd) (k : Wd → Prop) : wT (.str i) k = k i := id rfl
@[simp] theorem wX_ (c : Str) (d : Dt) (k : Str → Dt → Prop) : wX (.exo c d) k = k c d := id rfl
@[simp] theorem wLs_ (i : List Dt) (k : List Dt → Prop) : wLs (.lst i) k = k i := id rfl
@[simp] theorem wB_ (b : Bool) (k : Bool → Prop) : wB (.dat (.bl b)) k = k b := id rfl
@[simp] theorem wSc_ (b : List Int) (k : List Int → Prop) : wSc (.scr b) k = k b := id rfl
section
variable {α β : Type} {Q : Res → En → Prop} {X : Str → Dt → En → Prop} {P : Wq} {en : En}
@[simp ↓] theorem wE_isi (ts : List String) (m : M Res) : wE (eIsi ts m en) Q X = wE (m en) (fun r e => wL (vw e (asO r)) (fun d => wG (isX d = false) (Q (.dat (.bl (ts.any (isTy d)))) e))) X := by
  show wE ((eOpd m en).bind _) Q X = _
  rw [wE_bind, wE_opd]
  refine wE_ext fun r e => ?_
  cases vw e (asO r) with
  | none => rfl
  | some d => cases h : isX d <;> simp [h, wE, wL, wG]
@[simp ↓] theorem wE_isX (ns : List Str) (f : Str → Bool) (m : M Res) : wE (eIsX ns f m en) Q X = wE (m en) (fun r e => wL (vw e (asO r)) (fun d => wX d fun c _ => wG (ns.contains c = true) (Q (.dat (.bl (f c))) e))) X := by
  show wE ((eOpd m en).bind _) Q X = _
  rw [wE_bind, wE_opd]
  refine wE_ext fun r e => ?_
  cases vw e (asO r) with
  | none => rfl
  | some d =>
    cases d with
    | exo c d =>
      show wE (if ns.contains c = true then _ else Out.stuck) Q X = _
      rw [wE_iteG]; rfl
    | _ => rfl
@[simp ↓] theorem wE_vle (ns : List Str) (m : M Res) : wE (eVle ns m en) Q X = wE (m en) (fun r e => wL (vw e (asO r)) (fun d => wX d fun c d => wG (ns.contains c = true) (Q (.dat d) e))) X := by
  show wE ((eOpd m en).bind _) Q X = _
  rw [wE_bind, wE_opd]
  refine wE_ext fun r e => ?_
  cases vw e (asO r) with
  | none => rfl
  | some d =>
    cases d with
    | exo c d =>
      show wE (if ns.contains c = true then _ else Out.stuck) Q X = _
      rw [wE_iteG]; rfl
    | _ => rfl
@[simp ↓] theorem wE_newX (c : Str) (m : M Res) : wE (eNewX c m en) Q X = wE (m en) (fun r e => wE (toV r e) (fun d e1 => Q (.dat (.exo c d)) e1) X) X := by
  show wE ((eVal m en).bind _) Q X = _
  rw [wE_bind, wE_val]; rfl
@[simp ↓] theorem wE_range1 (m : M Res) (Q : List Dt → En → Prop) : wE (iRange1 m en) Q X = wE (m en) (fun r e => wL (vw e (asO r)) (fun d => wN d fun j => wG (inB62 j) (Q (rangeD 0 j) e))) X := by
  show wE ((eOpd m en).bind _) Q X = _
  rw [wE_bind, wE_opd]
  refine wE_ext fun r e => ?_
  cases vw e (asO r) with
  | none => rfl
  | some d =>
    cases d with
    | int j =>
      show wE (if inB62 j then _ else Out.stuck) Q X = _
      rw [wE_iteG]; rfl
    | _ => rfl
@[simp ↓] theorem wE_range2 (ma mb : M Res) (Q : List Dt → En → Prop) : wE (iRange2 ma mb en) Q X = wE (ma en) (fun ra e1 => wE (mb e1) (fun rb e => wL (vw e (asO ra)) (fun d => wN d fun i => wL (vw e (asO rb)) fun d => wN d fun j => wG (inB62 i ∧ inB62 j) (Q (rangeD i j) e))) X) X := by
  show wE ((eOpd ma en).bind _) Q X = _
  rw [wE_bind, wE_opd]
  refine wE_ext fun ra e1 => ?_
  show wE ((eOpd mb e1).bind _) Q X = _
  rw [wE_bind, wE_opd]
  refine wE_ext fun rb e => ?_
  cases vw e (asO ra) with
  | none => rfl
  | some d =>
    cases d with
    | int i =>
      cases vw e (asO rb) with
      | none => rfl
      | some d =>
        cases d with
        | int j =>
          show wE (if inB62 i ∧ inB62 j then _ else Out.stuck) Q X = _
          rw [wE_iteG]; rfl
        | _ => rfl
    | _ => rfl
@[simp ↓] theorem wE_seq (m : M Res) (Q : List Dt → En → Prop) : wE (iSeq m en) Q X = wE (m en) (fun r e => wE (toV r e) (fun d e1 => wL (fIter d) fun ds => Q ds e1) X) X := by
  show wE ((eVal m en).bind _) Q X = _
  rw [wE_bind, wE_val]
  refine wE_ext fun r e => wE_ext fun d e1 => ?_
  cases fIter d <;> rfl
@[simp] theorem fIter_l (ds : List Dt) : fIter (.lst ds) = some ds := id rfl
@[simp] theorem fIter_t (ds : List Dt) : fIter (.tup ds) = some ds := id rfl
@[simp] theorem fIter_s (x : Wd) : fIter (.str x) = some (x.map fun c => .str [c]) := id rfl
@[simp ↓] theorem wE_oNone (Q : Option Int → En → Prop) : wE (oNone en) Q X = Q none en := id rfl
@[simp ↓] theorem wE_oSome (m : M Res) (Q : Option Int → En → Prop) : wE (oSome m en) Q X = wE (m en) (fun r e => wL (vw e (asO r)) (fun d => wN d fun j => Q (some j) e)) X := by
  show wE ((eOpd m en).bind _) Q X = _
  rw [wE_bind, wE_opd]
  refine wE_ext fun r e => ?_
  cases vw e (asO r) with
  | none => rfl
  | some d => cases d <;> rfl
@[simp ↓] theorem wE_slice (m : M Res) (lo hi : M (Option Int)) : wE (eSlice m lo hi en) Q X = wE (m en) (fun r e1 => wE (lo e1) (fun l e2 => wE (hi e2) (fun h e3 => wL (vw e3 (asO r)) fun d => wL (fSl d l h) fun r => Q r e3) X) X) X := by
  show wE ((eOpd m en).bind _) Q X = _
  rw [wE_bind, wE_opd]
  refine wE_ext fun r e => ?_
  rw [wE_bind]
  refine wE_ext fun l e2 => ?_
  rw [wE_bind]
  refine wE_ext fun h e3 => ?_
  rw [wE_lift, wL_bind]
@[simp ↓] theorem wE_chain (f g : Dt → Dt → Option Res) (ma mb mc : M Res) : wE (eChain f g ma mb mc en) Q X =
    wE (ma en) (fun ra e1 => wE (mb e1) (fun rb e2 => wL (vw e2 (asO ra)) fun a => wL (vw e2 (asO rb)) fun b => wL (f a b) fun r => wB r fun k => wI k (wE (mc e2) (fun rc e3 => wL (vw e3 (asO rb)) fun b => wL (vw e3 (asO rc)) fun c => wL (g b c) fun r => Q r e3) X) (Q (.dat (.bl false)) e2)) X) X := by
  show wE ((eOpd ma en).bind _) Q X = _
  rw [wE_bind, wE_opd]
  refine wE_ext fun ra e1 => ?_
  rw [wE_bind, wE_opd]
  refine wE_ext fun rb e2 => ?_
  cases vw e2 (asO ra) with
  | none => rfl
  | some a =>
    cases hb : vw e2 (asO rb) with
    | none => rfl
    | some b =>
      simp only [some_bind_, wL_some]
      cases f a b with
      | none => rfl
      | some r =>
        cases r with
        | dat d =>
          cases d with
          | bl k =>
            show wE (if k = true then _ else _) Q X = _
            simp only [wE_if, wL_some, wB_]
            refine congrArg (fun z => wI k z _) ?_
            rw [wE_bind, wE_opd]
            refine wE_ext fun rc e3 => ?_
            rw [wE_lift, wL_bind]
            refine wL_ext fun b => ?_
            rw [wL_bind]
          | _ => rfl
        | _ => rfl
@[simp ↓] theorem wE_m1 (f : Wd → Dt → Option Res) (mo me : M Res) : wE (eM1 f mo me en) Q X = wE (mo en) (fun r e => wE (toV r e) (fun o e1 => wT o fun a => wE (me e1) (fun r2 e2 => wL (vw e2 (asO r2)) fun d => wL (f a d) fun r => Q r e2) X) X) X := by
  show wE ((eVal mo en).bind _) Q X = _
  rw [wE_bind, wE_val]
  refine wE_ext fun r e => wE_ext fun o e1 => ?_
  cases o with
  | str a =>
    show wE ((eOpd me e1).bind _) Q X = _
    rw [wE_bind, wE_opd]
    refine wE_ext fun r2 e2 => ?_
    rw [wE_lift, wL_bind]
  | _ => rfl
@[simp ↓] theorem wE_scr (i : Nat) : wE (eScr i en) Q X = wL en[i]? (fun s => wSc s fun ns => Q (.new (ns.map .int)) en) := by
  unfold eScr
  cases en[i]? with
  | none => rfl
  | some s => cases s <;> rfl
@[simp ↓] theorem wE_app (i : Nat) (m : M Res) : wE (eApp i m en) Q X = wG ((ownAt en i).isSome = true) (wE (m en) (fun r e => wE (toV r e) (fun d e1 => wL (ownAt e1 i) (fun ds => wG (ds.length < sizeLine) (Q (.dat .non) (e1.set i (.own (ds ++ [d])))))) X) X) := by
  show wE (if (ownAt en i).isSome = true then (eVal m en).bind _ else .stuck) Q X = _
  rw [wE_iteG, wE_bind, wE_val]
  refine congrArg (fun z => wG _ z) (wE_ext fun r e => wE_ext fun d e1 => ?_)
  cases ownAt e1 i with
  | none => rfl
  | some ds =>
    show wE (if ds.length < sizeLine then _ else Out.stuck) Q X = _
    rw [wE_iteG]; rfl
@[simp ↓] theorem wE_ext' (i : Nat) (m : M Res) : wE (eExt i m en) Q X = wG ((ownAt en i).isSome = true) (wE (m en) (fun r e => wL (ownAt e i) fun ds => wL (vw e (asO r)) fun d => wLs d fun es => wG (ds.length + es.length ≤ sizeLine) (Q (.dat .non) (e.set i (.own (ds ++ es))))) X) := by
  show wE (if (ownAt en i).isSome = true then (eOpd m en).bind _ else .stuck) Q X = _
  rw [wE_iteG, wE_bind, wE_opd]
  refine congrArg (fun z => wG _ z) (wE_ext fun r e => ?_)
  cases ownAt e i with
  | none => rfl
  | some ds =>
    cases vw e (asO r) with
    | none => rfl
    | some d =>
      cases d with
      | lst es =>
        show wE (if ds.length + es.length ≤ sizeLine then _ else Out.stuck) Q X = _
        rw [wE_iteG]; rfl
      | _ => rfl
@[simp ↓] theorem wE_pop (i : Nat) (m : M Res) : wE (ePop i m en) Q X = wG ((ownAt en i).isSome = true) (wE (m en) (fun r e => wL (ownAt e i) fun ds => wL (vw e (asO r)) fun d => wN d fun j => wG (inB62 j) (wL (ixN ds.length j) fun k => wL ds[k]? fun d => Q (.dat d) (e.set i (.own (ds.eraseIdx k))))) X) := by
  show wE (if (ownAt en i).isSome = true then (eOpd m en).bind _ else .stuck) Q X = _
  rw [wE_iteG, wE_bind, wE_opd]
  refine congrArg (fun z => wG _ z) (wE_ext fun r e => ?_)
  cases ownAt e i with
  | none => rfl
  | some ds =>
    cases vw e (asO r) with
    | none => rfl
    | some d =>
      cases d with
      | int j =>
        show wE (if inB62 j then _ else Out.stuck) Q X = _
        rw [wE_iteG]
        show wG (inB62 j) _ = wG (inB62 j) (wL (ixN ds.length j) _)
        refine congrArg (fun z => wG (inB62 j) z) ?_
        cases ixN ds.length j with
        | none => rfl
        | some k =>
          show wE (match ds[k]? with | some d => _ | none => _) Q X = wL ds[k]? _
          cases ds[k]? <;> rfl
      | _ => rfl
@[simp ↓] theorem wS_setIx (i : Nat) (mi mv : M Res) : wS (sSetIx i mi mv en) P = wE (mv en) (fun r0 e0 => wE (toV r0 e0) (fun d e1 => wG ((ownAt e1 i).isSome = true) (wE (mi e1) (fun r e2 => wL (ownAt e2 i) fun ds => wL (vw e2 (asO r)) fun x => wN x fun j => wL (ixN ds.length j) fun k => P.nx (e2.set i (.own (ds.set k d)))) P.ex)) P.ex) P.ex := by
  show wS ((eVal mv en).then _) P = _
  rw [wS_then, wE_val]
  refine wE_ext fun r0 e0 => wE_ext fun d e1 => ?_
  rw [wS_iteG, wS_then, wE_opd]
  refine congrArg (fun z => wG _ z) (wE_ext fun r e => ?_)
  cases ownAt e i with
  | none => rfl
  | some ds =>
    cases vw e (asO r) with
    | none => rfl
    | some d =>
      cases d with
      | int j =>
        show wS (match ixN ds.length j with | some k => _ | none => _) P = wL (ixN ds.length j) _
        cases ixN ds.length j <;> rfl
      | _ => rfl
@[simp ↓] theorem wS_augIx (f : Int → Int → Int) (i : Nat) (mi mv : M Res) : wS (sAugIx f i mi mv en) P = wG ((ownAt en i).isSome = true) (wE (mi en) (fun r e1 => wL (ownAt e1 i) fun ds => wL (vw e1 (asO r)) fun x => wN x fun j => wL (ixN ds.length j) fun k => wL ds[k]? fun o => wN o fun old =>
    wE (mv e1) (fun r2 e2 => wL (vw e2 (asO r2)) fun y => wN y fun y => wL (ownAt e2 i) fun es => wL (ixN es.length j) fun k2 => P.nx (e2.set i (.own (es.set k2 (.int (f old y)))))) P.ex) P.ex) := by
  show wS (if (ownAt en i).isSome = true then (eOpd mi en).then _ else .stuck) P = _
  rw [wS_iteG, wS_then, wE_opd]
  refine congrArg (fun z => wG _ z) (wE_ext fun r e1 => ?_)
  cases ownAt e1 i with
  | none => rfl
  | some ds =>
    cases vw e1 (asO r) with
    | none => rfl
    | some d =>
      cases d with
      | int j =>
        show wS (match ixN ds.length j with | some k => _ | none => _) P = wL (ixN ds.length j) _
        cases ixN ds.length j with
        | none => rfl
        | some k =>
          show wS (match ds[k]? with | some (.int old) => _ | _ => _) P = wL ds[k]? _
          cases ds[k]? with
          | none => rfl
          | some o =>
            cases o with
            | int old =>
              show wS ((eOpd mv e1).then _) P = _
              rw [wS_then, wE_opd]
              refine wE_ext fun r2 e2 => ?_
              cases vw e2 (asO r2) with
              | none => rfl
              | some y =>
                cases y with
                | int y =>
                  cases ownAt e2 i with
                  | none => rfl
                  | some es =>
                    show wS (match ixN es.length j with | some k => _ | none => _) P = wL (ixN es.length j) _
                    cases ixN es.length j <;> rfl
                | _ => rfl
            | _ => rfl
      | _ => rfl
@[simp ↓] theorem wS_aug (f : Int → Int → Int) (i : Nat) (m : M Res) : wS (sAug f i m en) P = wL en[i]? fun s => wV s (fun dv => wN dv fun old => wE (m en) (fun r e1 => wL (vw e1 (asO r)) fun d => wN d fun y => P.nx (e1.set i (.val (.int (f old y))))) P.ex) (fun _ => False) := by
  unfold sAug
  cases en[i]? with
  | none => rfl
  | some s =>
    cases s with
    | val d =>
      cases d with
      | int old =>
        show wS ((eOpd m en).then _) P = _
        rw [wS_then, wE_opd]
        refine wE_ext fun r e1 => ?_
        cases vw e1 (asO r) with
        | none => rfl
        | some d => cases d <;> rfl
      | _ => rfl
    | _ => rfl
/-- a while loop by what holds ahead of each turn and what falls -/
theorem wS_while {c : M Bool} {mb : MS} (I : En → Prop) (μ : En → Nat) (h0 : I en)
    (hs : ∀ e, I e → wE (c e) (fun b e1 => wI b (wS (mb e1) ⟨Hold fun e2 => I e2 ∧ μ e2 < μ e, P.rt, P.ex, P.nx, Hold fun e2 => I e2 ∧ μ e2 < μ e⟩) (P.nx e1)) P.ex) : wS (sWhile c mb en) P := by
  have key : ∀ n e, I e → μ e < n → whileN c mb n e ≠ .stuck ∧ wS (whileN c mb n e) P := by
    intro n
    induction n with
    | zero => intro e _ h; exact absurd h (Nat.not_lt_zero _)
    | succ n ih =>
      intro e hI hm
      have q := hs e hI
      unfold whileN
      cases hc : c e with
      | stuck => rw [hc] at q; exact q.elim
      | exc cc d e1 => rw [hc] at q; exact ⟨(nomatch ·), q⟩
      | ok b e1 =>
        rw [hc] at q
        simp only [wE_ok] at q
        show (if b = true then _ else _ : OutS) ≠ .stuck ∧ wS (if b = true then _ else _ : OutS) P
        cases b with
        | false => exact ⟨(nomatch ·), q⟩
        | true =>
          simp only [wI_true, if_true] at q ⊢
          cases hb : mb e1 <;> rw [hb] at q
          · exact ih _ q.1 (by have := q.2; omega)
          · exact ⟨(nomatch ·), q⟩
          · exact ⟨(nomatch ·), q⟩
          · exact ih _ q.1 (by have := q.2; omega)
          · exact ⟨(nomatch ·), q⟩
          · exact q.elim
  have mono : ∀ n m e, whileN c mb n e ≠ .stuck → whileN c mb m e ≠ .stuck → whileN c mb n e = whileN c mb m e := by
    intro n
    induction n with
    | zero => intro m e h _; exact absurd rfl h
    | succ n ih =>
      intro m e h1 h2
      cases m with
      | zero => exact absurd rfl h2
      | succ m =>
        unfold whileN at h1 h2 ⊢
        cases hc : c e with
        | stuck => rfl
        | exc cc d e1 => rfl
        | ok b e1 =>
          rw [hc] at h1 h2
          cases b with
          | false => rfl
          | true =>
            show (match mb e1 with | .nx en2 => whileN c mb n en2 | .cont en2 => whileN c mb n en2 | .brk en2 => .nx en2 | o => o) = (match mb e1 with | .nx en2 => whileN c mb m en2 | .cont en2 => whileN c mb m en2 | .brk en2 => .nx en2 | o => o : OutS)
            replace h1 : (match mb e1 with | .nx en2 => whileN c mb n en2 | .cont en2 => whileN c mb n en2 | .brk en2 => .nx en2 | o => o) ≠ .stuck := h1
            replace h2 : (match mb e1 with | .nx en2 => whileN c mb m en2 | .cont en2 => whileN c mb m en2 | .brk en2 => .nx en2 | o => o) ≠ .stuck := h2
            cases hb : mb e1 <;> rw [hb] at h1 h2 <;> first | exact ih _ _ h1 h2 | rfl
  obtain ⟨k1, k2⟩ := key _ en h0 (Nat.lt_succ_self _)
  have hx : ∃ n, whileN c mb n en ≠ .stuck := ⟨_, k1⟩
  unfold sWhile
  rw [dif_pos hx, mono _ _ en hx.choose_spec k1]
  exact k2
end
/-- the integer in a slot -/
def slI (en : En) (i : Nat) : Int := match en[i]? with
  | some (.val (.int j)) => j
  | _ => 0
@[simp] theorem isX_non : isX .non = false := id rfl
@[simp] theorem isX_bl (b : Bool) : isX (.bl b) = false := id rfl
@[simp] theorem isX_int (b : Int) : isX (.int b) = false := id rfl
@[simp] theorem isX_str (b : Wd) : isX (.str b) = false := id rfl
@[simp] theorem isX_tup (b : List Dt) : isX (.tup b) = false := id rfl
@[simp] theorem isX_lst (b : List Dt) : isX (.lst b) = false := id rfl
@[simp] theorem isTy_non_bool : isTy .non "bool" = false := by simp [isTy, tyN]
@[simp] theorem isTy_non_int : isTy .non "int" = false := by simp [isTy, tyN]
@[simp] theorem isTy_non_str : isTy .non "str" = false := by simp [isTy, tyN]
@[simp] theorem isTy_non_tuple : isTy .non "tuple" = false := by simp [isTy, tyN]
@[simp] theorem isTy_non_list : isTy .non "list" = false := by simp [isTy, tyN]
@[simp] theorem isTy_bl_bool (b : Bool) : isTy (.bl b) "bool" = true := by simp [isTy, tyN]
@[simp] theorem isTy_bl_int (b : Bool) : isTy (.bl b) "int" = true := by simp [isTy, tyN]
@[simp] theorem isTy_bl_str (b : Bool) : isTy (.bl b) "str" = false := by simp [isTy, tyN]
@[simp] theorem isTy_bl_tuple (b : Bool) : isTy (.bl b) "tuple" = false := by simp [isTy, tyN]
@[simp] theorem isTy_bl_list (b : Bool) : isTy (.bl b) "list" = false := by simp [isTy, tyN]
@[simp] theorem isTy_int_bool (b : Int) : isTy (.int b) "bool" = false := by simp [isTy, tyN]
@[simp] theorem isTy_int_int (b : Int) : isTy (.int b) "int" = true := by simp [isTy, tyN]
@[simp] theorem isTy_int_str (b : Int) : isTy (.int b) "str" = false := by simp [isTy, tyN]
@[simp] theorem isTy_int_tuple (b : Int) : isTy (.int b) "tuple" = false := by simp [isTy, tyN]
@[simp] theorem isTy_int_list (b : Int) : isTy (.int b) "list" = false := by simp [isTy, tyN]
@[simp] theorem isTy_str_bool (b : Wd) : isTy (.str b) "bool" = false := by simp [isTy, tyN]
@[simp] theorem isTy_str_int (b : Wd) : isTy (.str b) "int" = false := by simp [isTy, tyN]
@[simp] theorem isTy_str_str (b : Wd) : isTy (.str b) "str" = true := by simp [isTy, tyN]
@[simp] theorem isTy_str_tuple (b : Wd) : isTy (.str b) "tuple" = false := by simp [isTy, tyN]
@[simp] theorem isTy_str_list (b : Wd) : isTy (.str b) "list" = false := by simp [isTy, tyN]
@[simp] theorem isTy_tup_bool (b : List Dt) : isTy (.tup b) "bool" = false := by simp [isTy, tyN]
@[simp] theorem isTy_tup_int (b : List Dt) : isTy (.tup b) "int" = false := by simp [isTy, tyN]
@[simp] theorem isTy_tup_str (b : List Dt) : isTy (.tup b) "str" = false := by simp [isTy, tyN]
@[simp] theorem isTy_tup_tuple (b : List Dt) : isTy (.tup b) "tuple" = true := by simp [isTy, tyN]
@[simp] theorem isTy_tup_list (b : List Dt) : isTy (.tup b) "list" = false := by simp [isTy, tyN]
@[simp] theorem isTy_lst_bool (b : List Dt) : isTy (.lst b) "bool" = false := by simp [isTy, tyN]
@[simp] theorem isTy_lst_int (b : List Dt) : isTy (.lst b) "int" = false := by simp [isTy, tyN]
@[simp] theorem isTy_lst_str (b : List Dt) : isTy (.lst b) "str" = false := by simp [isTy, tyN]
@[simp] theorem isTy_lst_tuple (b : List Dt) : isTy (.lst b) "tuple" = false := by simp [isTy, tyN]
@[simp] theorem isTy_lst_list (b : List Dt) : isTy (.lst b) "list" = true := by simp [isTy, tyN]
@[simp] theorem fIx_l (ds : List Dt) (i : Int) : fIx (.lst ds) (.int i) = (atI ds i).map .dat := id rfl
@[simp] theorem fIx_t (ds : List Dt) (i : Int) : fIx (.tup ds) (.int i) = (atI ds i).map .dat := id rfl
@[simp] theorem fEq_int (i j : Int) : fEq (.int i) (.int j) = some (.dat (.bl (decide (i = j)))) := by
  rw [show fEq (.int i) (.int j) = some (.dat (.bl (i == j))) from rfl, show (i == j) = decide (i = j) from rfl]
@[simp] theorem fNe_int (i j : Int) : fNe (.int i) (.int j) = some (.dat (.bl (!decide (i = j)))) := by
  rw [show fNe (.int i) (.int j) = some (.dat (.bl (!(i == j)))) from rfl, show (i == j) = decide (i = j) from rfl]
@[simp] theorem fEq_bl (i j : Bool) : fEq (.bl i) (.bl j) = some (.dat (.bl (i == j))) := id rfl
@[simp] theorem fNe_bl (i j : Bool) : fNe (.bl i) (.bl j) = some (.dat (.bl (!(i == j)))) := id rfl
@[simp] theorem fLt_int (i j : Int) : fLt (.int i) (.int j) = some (.dat (.bl (decide (i < j)))) := id rfl
@[simp] theorem fLe_int (i j : Int) : fLe (.int i) (.int j) = some (.dat (.bl (decide (i ≤ j)))) := id rfl
@[simp] theorem fGt_int (i j : Int) : fGt (.int i) (.int j) = some (.dat (.bl (decide (j < i)))) := id rfl
@[simp] theorem fGe_int (i j : Int) : fGe (.int i) (.int j) = some (.dat (.bl (decide (j ≤ i)))) := id rfl
@[simp] theorem fIsN_ (a : Dt) : fIsN a .non = some (.dat (.bl (isNon a))) := id rfl
@[simp] theorem fNotN_ (a : Dt) : fNotN a .non = some (.dat (.bl (!isNon a))) := id rfl
@[simp] theorem isNon_non : isNon .non = true := id rfl
@[simp] theorem isNon_bl (b : Bool) : isNon (.bl b) = false := id rfl
@[simp] theorem isNon_int (b : Int) : isNon (.int b) = false := id rfl
@[simp] theorem isNon_str (b : Wd) : isNon (.str b) = false := id rfl
@[simp] theorem isNon_tup (b : List Dt) : isNon (.tup b) = false := id rfl
@[simp] theorem isNon_lst (b : List Dt) : isNon (.lst b) = false := id rfl
@[simp] theorem isNon_exo (c : Str) (b : Dt) : isNon (.exo c b) = false := id rfl
@[simp] theorem fAdd_int (a b : Int) : fAdd (.int a) (.int b) = some (.dat (.int (a + b))) := id rfl
@[simp] theorem fAdd_str (x y : Wd) : fAdd (.str x) (.str y) = if x.length + y.length ≤ sizeLine then some (.dat (.str (x ++ y))) else none := id rfl
@[simp] theorem fAdd_lst (xs ys : List Dt) : fAdd (.lst xs) (.lst ys) = if xs.length + ys.length ≤ sizeLine then some (.new (xs ++ ys)) else none := id rfl
@[simp] theorem fAdd_tup (xs ys : List Dt) : fAdd (.tup xs) (.tup ys) = if xs.length + ys.length ≤ sizeLine ∧ xs.isEmpty = false then some (.dat (.tup (xs ++ ys))) else none := id rfl
@[simp] theorem fSub_int (a b : Int) : fSub (.int a) (.int b) = some (.dat (.int (a - b))) := id rfl
@[simp] theorem fMul_int (a b : Int) : fMulX (.int a) (.int b) = if mulOk a b then some (.dat (.int (a * b))) else none := id rfl
@[simp] theorem fMul_lst (xs : List Dt) (k : Int) : fMulX (.lst xs) (.int k) = if inB62 k ∧ xs.length * k.toNat ≤ sizeLine then some (.new (List.replicate k.toNat xs).flatten) else none := id rfl
@[simp] theorem fMod_int (a b : Int) : fMod (.int a) (.int b) = if 0 < b then some (.dat (.int (a % b))) else none := id rfl
@[simp] theorem fDiv_int (a b : Int) : fDiv (.int a) (.int b) = if divOk b then some (.dat (.int (a.fdiv b))) else none := id rfl
@[simp] theorem fPow_int (a b : Int) : fPow (.int a) (.int b) = if 0 ≤ b ∧ b ≤ 1000000 ∧ a.natAbs < 18446744073709551616 then some (.dat (.int (a ^ b.toNat))) else none := id rfl
@[simp] theorem fNeg_int (a : Int) : fNeg (.int a) = some (.dat (.int (-a))) := id rfl
@[simp] theorem fLen_l (ds : List Dt) : fLen [.lst ds] = some (.dat (.int ds.length)) := id rfl
@[simp] theorem fLen_t (ds : List Dt) : fLen [.tup ds] = some (.dat (.int ds.length)) := id rfl
@[simp] theorem fLen_s (x : Wd) : fLen [.str x] = if x.length ≤ sizeLine then some (.dat (.int x.length)) else none := id rfl
@[simp] theorem fInt_i (i : Int) : fInt [.int i] = some (.dat (.int i)) := id rfl
@[simp] theorem fInt_b (b : Bool) : fInt [.bl b] = some (.dat (.int (if b then 1 else 0))) := id rfl
@[simp] theorem fAbs_i (i : Int) : fAbs [.int i] = some (.dat (.int (if i < 0 then -i else i))) := id rfl
@[simp] theorem fList_l (ds : List Dt) : fList [.lst ds] = some (.new ds) := id rfl
@[simp] theorem fList_t (ds : List Dt) : fList [.tup ds] = some (.new ds) := id rfl
@[simp] theorem fTuple_l (ds : List Dt) : fTuple [.lst ds] = some (.dat (.tup ds)) := id rfl
@[simp] theorem fTuple_t (ds : List Dt) : fTuple [.tup ds] = some (.dat (.tup ds)) := id rfl
@[simp] theorem fMin2_ (i j : Int) : fMin2 [.int i, .int j] = some (.dat (.int (if j < i then j else i))) := id rfl
@[simp] theorem fMax2_ (i j : Int) : fMax2 [.int i, .int j] = some (.dat (.int (if j > i then j else i))) := id rfl
theorem lz (n : Nat) (h : n ≤ 16777216) : n ≤ sizeLine := by rw [sizeLine_eq]; exact h
theorem lz' (n : Nat) (h : n < 16777216) : n < sizeLine := by rw [sizeLine_eq]; exact h
theorem inB62_ (j : Int) (h : -4611686018427387904 ≤ j ∧ j < 4611686018427387904) : inB62 j := h
theorem atI_nat (ds : List Dt) (k : Nat) (h : k < ds.length) : atI ds (k : Int) = some ds[k] := by
  unfold atI ixN
  rw [if_pos (by omega), if_pos (by omega)]
  simp [h]
theorem atI_ofNat (ds : List Dt) (k : Nat) : atI ds (k : Int) = ds[k]? := by
  unfold atI ixN
  by_cases h : k < ds.length
  · rw [if_pos (by omega), if_pos (by omega)]; simp
  · rw [if_pos (by omega), if_neg (by omega)]; simp at h ⊢; omega
@[simp] theorem atI_0 (ds : List Dt) : atI ds 0 = ds[0]? := atI_ofNat ds 0
@[simp] theorem atI_1 (ds : List Dt) : atI ds 1 = ds[1]? := atI_ofNat ds 1
@[simp] theorem atI_2 (ds : List Dt) : atI ds 2 = ds[2]? := atI_ofNat ds 2
@[simp] theorem atI_3 (ds : List Dt) : atI ds 3 = ds[3]? := atI_ofNat ds 3
theorem rangeD_mem {n : Nat} {d : Dt} (h : d ∈ rangeD 0 n) : ∃ k : Nat, k < n ∧ d = .int k := by
  unfold rangeD at h
  obtain ⟨k, hk, e⟩ := List.mem_map.mp h
  exact ⟨k, by simpa using List.mem_range.mp hk, by rw [← e]; simp⟩
@[simp] theorem startE_ (n : Nat) (ds : List Dt) : startE n ds = ds.map .val ++ List.replicate (n - ds.length) .un := id rfl
@[simp] theorem startR_ (n : Nat) (cs ds : List Dt) : startR n cs ds = .own cs :: startE (n - 1) ds := id rfl
end Fw

/-! Fy3: the pot's draws and the laws' sameness (first variants). -/
namespace Fw
open PySem PySem.Spec PyProof.Rows L2
noncomputable section
def m__law_take : MS :=
  (sSeq (sIf (cAnd (cBl (eBin fEq (eBin fIx (eVar 0) (eDat (.int 0))) (eDat (.int 0)))) (cBl (eBin fLt (eBin fIx (eVar 0) (eDat (.int 2))) (eCB fLen (eCons (eVar 0) eNil))))) (sSeq (sSet 2 (eBin fIx (eVar 0) (eBin fIx (eVar 0) (eDat (.int 2))))) (sSeq (sAugIx (fun i j => i + j) 0 (eDat (.int 2)) (eDat (.int 1))) (sIf (cBl (eBin fGe (eVar 2) (eBin fPow (eDat (.int 10)) (eDat (.int 18))))) (sSetIx 0 (eDat (.int 0)) (eBin fSub (eVar 2) (eBin fPow (eDat (.int 10)) (eDat (.int 18))))) (sSeq (sSet 3 (eBin fMod (eCB fInt (eCons (eVar 2) eNil)) (eDat (.int 2147483647)))) (sSeq (sSet 3 (eBin fMod (eCB fInt (eCons (eBin fAdd (eBin fAdd (eBin fMulX (eVar 3) (eVar 3)) (eBin fMulX (eDat (.int 62089911)) (eVar 3))) (eBin fMulX (eDat (.int 1301)) (eBin fIx (eVar 0) (eDat (.int 2))))) eNil)) (eDat (.int 2147483629)))) (sSetIx 0 (eDat (.int 1)) (eBin fMod (eCB fInt (eCons (eBin fAdd (eBin fIx (eVar 0) (eDat (.int 1))) (eVar 3)) eNil)) (eDat (.int 2147483629))))))))) sSkip) (sSeq (sIf (cBl (eBin fGt (eBin fIx (eVar 0) (eDat (.int 0))) (eDat (.int 0)))) (sSeq (sSet 4 (eBin fMod (eCB fInt (eCons (eBin fIx (eVar 0) (eDat (.int 0))) eNil)) (eVar 1))) (sSeq (sSetIx 0 (eDat (.int 0)) (eBin fDiv (eBin fIx (eVar 0) (eDat (.int 0))) (eVar 1))) (sRet 1 (eVar 4)))) sSkip) (sSeq (sSetIx 0 (eDat (.int 1)) (eBin fMod (eCB fInt (eCons (eBin fAdd (eBin fAdd (eBin fMulX (eBin fIx (eVar 0) (eDat (.int 1))) (eDat (.int 41358))) (eBin fMulX (eDat (.int 31657)) (eBin fIx (eVar 0) (eDat (.int 2))))) (eDat (.int 23))) eNil)) (eDat (.int 2147483647)))) (sSeq (sSetIx 0 (eDat (.int 1)) (eBin fMod (eCB fInt (eCons (eBin fAdd (eBin fMulX (eBin fIx (eVar 0) (eDat (.int 1))) (eBin fIx (eVar 0) (eDat (.int 1)))) (eDat (.int 11))) eNil)) (eDat (.int 2147483629)))) (sRet 1 (eBin fMod (eCB fInt (eCons (eBin fDiv (eBin fIx (eVar 0) (eDat (.int 1))) (eDat (.int 8))) eNil)) (eVar 1)))))))
def s__law_take : FSR := semR 5 m__law_take
def m__law_same (S : FS) : MS :=
  (sSeq (sIf (cBl (eBin fIsN (eVar 1) (eDat .non))) (sRet 0 (eBin fIsN (eVar 0) (eDat .non))) sSkip) (sSeq (sIf (cTru (eIsi ["bool", "str"] (eVar 1))) (sRet 0 (eAnd (eBin fEq (eIsi ["bool"] (eVar 0)) (eIsi ["bool"] (eVar 1))) (eAnd (eIsi ["bool", "str"] (eVar 0)) (eBin fEq (eVar 0) (eVar 1))))) sSkip) (sSeq (sIf (cTru (eIsi ["int"] (eVar 1))) (sRet 0 (eAnd (eIsi ["int"] (eVar 0)) (eAnd (eNot (eIsi ["bool"] (eVar 0))) (eBin fEq (eVar 0) (eVar 1))))) sSkip) (sSeq (sIf (cOr (cBl (eBin fNe (eIsi ["list"] (eVar 1)) (eIsi ["list"] (eVar 0)))) (cBl (eBin fNe (eIsi ["tuple"] (eVar 1)) (eIsi ["tuple"] (eVar 0))))) (sRet 0 (eDat (.bl false))) sSkip) (sRet 0 (eAnd (eBin fEq (eCB fLen (eCons (eVar 0) eNil)) (eCB fLen (eCons (eVar 1) eNil))) (eCB fAll (eCons (eComp (iRange1 (eCB fLen (eCons (eVar 1) eNil))) (gNm 2) cYes (eCall 2 S (vCons (eBin fIx (eVar 0) (eVar 2)) (vCons (eBin fIx (eVar 1) (eVar 2)) vNil))) [2]) eNil))))))))
def s__law_same : Nat → FS
  | 0 => fun _ => .stuck
  | n + 1 => semF 3 (m__law_same (s__law_same n))
end
def potL (a b c : Int) (rest : List Int) : List Dt := .int a :: .int b :: .int c :: rest.map .int
def PotOk (cs : List Dt) : Prop := ∃ a b c rest, cs = potL a b c rest ∧ 0 ≤ a ∧ 0 ≤ b ∧ b < 2147483647 ∧ 3 ≤ c ∧ c ≤ rest.length + 3 ∧ rest.length ≤ 63
theorem ix0 (n : Nat) : ixN (n + 3) 0 = some 0 := by unfold ixN; simp; omega
theorem ix1 (n : Nat) : ixN (n + 3) 1 = some 1 := by unfold ixN; simp; omega
theorem ix2 (n : Nat) : ixN (n + 3) 2 = some 2 := by unfold ixN; simp; omega
theorem pot_len (a b c : Int) (rest : List Int) : (potL a b c rest).length = rest.length + 3 := by simp [potL]
theorem at0 (a b c : Int) (rest : List Int) : atI (potL a b c rest) 0 = some (.int a) := by unfold atI; rw [pot_len, ix0]; rfl
theorem at1 (a b c : Int) (rest : List Int) : atI (potL a b c rest) 1 = some (.int b) := by unfold atI; rw [pot_len, ix1]; rfl
theorem at2 (a b c : Int) (rest : List Int) : atI (potL a b c rest) 2 = some (.int c) := by unfold atI; rw [pot_len, ix2]; rfl
theorem at_c (c : Int) (rest : List Int) (h3 : 3 ≤ c) (h : c < rest.length + 3) : ∃ x, ∀ a b c2 : Int, atI (potL a b c2 rest) c = some (.int x) := by
  obtain ⟨n, rfl⟩ : ∃ n : Nat, c = (n : Int) + 3 := ⟨(c - 3).toNat, by omega⟩
  have hn : n < rest.length := by omega
  refine ⟨rest[n], fun a b c2 => ?_⟩
  unfold atI ixN
  rw [pot_len, if_pos (by omega), if_pos (by omega)]
  have e : ((n : Int) + 3).toNat = n + 3 := by omega
  rw [e]
  show (potL a b _ rest)[n + 3]? = _
  unfold potL
  simp [hn]
theorem set0 (a b c x : Int) (rest : List Int) : (potL a b c rest).set 0 (.int x) = potL x b c rest := rfl
theorem set1 (a b c x : Int) (rest : List Int) : (potL a b c rest).set 1 (.int x) = potL a x c rest := rfl
theorem set2 (a b c x : Int) (rest : List Int) : (potL a b c rest).set 2 (.int x) = potL a b x rest := rfl
theorem get2 (a b c : Int) (rest : List Int) : (potL a b c rest)[(2 : Nat)]? = some (.int c) := rfl

theorem potOk_len {cs : List Dt} (h : PotOk cs) : cs.length ≤ 66 := by
  obtain ⟨a, b, c, rest, rfl, _, _, _, _, _, hr⟩ := h
  rw [pot_len]; omega
theorem dOk (many : Int) (h0 : 0 < many) (hm : many.natAbs < 1073741824) : divOk many := .inl ⟨by omega, hm⟩
theorem get2e (a b c : Int) (rest : List Int) (h : 2 < (potL a b c rest).length) : (potL a b c rest)[2] = .int c := rfl
theorem get0e (a b c : Int) (rest : List Int) (h : 0 < (potL a b c rest).length) : (potL a b c rest)[0] = .int a := rfl
theorem get1e (a b c : Int) (rest : List Int) (h : 1 < (potL a b c rest).length) : (potL a b c rest)[1] = .int b := rfl
theorem get0 (a b c : Int) (rest : List Int) : (potL a b c rest)[0]? = some (.int a) := rfl
theorem get1 (a b c : Int) (rest : List Int) : (potL a b c rest)[1]? = some (.int b) := rfl
theorem mulOk_ (i j : Int) (h : i.natAbs < 18446744073709551616 ∨ j.natAbs < 18446744073709551616) : mulOk i j := h.elim .inl (.inr ∘ .inl)
theorem mod_in (x m : Int) (h : 0 < m) : 0 ≤ x % m ∧ x % m < m := ⟨Int.emod_nonneg _ (by omega), Int.emod_lt_of_pos _ h⟩
/-- a draw -/
theorem take_w {cs : List Dt} {many : Int} {Q : Res → List Dt → Prop} (hp : PotOk cs) (h0 : 0 < many) (hm : many.natAbs < 1073741824)
    (k : ∀ r cs', 0 ≤ r → r < many → PotOk cs' → Q (.dat (.int r)) cs') : wFR (s__law_take cs [.int many]) Q := by
  obtain ⟨a, b, c, rest, rfl, ha, hb, hb2, hc, hc2, hr⟩ := hp
  have dk := dOk many h0 hm
  unfold s__law_take
  rw [wFR_sem]
  unfold m__law_take
  simp only [startE_, startR_, List.map_cons, List.map_nil, List.length_cons, List.length_nil, List.replicate, Nat.reduceSub, Nat.reduceAdd, List.cons_append, List.nil_append]
  have fin : ∀ (a' b' c' : Int) (u v w : Sl), 0 ≤ a' → 0 ≤ b' → b' < 2147483647 → 3 ≤ c' → c' ≤ rest.length + 3 → (∀ r cs', 0 ≤ r → r < many → PotOk cs' → Q (.dat (.int r)) cs') →
      wS (((sSeq (sIf (cBl (eBin fGt (eBin fIx (eVar 0) (eDat (.int 0))) (eDat (.int 0)))) (sSeq (sSet 4 (eBin fMod (eCB fInt (eCons (eBin fIx (eVar 0) (eDat (.int 0))) eNil)) (eVar 1))) (sSeq (sSetIx 0 (eDat (.int 0)) (eBin fDiv (eBin fIx (eVar 0) (eDat (.int 0))) (eVar 1))) (sRet 1 (eVar 4)))) sSkip) (sSeq (sSetIx 0 (eDat (.int 1)) (eBin fMod (eCB fInt (eCons (eBin fAdd (eBin fAdd (eBin fMulX (eBin fIx (eVar 0) (eDat (.int 1))) (eDat (.int 41358))) (eBin fMulX (eDat (.int 31657)) (eBin fIx (eVar 0) (eDat (.int 2))))) (eDat (.int 23))) eNil)) (eDat (.int 2147483647)))) (sSeq (sSetIx 0 (eDat (.int 1)) (eBin fMod (eCB fInt (eCons (eBin fAdd (eBin fMulX (eBin fIx (eVar 0) (eDat (.int 1))) (eBin fIx (eVar 0) (eDat (.int 1)))) (eDat (.int 11))) eNil)) (eDat (.int 2147483629)))) (sRet 1 (eBin fMod (eCB fInt (eCons (eBin fDiv (eBin fIx (eVar 0) (eDat (.int 1))) (eDat (.int 8))) eNil)) (eVar 1))))))) [.own (potL a' b' c' rest), .val (.int many), u, v, w]) ⟨fun e => wL (ownAt e 0) fun cs => Q (.dat .non) cs, fun r e => wL (ownAt e 0) fun cs => wFR (.ret r cs) Q, fun _ _ _ => False, fun _ => False, fun _ => False⟩ := by
    intro a' b' c' u v w ha' hb' hb2' hc' hc2' k
    have q1 := mod_in (b' * 41358 + 31657 * c' + 23) 2147483647 (by decide)
    have q2 := mod_in ((b' * 41358 + 31657 * c' + 23) % 2147483647 * ((b' * 41358 + 31657 * c' + 23) % 2147483647) + 11) 2147483629 (by decide)
    have o1 := mulOk_ b' 41358 (.inl (by omega))
    have o2 := mulOk_ 31657 c' (.inl (by decide))
    have o3 := mulOk_ ((b' * 41358 + 31657 * c' + 23) % 2147483647) ((b' * 41358 + 31657 * c' + 23) % 2147483647) (.inl (by omega))
    have d8 : divOk 8 := by decide
    simp [ix0, ix1, ix2, pot_len, set0, set1, set2, get0e, get1e, get2e, get0, get1, get2, dk, h0, o1, o2, o3, d8]
    refine wI_mk (fun h => ?_) (fun h => ?_)
    · simp at h
      simp [ix0, ix1, ix2, pot_len, set0, set1, set2, get0e, get1e, get2e, get0, get1, get2, dk, h0, o1, o2, o3, d8]
      exact k _ _ (mod_in _ _ h0).1 (mod_in _ _ h0).2 ⟨_, _, _, _, rfl, Int.fdiv_nonneg ha' (by omega), hb', hb2', hc', hc2', hr⟩
    · simp [ix0, ix1, ix2, pot_len, set0, set1, set2, get0e, get1e, get2e, get0, get1, get2, dk, h0, o1, o2, o3, d8]
      exact k _ _ (mod_in _ _ h0).1 (mod_in _ _ h0).2 ⟨_, _, _, _, rfl, ha', q2.1, by omega, hc', hc2', hr⟩
  refine wS_cut (fun e => ∃ a' b' c' u v w, e = [.own (potL a' b' c' rest), .val (.int many), u, v, w] ∧ 0 ≤ a' ∧ 0 ≤ b' ∧ b' < 2147483647 ∧ 3 ≤ c' ∧ c' ≤ rest.length + 3) ?_ (fun e ⟨a', b', c', u, v, w, h0, h1, h2, h3, h4, h5⟩ => by subst h0; exact fin a' b' c' u v w h1 h2 h3 h4 h5 k)
  clear fin
  have hp : fPow (.int 10) (.int 18) = some (.dat (.int 1000000000000000000)) := by rfl
  simp [get0, get0e, pot_len, -fPow_int]
  refine wI_mk (fun h => ?_) (fun h => ?_)
  · simp [get2, get2e, pot_len] at h ⊢
    refine wI_mk (fun h => ?_) (fun h => ?_)
    · simp at h
      obtain ⟨x, hx⟩ := at_c c rest hc (by omega)
      have m1 := mod_in x 2147483647 (by decide)
      have m2 := mod_in (x % 2147483647 * (x % 2147483647) + 62089911 * (x % 2147483647) + 1301 * (c + 1)) 2147483629 (by decide)
      have m3 := mod_in (b + (x % 2147483647 * (x % 2147483647) + 62089911 * (x % 2147483647) + 1301 * (c + 1)) % 2147483629) 2147483629 (by decide)
      have o1 := mulOk_ (x % 2147483647) (x % 2147483647) (.inl (by omega))
      have o2 := mulOk_ 62089911 (x % 2147483647) (.inl (by decide))
      have o3 := mulOk_ 1301 (c + 1) (.inl (by decide))
      simp [get2, get2e, get1e, get0e, pot_len, hx, ix0, ix1, ix2, set0, set1, set2, hp, -fPow_int]
      refine wI_mk (fun h18 => ?_) (fun h18 => ?_)
      · simp at h18
        simp [get2, get2e, get1e, get0e, pot_len, hx, ix0, ix1, ix2, set0, set1, set2, hp, -fPow_int]
        exact ⟨_, _, _, _, _, _, rfl, (by omega), hb, hb2, (by omega), (by omega)⟩
      · simp [get2, get2e, get1e, get0e, pot_len, hx, ix0, ix1, ix2, set0, set1, set2, hp, o1, o2, o3, -fPow_int]
        exact ⟨_, _, _, _, _, _, rfl, ha, (mod_in _ _ (by decide)).1, Int.lt_trans (mod_in _ _ (by decide)).2 (by decide), (by omega), (by omega)⟩
    · exact ⟨_, _, _, _, _, _, rfl, ha, hb, hb2, hc, hc2⟩
  · exact ⟨_, _, _, _, _, _, rfl, ha, hb, hb2, hc, hc2⟩


/-! ### data of bounded depth -/
mutual
def gd : Nat → Dt → Bool
  | _, .str x => x.all fun c => decide (c < 1114112)
  | 0, .tup _ => false
  | 0, .lst _ => false
  | n + 1, .tup ds => decide (ds.length ≤ 100000) && gds n ds
  | n + 1, .lst ds => decide (ds.length ≤ 100000) && gds n ds
  | _, .exo _ _ => false
  | _, .non => true
  | _, .bl _ => true
  | _, .int _ => true
def gds : Nat → List Dt → Bool
  | _, [] => true
  | n, d :: ds => gd n d && gds n ds
end
@[simp] theorem gd_non (n : Nat) : gd n .non = true := by cases n <;> rfl
@[simp] theorem gd_bl (n : Nat) (b : Bool) : gd n (.bl b) = true := by cases n <;> rfl
@[simp] theorem gd_int (n : Nat) (b : Int) : gd n (.int b) = true := by cases n <;> rfl
@[simp] theorem gd_str (n : Nat) (x : Wd) : gd n (.str x) = x.all fun c => decide (c < 1114112) := by cases n <;> rfl
@[simp] theorem gd_exo (n : Nat) (c : Str) (d : Dt) : gd n (.exo c d) = false := by cases n <;> rfl
@[simp] theorem gd_tup (n : Nat) (ds : List Dt) : gd (n + 1) (.tup ds) = (decide (ds.length ≤ 100000) && gds n ds) := by rw [gd]
@[simp] theorem gd_lst (n : Nat) (ds : List Dt) : gd (n + 1) (.lst ds) = (decide (ds.length ≤ 100000) && gds n ds) := by rw [gd]
@[simp] theorem gds_nil (n : Nat) : gds n [] = true := by cases n <;> rfl
@[simp] theorem gds_cons (n : Nat) (d : Dt) (ds : List Dt) : gds n (d :: ds) = (gd n d && gds n ds) := by rw [gds]
theorem gds_all {n : Nat} : ∀ {ds : List Dt}, gds n ds = true ↔ ∀ d ∈ ds, gd n d = true
  | [] => by simp
  | d :: ds => by simp [gds_all (ds := ds)]
theorem gds_map {α : Type} {n : Nat} {f : α → Dt} {l : List α} (h : ∀ x ∈ l, gd n (f x) = true) : gds n (l.map f) = true := by
  rw [gds_all]; intro d hd; obtain ⟨x, hx, rfl⟩ := List.mem_map.mp hd; exact h x hx
theorem gds_app {n : Nat} {a b : List Dt} : gds n (a ++ b) = (gds n a && gds n b) := by
  induction a with
  | nil => simp
  | cons x xs ih => simp [ih, Bool.and_assoc]
theorem strOk_st (x : Wd) (h : (x.all fun c => decide (c < 1114112)) = true) : PyData.strOk (st x) = true := by
  unfold PyData.strOk
  simpa [st] using h
mutual
theorem gd_dpl : ∀ (n : Nat) (d : Dt), gd n d = true → dpl d = true
  | _, .non, _ => rfl
  | _, .bl _, _ => rfl
  | _, .int _, _ => rfl
  | _, .str _, _ => rfl
  | _, .exo _ _, h => by simp at h
  | 0, .tup _, h => by cases h
  | 0, .lst _, h => by cases h
  | n + 1, .tup ds, h => by simp at h; exact gds_dpl n ds h.2
  | n + 1, .lst ds, h => by simp at h; exact gds_dpl n ds h.2
theorem gds_dpl : ∀ (n : Nat) (d : List Dt), gds n d = true → dpls d = true
  | _, [], _ => rfl
  | n, d :: ds, h => by
    simp at h
    unfold dpls
    rw [gd_dpl n d h.1, gds_dpl n ds h.2]; rfl
end
mutual
theorem gd_can : ∀ (n : Nat) (d : Dt), gd n d = true → (py d).canLay0 = true ∧ (py d).depth ≤ n
  | _, .non, _ => ⟨rfl, Nat.zero_le _⟩
  | _, .bl _, _ => ⟨rfl, Nat.zero_le _⟩
  | _, .int _, _ => ⟨rfl, Nat.zero_le _⟩
  | _, .str x, h => ⟨by rw [gd_str] at h; exact strOk_st x h, Nat.zero_le _⟩
  | _, .exo _ _, h => by simp at h
  | 0, .tup _, h => by cases h
  | 0, .lst _, h => by cases h
  | n + 1, .tup ds, h => by
    simp at h
    have q := gds_can n ds h.2
    exact ⟨q.1, Nat.succ_le_succ q.2⟩
  | n + 1, .lst ds, h => by
    simp at h
    have q := gds_can n ds h.2
    exact ⟨q.1, Nat.succ_le_succ q.2⟩
theorem gds_can : ∀ (n : Nat) (d : List Dt), gds n d = true → PyData.canLayAll0 (pys d) = true ∧ PyData.depthAll (pys d) ≤ n
  | _, [], _ => ⟨rfl, Nat.zero_le _⟩
  | n, d :: ds, h => by
    simp at h
    have q1 := gd_can n d h.1
    have q2 := gds_can n ds h.2
    constructor
    · show ((py d).canLay0 && PyData.canLayAll0 (pys ds)) = true
      rw [q1.1, q2.1]; rfl
    · show max (py d).depth (PyData.depthAll (pys ds)) ≤ n
      exact Nat.max_le.mpr ⟨q1.2, q2.2⟩
end
theorem shp_of {n m : Nat} {a b : Dt} (ha : gd n a = true) (hb : gd m b = true) (hn : n ≤ 64) (hm : m ≤ 64) : shp a b = true := by
  have qa := gd_can n a ha
  have qb := gd_can m b hb
  unfold shp SeqAt.shaped
  rw [gd_dpl n a ha, gd_dpl m b hb, qa.1, qb.1, decide_eq_true (Nat.le_trans qa.2 hn), decide_eq_true (Nat.le_trans qb.2 hm)]; rfl
/-- equal as Python says -/
def eqD (a b : Dt) : Bool := PyData.eqv (py a) (py b)
def eqDs (a b : List Dt) : Bool := PyData.eqvAll (pys a) (pys b)
theorem fEq_of {n m : Nat} {a b : Dt} (ha : gd n a = true) (hb : gd m b = true) (hn : n ≤ 64) (hm : m ≤ 64) : fEq a b = some (.dat (.bl (eqD a b))) := by
  unfold fEq; rw [if_pos (shp_of ha hb hn hm)]; rfl
theorem fNe_of {n m : Nat} {a b : Dt} (ha : gd n a = true) (hb : gd m b = true) (hn : n ≤ 64) (hm : m ≤ 64) : fNe a b = some (.dat (.bl (!eqD a b))) := by
  unfold fNe; rw [if_pos (shp_of ha hb hn hm)]; rfl
theorem st_beq (x y : Wd) : (st x == st y) = (x == y) := by
  by_cases h : x = y
  · subst h; simp
  · have : st x ≠ st y := fun z => h (st_inj z)
    rw [beq_eq_false_iff_ne.mpr this, beq_eq_false_iff_ne.mpr h]
@[simp] theorem eqD_str (x y : Wd) : eqD (.str x) (.str y) = decide (x = y) := by
  rw [show eqD (.str x) (.str y) = (x == y) from st_beq x y]; by_cases h : x = y <;> simp [h]
@[simp] theorem eqD_int (x y : Int) : eqD (.int x) (.int y) = decide (x = y) := id rfl
@[simp] theorem eqD_bl (x y : Bool) : eqD (.bl x) (.bl y) = (x == y) := id rfl
@[simp] theorem eqD_tup (x y : List Dt) : eqD (.tup x) (.tup y) = eqDs x y := id rfl
@[simp] theorem eqD_lst (x y : List Dt) : eqD (.lst x) (.lst y) = eqDs x y := id rfl
@[simp] theorem eqDs_nil : eqDs [] [] = true := id rfl
@[simp] theorem eqDs_cons (a b : Dt) (x y : List Dt) : eqDs (a :: x) (b :: y) = (eqD a b && eqDs x y) := id rfl
@[simp] theorem eqDs_nc (b : Dt) (y : List Dt) : eqDs [] (b :: y) = false := id rfl
@[simp] theorem eqDs_cn (b : Dt) (y : List Dt) : eqDs (b :: y) [] = false := id rfl
theorem bls_all : ∀ (bs : List Bool), fAll [.lst (bs.map .bl)] = some (.dat (.bl (bs.all id))) := fun bs => by
  show (asBls (bs.map .bl)).map _ = _
  rw [asBls_map]; rfl
theorem fAll_map {α : Type} (l : List α) (p : α → Bool) : fAll [.lst (l.map fun x => .bl (p x))] = some (.dat (.bl (l.all p))) := by
  have := bls_all (l.map p)
  rw [List.map_map] at this
  rw [show (l.map fun x => Dt.bl (p x)) = l.map (Dt.bl ∘ p) from rfl, this]
  simp
theorem len_range (n : Nat) : (rangeD 0 n).length = n := by simp [rangeD]
theorem inb (n : Nat) (h : n ≤ 100000) : inB62 (n : Int) := by
  unfold inB62; exact ⟨by omega, by omega⟩
/-- a map -/
theorem wE_compM {X : Str → Dt → En → Prop} {en : En} {g : Dt → En → Option En} {me : M Res} {vs : List Nat} {Q : List Dt → En → Prop} (φ : Dt → Dt) {ds : List Dt} (hl : ds.length ≤ sizeLine) (hq : Q (ds.map φ) en)
    (hs : ∀ d ∈ ds, wL (g d en) (fun e1 => wE (eVal me e1) (fun y e3 => y = φ d ∧ wipeE e3 vs = en) (fun _ _ _ => False))) :
    wE (compL g cYes me vs ds [] en) Q X := by
  refine wE_compF (fun _ => true) φ hl (by rw [List.filter_eq_self.mpr (fun _ _ => rfl)]; exact hq) fun d hd => ?_
  have q := hs d hd
  cases e : g d en with
  | none => rw [e] at q; exact q
  | some e1 => rw [e] at q; exact ⟨rfl, q⟩
theorem law_same_refl : ∀ (n m : Nat) (d : Dt), n < m → gd n d = true → s__law_same m [d, d] = .ret (.dat (.bl true)) := by
  intro n m
  induction m generalizing n with
  | zero => intro d h _; exact absurd h (Nat.not_lt_zero _)
  | succ m ih =>
    intro d h hg
    refine wF_eq ?_
    unfold s__law_same
    rw [wF_sem]
    unfold m__law_same
    simp only [startE_, List.map_cons, List.map_nil, List.length_cons, List.length_nil, List.replicate, Nat.reduceSub, Nat.reduceAdd, List.cons_append, List.nil_append]
    have seq : ∀ (ds : List Dt) (c : Dt), (c = .lst ds ∨ c = .tup ds) → gd n c = true → (∀ x ∈ ds, s__law_same m [x, x] = .ret (.dat (.bl true))) ∧ ds.length ≤ 100000 := by
      intro ds c hc hg
      cases n with
      | zero => rcases hc with rfl | rfl <;> cases hg
      | succ n =>
        have q : ds.length ≤ 100000 ∧ gds n ds = true := by rcases hc with rfl | rfl <;> simpa using hg
        exact ⟨fun x hx => ih n x (by omega) (gds_all.mp q.2 x hx), q.1⟩
    have fin : ∀ (ds : List Dt) (c : Dt), (c = .lst ds ∨ c = .tup ds) → gd n c = true → ∀ (Q : List Dt → En → Prop) X, Q (ds.map fun _ => .bl true) [.val c, .val c, .un] →
        wE (compL (gNm 2) cYes (eCall 2 (s__law_same m) (vCons (eBin fIx (eVar 0) (eVar 2)) (vCons (eBin fIx (eVar 1) (eVar 2)) vNil))) [2] (rangeD 0 ds.length) [] [.val c, .val c, .un]) Q X := by
      intro ds c hc hg Q X hQ
      obtain ⟨q1, q2⟩ := seq ds c hc hg
      refine wE_compM (fun _ => .bl true) (by rw [len_range]; exact lz _ (by omega)) ?_ ?_
      · have e : (rangeD 0 ds.length).map (fun _ => Dt.bl true) = ds.map fun _ => .bl true := by
          rw [List.map_const', List.map_const', len_range]
        rw [e]; exact hQ
      · intro d hd
        obtain ⟨k, hk, rfl⟩ := rangeD_mem hd
        have ha := atI_nat ds k hk
        have hS := q1 ds[k] (List.getElem_mem hk)
        rcases hc with rfl | rfl <;> simp [ha, hS, wipeE]
    cases d with
    | non => simp
    | bl b => simp
    | int i => simp
    | str x =>
      have hx := fEq_of (n := 0) (m := 0) (a := .str x) (b := .str x) (by simpa using hg) (by simpa using hg) (by decide) (by decide)
      simp [hx]
    | exo _ _ => simp at hg
    | lst ds =>
      have f := fin ds _ (.inl rfl) hg
      have l := inb _ (seq ds _ (.inl rfl) hg).2
      simp [l, wipeE]
      refine f _ _ ?_
      have a := fAll_map ds fun _ => true
      simp [a]
    | tup ds =>
      have f := fin ds _ (.inr rfl) hg
      have l := inb _ (seq ds _ (.inr rfl) hg).2
      simp [l, wipeE]
      refine f _ _ ?_
      have a := fAll_map ds fun _ => true
      simp [a]
mutual
theorem eqD_refl : ∀ (d : Dt), dpl d = true → eqD d d = true
  | .non, _ => rfl
  | .bl b, _ => by simp
  | .int _, _ => by simp
  | .str _, _ => by simp
  | .exo _ _, h => by cases h
  | .tup ds, h => eqDs_refl ds h
  | .lst ds, h => eqDs_refl ds h
theorem eqDs_refl : ∀ (d : List Dt), dpls d = true → eqDs d d = true
  | [], _ => rfl
  | d :: ds, h => by
    unfold dpls at h
    have h := Bool.and_eq_true_iff.mp h
    rw [eqDs_cons, eqD_refl d h.1, eqDs_refl ds h.2]; rfl
end
theorem fEq_same {n : Nat} {a : Dt} (ha : gd n a = true) (hn : n ≤ 64) : fEq a a = some (.dat (.bl true)) := by
  rw [fEq_of ha ha hn hn, eqD_refl a (gd_dpl n a ha)]
theorem fNe_same {n : Nat} {a : Dt} (ha : gd n a = true) (hn : n ≤ 64) : fNe a a = some (.dat (.bl false)) := by
  rw [fNe_of ha ha hn hn, eqD_refl a (gd_dpl n a ha)]; rfl
end Fw

/-! Pg1: numbers.py. -/
namespace Fw
open PySem PySem.Spec PyProof.Rows L2
noncomputable section
def m_is_integer : MS :=
  (sRet 0 (eAnd (eIsi ["int"] (eVar 0)) (eNot (eIsi ["bool"] (eVar 0)))))
def s_is_integer : FS := semF 1 m_is_integer
def m_is_natural : MS :=
  (sRet 0 (eAnd (eCall 1 s_is_integer (vCons (eVar 0) vNil)) (eBin fGe (eVar 0) (eDat (.int 0)))))
def s_is_natural : FS := semF 1 m_is_natural
def m_is_field : MS :=
  (sSeq (sIf (cOr (cNot (cTru (eCall 1 s_is_natural (vCons (eVar 0) vNil)))) (cBl (eBin fGt (eVar 0) (eDat (.int 99))))) (sRet 0 (eDat (.bl false))) sSkip) (sRet 0 (eOr (eBin fEq (eVar 0) (eDat (.int 0))) (eAnd (eBin fGt (eVar 0) (eDat (.int 1))) (eCB fAll (eCons (eComp (iRange2 (eDat (.int 2)) (eVar 0)) (gNm 1) cYes (eBin fNe (eBin fMod (eVar 0) (eVar 1)) (eDat (.int 0))) [1]) eNil))))))
def s_is_field : FS := semF 2 m_is_field
def m_check_field : MS :=
  (sIf (cNot (cTru (eCall 1 s_is_field (vCons (eVar 0) vNil)))) (sRaise "InvalidField" (eVar 0)) sSkip)
def s_check_field : FS := semF 1 m_check_field
def m_number_by : MS :=
  (sRet 0 (eTup (vCons (eIf (cBl (eBin fNe (eVar 0) (eDat (.int 0)))) (eBin fMod (eVar 1) (eVar 0)) (eVar 1)) (vCons (eDat (.int 1)) vNil))))
def s_number_by : FS := semF 2 m_number_by
def m_number_of : MS :=
  (sSeq (sDrop (eCall 1 s_check_field (vCons (eVar 0) vNil))) (sSeq (sIf (cNot (cTru (eCall 1 s_is_integer (vCons (eVar 1) vNil)))) (sRaise "InvalidInteger" (eVar 1)) sSkip) (sRet 0 (eCall 2 s_number_by (vCons (eVar 0) (vCons (eVar 1) vNil))))))
def s_number_of : FS := semF 2 m_number_of
def m_greatest_divisor : MS :=
  (sSeq (sPar2 0 1 (eCB fAbs (eCons (eVar 0) eNil)) (eCB fAbs (eCons (eVar 1) eNil))) (sSeq (sWhile (cBl (eBin fNe (eVar 1) (eDat (.int 0)))) (sPar2 0 1 (eVar 1) (eBin fMod (eVar 0) (eVar 1)))) (sRet 0 (eVar 0))))
def s_greatest_divisor : FS := semF 2 m_greatest_divisor
def m_is_number_of : MS :=
  (sSeq (sIf (cOr (cNot (cTru (eIsi ["tuple"] (eVar 1)))) (cOr (cBl (eBin fNe (eCB fLen (eCons (eVar 1) eNil)) (eDat (.int 2)))) (cNot (cTru (eCB fAll (eCons (eComp (iSeq (eVar 1)) (gNm 2) cYes (eCall 1 s_is_integer (vCons (eVar 2) vNil)) [2]) eNil)))))) (sRet 0 (eDat (.bl false))) sSkip) (sSeq (sIf (cBl (eBin fNe (eVar 0) (eDat (.int 0)))) (sRet 0 (eAnd (eChain fLe fLt (eDat (.int 0)) (eBin fIx (eVar 1) (eDat (.int 0))) (eVar 0)) (eBin fEq (eBin fIx (eVar 1) (eDat (.int 1))) (eDat (.int 1))))) sSkip) (sRet 0 (eAnd (eBin fGt (eBin fIx (eVar 1) (eDat (.int 1))) (eDat (.int 0))) (eBin fEq (eCall 2 s_greatest_divisor (vCons (eBin fIx (eVar 1) (eDat (.int 0))) (vCons (eBin fIx (eVar 1) (eDat (.int 1))) vNil))) (eDat (.int 1)))))))
def s_is_number_of : FS := semF 3 m_is_number_of
def m_check_number : MS :=
  (sIf (cNot (cTru (eCall 2 s_is_number_of (vCons (eVar 0) (vCons (eVar 1) vNil))))) (sRaise "InvalidNumber" (eVar 1)) sSkip)
def s_check_number : FS := semF 2 m_check_number
def m_check_two_numbers : MS :=
  (sSeq (sDrop (eCall 1 s_check_field (vCons (eVar 0) vNil))) (sSeq (sDrop (eCall 2 s_check_number (vCons (eVar 0) (vCons (eVar 1) vNil)))) (sDrop (eCall 2 s_check_number (vCons (eVar 0) (vCons (eVar 2) vNil))))))
def s_check_two_numbers : FS := semF 3 m_check_two_numbers
def m_undone : MS :=
  (sSeq (sAsg (eTup (vCons (eBin fMod (eVar 0) (eVar 1)) (vCons (eVar 1) (vCons (eDat (.int 1)) (vCons (eDat (.int 0)) vNil))))) (gTp 4 (gC (gNm 2) (gC (gNm 3) (gC (gNm 4) (gC (gNm 5) gN0)))))) (sSeq (sWhile (cBl (eBin fNe (eVar 3) (eDat (.int 0)))) (sSeq (sSet 6 (eBin fDiv (eVar 2) (eVar 3))) (sAsg (eTup (vCons (eVar 3) (vCons (eBin fSub (eVar 2) (eBin fMulX (eVar 6) (eVar 3))) (vCons (eVar 5) (vCons (eBin fSub (eVar 4) (eBin fMulX (eVar 6) (eVar 5))) vNil))))) (gTp 4 (gC (gNm 2) (gC (gNm 3) (gC (gNm 4) (gC (gNm 5) gN0)))))))) (sRet 0 (eBin fMod (eVar 4) (eVar 1)))))
def s_undone : FS := semF 7 m_undone
def m_lowest : MS :=
  (sSeq (sIf (cBl (eBin fNe (eVar 0) (eDat (.int 0)))) (sRet 0 (eTup (vCons (eBin fMod (eBin fMulX (eVar 1) (eCall 2 s_undone (vCons (eVar 2) (vCons (eVar 0) vNil)))) (eVar 0)) (vCons (eDat (.int 1)) vNil)))) sSkip) (sSeq (sSet 3 (eCall 2 s_greatest_divisor (vCons (eVar 1) (vCons (eVar 2) vNil)))) (sSeq (sIf (cBl (eBin fLt (eVar 2) (eDat (.int 0)))) (sSet 3 (eUn fNeg (eVar 3))) sSkip) (sRet 0 (eTup (vCons (eBin fDiv (eVar 1) (eVar 3)) (vCons (eBin fDiv (eVar 2) (eVar 3)) vNil)))))))
def s_lowest : FS := semF 4 m_lowest
def m_over_of : MS :=
  (sRet 0 (eCall 3 s_lowest (vCons (eVar 0) (vCons (eBin fMulX (eBin fIx (eVar 1) (eDat (.int 0))) (eBin fIx (eVar 2) (eDat (.int 1)))) (vCons (eBin fMulX (eBin fIx (eVar 1) (eDat (.int 1))) (eBin fIx (eVar 2) (eDat (.int 0)))) vNil)))))
def s_over_of : FS := semF 3 m_over_of
def m_over : MS :=
  (sSeq (sDrop (eCall 3 s_check_two_numbers (vCons (eVar 0) (vCons (eVar 1) (vCons (eVar 2) vNil))))) (sSeq (sIf (cBl (eBin fEq (eBin fIx (eVar 2) (eDat (.int 0))) (eDat (.int 0)))) (sRaise "InvalidNumber" (eVar 2)) sSkip) (sRet 0 (eCall 3 s_over_of (vCons (eVar 0) (vCons (eVar 1) (vCons (eVar 2) vNil)))))))
def s_over : FS := semF 3 m_over
def m_plus_of : MS :=
  (sSeq (sIf (cBl (eBin fNe (eVar 0) (eDat (.int 0)))) (sRet 0 (eTup (vCons (eBin fMod (eBin fAdd (eBin fIx (eVar 1) (eDat (.int 0))) (eBin fIx (eVar 2) (eDat (.int 0)))) (eVar 0)) (vCons (eDat (.int 1)) vNil)))) sSkip) (sRet 0 (eCall 3 s_lowest (vCons (eDat (.int 0)) (vCons (eBin fAdd (eBin fMulX (eBin fIx (eVar 1) (eDat (.int 0))) (eBin fIx (eVar 2) (eDat (.int 1)))) (eBin fMulX (eBin fIx (eVar 2) (eDat (.int 0))) (eBin fIx (eVar 1) (eDat (.int 1))))) (vCons (eBin fMulX (eBin fIx (eVar 1) (eDat (.int 1))) (eBin fIx (eVar 2) (eDat (.int 1)))) vNil))))))
def s_plus_of : FS := semF 3 m_plus_of
def m_plus : MS :=
  (sSeq (sDrop (eCall 3 s_check_two_numbers (vCons (eVar 0) (vCons (eVar 1) (vCons (eVar 2) vNil))))) (sRet 0 (eCall 3 s_plus_of (vCons (eVar 0) (vCons (eVar 1) (vCons (eVar 2) vNil))))))
def s_plus : FS := semF 3 m_plus
def m_times_of : MS :=
  (sSeq (sIf (cBl (eBin fNe (eVar 0) (eDat (.int 0)))) (sRet 0 (eTup (vCons (eBin fMod (eBin fMulX (eBin fIx (eVar 1) (eDat (.int 0))) (eBin fIx (eVar 2) (eDat (.int 0)))) (eVar 0)) (vCons (eDat (.int 1)) vNil)))) sSkip) (sRet 0 (eCall 3 s_lowest (vCons (eDat (.int 0)) (vCons (eBin fMulX (eBin fIx (eVar 1) (eDat (.int 0))) (eBin fIx (eVar 2) (eDat (.int 0)))) (vCons (eBin fMulX (eBin fIx (eVar 1) (eDat (.int 1))) (eBin fIx (eVar 2) (eDat (.int 1)))) vNil))))))
def s_times_of : FS := semF 3 m_times_of
def m_times : MS :=
  (sSeq (sDrop (eCall 3 s_check_two_numbers (vCons (eVar 0) (vCons (eVar 1) (vCons (eVar 2) vNil))))) (sRet 0 (eCall 3 s_times_of (vCons (eVar 0) (vCons (eVar 1) (vCons (eVar 2) vNil))))))
def s_times : FS := semF 3 m_times
def m_is_number : MS :=
  (sSeq (sDrop (eCall 1 s_check_field (vCons (eVar 0) vNil))) (sRet 0 (eCall 2 s_is_number_of (vCons (eVar 0) (vCons (eVar 1) vNil)))))
def s_is_number : FS := semF 2 m_is_number
end

def isI : Dt → Bool
  | .int _ => true
  | _ => false
theorem s_int (d : Dt) (hx : isX d = false) : s_is_integer [d] = .ret (.dat (.bl (isI d))) := by
  refine wF_eq ?_
  unfold s_is_integer
  rw [wF_sem]
  unfold m_is_integer
  simp only [startE_, startR_, List.map_cons, List.map_nil, List.length_cons, List.length_nil, List.replicate, Nat.reduceSub, Nat.reduceAdd, List.cons_append, List.nil_append]
  cases d <;> first | (cases hx; done) | skip
  all_goals (repeat (first | simp [sizeLine_eq] | (with_reducible refine wG_mk ?_ ?_; (first | with_reducible assumption | omega | with_reducible exact inB62_ _ (by omega) | with_reducible exact mulOk_ _ _ (by omega) | with_reducible decide))))
  all_goals rfl
@[simp] theorem isI_int (i : Int) : isI (.int i) = true := id rfl
def natB : Dt → Bool
  | .int i => decide (0 ≤ i)
  | _ => false
@[simp] theorem natB_int (i : Int) : natB (.int i) = decide (0 ≤ i) := id rfl
theorem s_nat (d : Dt) (hx : isX d = false) : s_is_natural [d] = .ret (.dat (.bl (natB d))) := by
  refine wF_eq ?_
  unfold s_is_natural
  rw [wF_sem]
  unfold m_is_natural
  simp only [startE_, startR_, List.map_cons, List.map_nil, List.length_cons, List.length_nil, List.replicate, Nat.reduceSub, Nat.reduceAdd, List.cons_append, List.nil_append]
  have h := s_int d hx
  cases d <;> first | (cases hx; done) | skip
  all_goals (repeat (first | simp [sizeLine_eq, h, isI, natB] | (with_reducible refine wG_mk ?_ ?_; (first | with_reducible assumption | omega | with_reducible exact inB62_ _ (by omega) | with_reducible exact mulOk_ _ _ (by omega) | with_reducible decide))))
def FLD : List Int := [0, 2, 3, 5, 7, 11, 13, 17, 19, 23, 29, 31, 37, 41, 43, 47, 53, 59, 61, 67, 71, 73, 79, 83, 89, 97]
def fldI (i : Int) : Bool := FLD.contains i
def fldB : Dt → Bool
  | .int i => fldI i
  | _ => false
@[simp] theorem fldB_int (i : Int) : fldB (.int i) = fldI i := id rfl
theorem fldI_range {i : Int} (h : fldI i = true) : 0 ≤ i ∧ i < 98 := by
  have q : FLD.all (fun i => decide (0 ≤ i ∧ i < 98)) = true := by decide +kernel
  have := List.all_eq_true.mp q i (by simpa [fldI] using h)
  exact of_decide_eq_true this
theorem fieldTab : (List.range 100).all (fun n => fldI (n : Int) == ((n == 0) || (decide (1 < n) && (List.range (n - 2)).all fun k => !decide (n % (k + 2) = 0)))) = true := by decide +kernel
theorem s_fld (d : Dt) (hx : isX d = false) : s_is_field [d] = .ret (.dat (.bl (fldB d))) := by
  refine wF_eq ?_
  unfold s_is_field
  rw [wF_sem]
  unfold m_is_field
  simp only [startE_, startR_, List.map_cons, List.map_nil, List.length_cons, List.length_nil, List.replicate, Nat.reduceSub, Nat.reduceAdd, List.cons_append, List.nil_append]
  have h := s_nat d hx
  cases d with
  | int i =>
    by_cases h0 : 0 ≤ i
    · by_cases h1 : 99 < i
      · have hf : fldI i = false := by
          cases q : fldI i with
          | false => rfl
          | true => have := fldI_range q; omega
        (repeat (first | simp [sizeLine_eq, h, h0, h1, hf] | (with_reducible refine wG_mk ?_ ?_; (first | with_reducible assumption | omega | with_reducible exact inB62_ _ (by omega) | with_reducible exact mulOk_ _ _ (by omega) | with_reducible decide))))
      · obtain ⟨n, rfl⟩ := Int.eq_ofNat_of_zero_le h0
        have hn : n < 100 := by omega
        have ft := List.all_eq_true.mp fieldTab n (List.mem_range.mpr hn)
        have hf := eq_of_beq ft
        (repeat (first | simp [sizeLine_eq, h, h1] | (with_reducible refine wG_mk ?_ ?_; (first | with_reducible assumption | omega | with_reducible exact inB62_ _ (by omega) | with_reducible exact mulOk_ _ _ (by omega) | with_reducible decide))))
        refine wI_mk (fun hz => ?_) (fun hz => ?_)
        · have hz : n = 0 := by simpa using hz
          subst hz
          (repeat (first | simp [sizeLine_eq] | (with_reducible refine wG_mk ?_ ?_; (first | with_reducible assumption | omega | with_reducible exact inB62_ _ (by omega) | with_reducible exact mulOk_ _ _ (by omega) | with_reducible decide))))
          rfl
        · have hz : ¬ n = 0 := by simpa using hz
          (repeat (first | simp [sizeLine_eq] | (with_reducible refine wG_mk ?_ ?_; (first | with_reducible assumption | omega | with_reducible exact inB62_ _ (by omega) | with_reducible exact mulOk_ _ _ (by omega) | with_reducible decide))))
          refine wI_mk (fun h2 => ?_) (fun h2 => ?_)
          · have h2 : 1 < n := by have := of_decide_eq_true h2; omega
            (repeat (first | simp [sizeLine_eq, wipeE] | (with_reducible refine wG_mk ?_ ?_; (first | with_reducible assumption | omega | with_reducible exact inB62_ _ (by omega) | with_reducible exact mulOk_ _ _ (by omega) | with_reducible decide))))
            have e : rangeD 2 (n : Int) = (List.range (n - 2)).map fun k => Dt.int ((k + 2 : Nat) : Int) := by
              unfold rangeD
              rw [show ((n : Int) - 2).toNat = n - 2 by omega]
              refine List.map_congr_left fun k _ => ?_
              rw [Int.add_comm]; rfl
            have l : (rangeD 2 (n : Int)).length ≤ sizeLine := by rw [e, List.length_map, List.length_range, sizeLine_eq]; omega
            refine wE_compM (fun d => match d with | .int j => .bl (!decide ((n : Int) % j = 0)) | d => d) l ?_ ?_
            · rw [e, List.map_map]
              have a := fAll_map (List.range (n - 2)) fun k => !decide (n % (k + 2) = 0)
              have e2 : (List.range (n - 2)).map ((fun d => match d with | .int j => Dt.bl (!decide ((n : Int) % j = 0)) | d => d) ∘ fun k => Dt.int ((k + 2 : Nat) : Int)) = (List.range (n - 2)).map fun k => Dt.bl (!decide (n % (k + 2) = 0)) := by
                refine List.map_congr_left fun k _ => ?_
                show Dt.bl (!decide ((n : Int) % ((k + 2 : Nat) : Int) = 0)) = _
                have : ((n : Int) % ((k + 2 : Nat) : Int) = 0) ↔ (n % (k + 2) = 0) := by omega
                simp only [this]
              rw [e2]
              simp [a, restE, fldB, hf, hz, h2]
            · intro d hd
              rw [e] at hd
              obtain ⟨k, hk, rfl⟩ := List.mem_map.mp hd
              have hp : (0 : Int) < ((k + 2 : Nat) : Int) := by omega
              (repeat (first | simp [sizeLine_eq, hp, wipeE] | (with_reducible refine wG_mk ?_ ?_; (first | with_reducible assumption | omega | with_reducible exact inB62_ _ (by omega) | with_reducible exact mulOk_ _ _ (by omega) | with_reducible decide))))
          · have h2' : n = 1 := by have := of_decide_eq_false h2; omega
            subst h2'
            (repeat (first | simp [sizeLine_eq] | (with_reducible refine wG_mk ?_ ?_; (first | with_reducible assumption | omega | with_reducible exact inB62_ _ (by omega) | with_reducible exact mulOk_ _ _ (by omega) | with_reducible decide))))
            decide
    · have hf : fldI i = false := by
        cases q : fldI i with
        | false => rfl
        | true => have := fldI_range q; omega
      (repeat (first | simp [sizeLine_eq, h, h0, hf] | (with_reducible refine wG_mk ?_ ?_; (first | with_reducible assumption | omega | with_reducible exact inB62_ _ (by omega) | with_reducible exact mulOk_ _ _ (by omega) | with_reducible decide))))
  | exo _ _ => cases hx
  | _ => (repeat (first | simp [sizeLine_eq, h, natB, fldB] | (with_reducible refine wG_mk ?_ ?_; (first | with_reducible assumption | omega | with_reducible exact inB62_ _ (by omega) | with_reducible exact mulOk_ _ _ (by omega) | with_reducible decide))))
/-- a check's outcome -/
def chkO (b : Bool) (c : Str) (d : Dt) : FOut := if b = true then .ret (.dat .non) else .exc c d
@[simp ↓] theorem wF_chkO (b : Bool) (c : Str) (d : Dt) (Q : Res → Prop) (X : Str → Dt → Prop) : wF (chkO b c d) Q X = wI b (Q (.dat .non)) (X c d) := by cases b <;> rfl
theorem chkO_eq {b : Bool} {c : Str} {d : Dt} {o : FOut} (h : wF o (fun r => b = true ∧ r = .dat .non) (fun c' d' => b = false ∧ c' = c ∧ d' = d)) : o = chkO b c d := by
  cases o with
  | ret r =>
    cases r with
    | dat x => obtain ⟨rfl, h⟩ := h; rw [h]; rfl
    | new x => obtain ⟨_, h⟩ := h; cases h
    | slt _ => exact h.elim
  | exc c' d' => obtain ⟨rfl, rfl, rfl⟩ := h; rfl
  | stuck => exact h.elim
theorem s_chkF (d : Dt) (hx : isX d = false) : s_check_field [d] = chkO (fldB d) "InvalidField" d := by
  refine chkO_eq ?_
  unfold s_check_field
  rw [wF_sem]
  unfold m_check_field
  simp only [startE_, startR_, List.map_cons, List.map_nil, List.length_cons, List.length_nil, List.replicate, Nat.reduceSub, Nat.reduceAdd, List.cons_append, List.nil_append]
  have h := s_fld d hx
  cases hb : fldB d <;> (repeat (first | simp [sizeLine_eq, h, hb] | (with_reducible refine wG_mk ?_ ?_; (first | with_reducible assumption | omega | with_reducible exact inB62_ _ (by omega) | with_reducible exact mulOk_ _ _ (by omega) | with_reducible decide))))
theorem s_numby (p k : Int) (hp : 0 ≤ p) : s_number_by [.int p, .int k] = .ret (.dat (.tup [.int (if p = 0 then k else k % p), .int 1])) := by
  refine wF_eq ?_
  unfold s_number_by
  rw [wF_sem]
  unfold m_number_by
  simp only [startE_, startR_, List.map_cons, List.map_nil, List.length_cons, List.length_nil, List.replicate, Nat.reduceSub, Nat.reduceAdd, List.cons_append, List.nil_append]
  by_cases h : p = 0
  · subst h; (repeat (first | simp [sizeLine_eq] | (with_reducible refine wG_mk ?_ ?_; (first | with_reducible assumption | omega | with_reducible exact inB62_ _ (by omega) | with_reducible exact mulOk_ _ _ (by omega) | with_reducible decide))))
  · have h' : 0 < p := by omega
    (repeat (first | simp [sizeLine_eq, h] | (with_reducible refine wG_mk ?_ ?_; (first | with_reducible assumption | omega | with_reducible exact inB62_ _ (by omega) | with_reducible exact mulOk_ _ _ (by omega) | with_reducible decide))))
theorem s_numof (f k : Dt) (hf : isX f = false) (hk : isX k = false) (p : Int) (hp : 0 ≤ p) (hq : fldB f = true → f = .int p) : s_number_of [f, k] = if fldB f = true then (match k with | .int k => .ret (.dat (.tup [.int (if p = 0 then k else k % p), .int 1])) | _ => .exc "InvalidInteger" k) else .exc "InvalidField" f := by
  have h1 := s_chkF f hf
  have h2 := s_int k hk
  by_cases h : fldB f = true
  · rw [if_pos h]
    have hq := hq h
    subst hq
    rw [h] at h1
    cases k with
    | int k =>
      refine wF_eq ?_
      unfold s_number_of
      rw [wF_sem]
      unfold m_number_of
      simp only [startE_, startR_, List.map_cons, List.map_nil, List.length_cons, List.length_nil, List.replicate, Nat.reduceSub, Nat.reduceAdd, List.cons_append, List.nil_append]
      have h3 := s_numby p k hp
      (repeat (first | simp [sizeLine_eq, h1, h2, h3] | (with_reducible refine wG_mk ?_ ?_; (first | with_reducible assumption | omega | with_reducible exact inB62_ _ (by omega) | with_reducible exact mulOk_ _ _ (by omega) | with_reducible decide))))
    | exo _ _ => cases hk
    | _ =>
      refine wF_eqx ?_
      unfold s_number_of
      rw [wF_sem]
      unfold m_number_of
      simp only [startE_, startR_, List.map_cons, List.map_nil, List.length_cons, List.length_nil, List.replicate, Nat.reduceSub, Nat.reduceAdd, List.cons_append, List.nil_append]
      (repeat (first | simp [sizeLine_eq, h1, h2, isI] | (with_reducible refine wG_mk ?_ ?_; (first | with_reducible assumption | omega | with_reducible exact inB62_ _ (by omega) | with_reducible exact mulOk_ _ _ (by omega) | with_reducible decide))))
  · rw [if_neg h]
    refine wF_eqx ?_
    unfold s_number_of
    rw [wF_sem]
    unfold m_number_of
    simp only [startE_, startR_, List.map_cons, List.map_nil, List.length_cons, List.length_nil, List.replicate, Nat.reduceSub, Nat.reduceAdd, List.cons_append, List.nil_append]
    have h' : fldB f = false := by simpa using h
    rw [h'] at h1
    (repeat (first | simp [sizeLine_eq, h1] | (with_reducible refine wG_mk ?_ ?_; (first | with_reducible assumption | omega | with_reducible exact inB62_ _ (by omega) | with_reducible exact mulOk_ _ _ (by omega) | with_reducible decide))))
theorem gcd_emod' {a b : Int} (ha : 0 ≤ a) (hb : 0 ≤ b) : Int.gcd b (a % b) = Int.gcd a b := by
  obtain ⟨m, rfl⟩ := Int.eq_ofNat_of_zero_le ha
  obtain ⟨n, rfl⟩ := Int.eq_ofNat_of_zero_le hb
  show Nat.gcd n (m % n) = Nat.gcd m n
  rw [Nat.gcd_comm m n, Nat.gcd_rec n m, Nat.gcd_comm]
theorem s_gcd (a b : Int) : s_greatest_divisor [.int a, .int b] = .ret (.dat (.int (Int.gcd a b))) := by
  refine wF_eq ?_
  unfold s_greatest_divisor
  rw [wF_sem]
  unfold m_greatest_divisor
  simp only [startE_, startR_, List.map_cons, List.map_nil, List.length_cons, List.length_nil, List.replicate, Nat.reduceSub, Nat.reduceAdd, List.cons_append, List.nil_append]
  (repeat (first | simp [sizeLine_eq] | (with_reducible refine wG_mk ?_ ?_; (first | with_reducible assumption | omega | with_reducible exact inB62_ _ (by omega) | with_reducible exact mulOk_ _ _ (by omega) | with_reducible decide))))
  with_reducible refine wS_while (fun e => ∃ x y : Int, e = [.val (.int x), .val (.int y)] ∧ 0 ≤ x ∧ 0 ≤ y ∧ Int.gcd x y = Int.gcd a b) (fun e => (slI e 1).toNat) ?_ ?_
  · refine ⟨_, _, rfl, ?_, ?_, ?_⟩
    · split <;> omega
    · split <;> omega
    · have ab : ∀ x : Int, (if x < 0 then -x else x).natAbs = x.natAbs := fun x => by split <;> omega
      unfold Int.gcd
      rw [ab, ab]
  · intro e ⟨x, y, h, hx, hy, hg⟩
    subst h
    (repeat (first | simp [sizeLine_eq] | (with_reducible refine wG_mk ?_ ?_; (first | with_reducible assumption | omega | with_reducible exact inB62_ _ (by omega) | with_reducible exact mulOk_ _ _ (by omega) | with_reducible decide))))
    refine wI_mk (fun h => ?_) (fun h => ?_)
    · have h' : 0 < y := by simp at h; omega
      have m := mod_in x y h'
      (repeat (first | simp [sizeLine_eq] | (with_reducible refine wG_mk ?_ ?_; (first | with_reducible assumption | omega | with_reducible exact inB62_ _ (by omega) | with_reducible exact mulOk_ _ _ (by omega) | with_reducible decide))))
      exact hold ⟨⟨_, _, rfl, hy, m.1, by rw [gcd_emod' hx hy, hg]⟩, by show (x % y).toNat < y.toNat; omega⟩
    · simp at h
      subst h
      (repeat (first | simp [sizeLine_eq] | (with_reducible refine wG_mk ?_ ?_; (first | with_reducible assumption | omega | with_reducible exact inB62_ _ (by omega) | with_reducible exact mulOk_ _ _ (by omega) | with_reducible decide))))
      rw [← hg]
      simp
      omega
theorem gd_isX {n : Nat} {d : Dt} (h : gd n d = true) : isX d = false := by
  cases d <;> first | rfl | (simp at h)
theorem gd_tl {n : Nat} {ds : List Dt} (h : gd n (.tup ds) = true) : ds.length ≤ 100000 ∧ ∀ x ∈ ds, gd (n - 1) x = true := by
  cases n with
  | zero => cases h
  | succ n => simp at h; exact ⟨h.1, gds_all.mp h.2⟩
def encN (a : Int × Int) : Dt := .tup [.int a.1, .int a.2]
def numI (p a b : Int) : Bool := if p = 0 then decide (0 < b) && decide (Int.gcd a b = 1) else (decide (0 ≤ a) && decide (a < p)) && decide (b = 1)
def numB (p : Int) : Dt → Bool
  | .tup [.int a, .int b] => numI p a b
  | _ => false
@[simp] theorem numB_tup (p a b : Int) : numB p (.tup [.int a, .int b]) = numI p a b := id rfl
theorem s_isnum (p : Int) (d : Dt) (n : Nat) (h : gd n d = true) : s_is_number_of [.int p, d] = .ret (.dat (.bl (numB p d))) := by
  refine wF_eq ?_
  unfold s_is_number_of
  rw [wF_sem]
  unfold m_is_number_of
  simp only [startE_, startR_, List.map_cons, List.map_nil, List.length_cons, List.length_nil, List.replicate, Nat.reduceSub, Nat.reduceAdd, List.cons_append, List.nil_append]
  cases d with
  | tup ds =>
    obtain ⟨hl, hs⟩ := gd_tl h
    (repeat (first | simp [sizeLine_eq] | (with_reducible refine wG_mk ?_ ?_; (first | with_reducible assumption | omega | with_reducible exact inB62_ _ (by omega) | with_reducible exact mulOk_ _ _ (by omega) | with_reducible decide))))
    refine wI_mk (fun h2 => ?_) (fun h2 => ?_)
    · (repeat (first | simp [sizeLine_eq] | (with_reducible refine wG_mk ?_ ?_; (first | with_reducible assumption | omega | with_reducible exact inB62_ _ (by omega) | with_reducible exact mulOk_ _ _ (by omega) | with_reducible decide))))
      have e : numB p (.tup ds) = false := by
        match ds, h2 with
        | [], _ => rfl
        | [_], _ => simp [numB]
        | [a, b], h2 => simp at h2
        | a :: b :: c :: r, _ => simp [numB]
      rw [e]
    · obtain ⟨x, y, rfl⟩ : ∃ x y, ds = [x, y] := by
        match ds, h2 with
        | [], h2 => simp at h2
        | [_], h2 => simp at h2
        | [a, b], _ => exact ⟨a, b, rfl⟩
        | a :: b :: c :: r, h2 => simp at h2; omega
      (repeat (first | simp [sizeLine_eq, wipeE] | (with_reducible refine wG_mk ?_ ?_; (first | with_reducible assumption | omega | with_reducible exact inB62_ _ (by omega) | with_reducible exact mulOk_ _ _ (by omega) | with_reducible decide))))
      refine wE_compM (fun d => .bl (isI d)) (by rw [sizeLine_eq]; simp) ?_ ?_
      · have a := fAll_map [x, y] isI
        have hx := hs x (by simp)
        have hy := hs y (by simp)
        simp at a
        (repeat (first | simp [sizeLine_eq, restE, a] | (with_reducible refine wG_mk ?_ ?_; (first | with_reducible assumption | omega | with_reducible exact inB62_ _ (by omega) | with_reducible exact mulOk_ _ _ (by omega) | with_reducible decide))))
        cases x with
        | int x =>
          cases y with
          | int y =>
            have hg := s_gcd x y
            by_cases hp : p = 0
            · subst hp
              (repeat (first | simp [sizeLine_eq, hg, numB, numI] | (with_reducible refine wG_mk ?_ ?_; (first | with_reducible assumption | omega | with_reducible exact inB62_ _ (by omega) | with_reducible exact mulOk_ _ _ (by omega) | with_reducible decide))))
              refine wI_mk (fun h2 => ?_) (fun h2 => ?_)
              · (repeat (first | simp [sizeLine_eq, hg, of_decide_eq_true h2] | (with_reducible refine wG_mk ?_ ?_; (first | with_reducible assumption | omega | with_reducible exact inB62_ _ (by omega) | with_reducible exact mulOk_ _ _ (by omega) | with_reducible decide))))
                omega
              · (repeat (first | simp [sizeLine_eq] | (with_reducible refine wG_mk ?_ ?_; (first | with_reducible assumption | omega | with_reducible exact inB62_ _ (by omega) | with_reducible exact mulOk_ _ _ (by omega) | with_reducible decide))))
                intro z; simp at h2; omega
            · (repeat (first | simp [sizeLine_eq, hp, numB, numI] | (with_reducible refine wG_mk ?_ ?_; (first | with_reducible assumption | omega | with_reducible exact inB62_ _ (by omega) | with_reducible exact mulOk_ _ _ (by omega) | with_reducible decide))))
              refine wI_mk (fun h2 => ?_) (fun h2 => ?_)
              · have h2' : 0 ≤ x := of_decide_eq_true h2
                (repeat (first | simp [sizeLine_eq] | (with_reducible refine wG_mk ?_ ?_; (first | with_reducible assumption | omega | with_reducible exact inB62_ _ (by omega) | with_reducible exact mulOk_ _ _ (by omega) | with_reducible decide))))
                refine wI_mk (fun h3 => ?_) (fun h3 => ?_)
                · have h3' : x < p := of_decide_eq_true h3
                  (repeat (first | simp [sizeLine_eq, h2', h3', hp] | (with_reducible refine wG_mk ?_ ?_; (first | with_reducible assumption | omega | with_reducible exact inB62_ _ (by omega) | with_reducible exact mulOk_ _ _ (by omega) | with_reducible decide))))
                · have h3' : ¬ x < p := of_decide_eq_false h3
                  (repeat (first | simp [sizeLine_eq, h3', hp] | (with_reducible refine wG_mk ?_ ?_; (first | with_reducible assumption | omega | with_reducible exact inB62_ _ (by omega) | with_reducible exact mulOk_ _ _ (by omega) | with_reducible decide))))
              · have h2' : ¬ 0 ≤ x := of_decide_eq_false h2
                (repeat (first | simp [sizeLine_eq, h2', hp] | (with_reducible refine wG_mk ?_ ?_; (first | with_reducible assumption | omega | with_reducible exact inB62_ _ (by omega) | with_reducible exact mulOk_ _ _ (by omega) | with_reducible decide))))
          | exo _ _ => simp at hy
          | _ => (repeat (first | simp [sizeLine_eq, isI, numB] | (with_reducible refine wG_mk ?_ ?_; (first | with_reducible assumption | omega | with_reducible exact inB62_ _ (by omega) | with_reducible exact mulOk_ _ _ (by omega) | with_reducible decide))))
        | exo _ _ => simp at hx
        | _ => (repeat (first | simp [sizeLine_eq, isI, numB] | (with_reducible refine wG_mk ?_ ?_; (first | with_reducible assumption | omega | with_reducible exact inB62_ _ (by omega) | with_reducible exact mulOk_ _ _ (by omega) | with_reducible decide))))
      · intro d hd
        have q := s_int d (gd_isX (hs d hd))
        (repeat (first | simp [sizeLine_eq, q, wipeE] | (with_reducible refine wG_mk ?_ ?_; (first | with_reducible assumption | omega | with_reducible exact inB62_ _ (by omega) | with_reducible exact mulOk_ _ _ (by omega) | with_reducible decide))))
  | exo _ _ => simp at h
  | _ => (repeat (first | simp [sizeLine_eq, numB] | (with_reducible refine wG_mk ?_ ?_; (first | with_reducible assumption | omega | with_reducible exact inB62_ _ (by omega) | with_reducible exact mulOk_ _ _ (by omega) | with_reducible decide))))
theorem s_chknum (p : Int) (d : Dt) (n : Nat) (h : gd n d = true) : s_check_number [.int p, d] = chkO (numB p d) "InvalidNumber" d := by
  refine chkO_eq ?_
  unfold s_check_number
  rw [wF_sem]
  unfold m_check_number
  simp only [startE_, startR_, List.map_cons, List.map_nil, List.length_cons, List.length_nil, List.replicate, Nat.reduceSub, Nat.reduceAdd, List.cons_append, List.nil_append]
  have q := s_isnum p d n h
  cases hb : numB p d <;> (repeat (first | simp [sizeLine_eq, q, hb] | (with_reducible refine wG_mk ?_ ?_; (first | with_reducible assumption | omega | with_reducible exact inB62_ _ (by omega) | with_reducible exact mulOk_ _ _ (by omega) | with_reducible decide))))
/-- one outcome, then another -/
def FOut.andThen (o o' : FOut) : FOut := match o with
  | .ret (.dat .non) => o'
  | .exc c d => .exc c d
  | _ => .stuck
theorem s_chk2 (p : Int) (hp : fldI p = true) (a b : Dt) (n : Nat) (ha : gd n a = true) (hb : gd n b = true) : s_check_two_numbers [.int p, a, b] = if numB p a = true then chkO (numB p b) "InvalidNumber" b else .exc "InvalidNumber" a := by
  have q0 := s_chkF (.int p) rfl
  have q1 := s_chknum p a n ha
  have q2 := s_chknum p b n hb
  simp only [fldB_int, hp] at q0
  by_cases h : numB p a = true
  · rw [if_pos h]
    refine chkO_eq ?_
    unfold s_check_two_numbers
    rw [wF_sem]
    unfold m_check_two_numbers
    simp only [startE_, startR_, List.map_cons, List.map_nil, List.length_cons, List.length_nil, List.replicate, Nat.reduceSub, Nat.reduceAdd, List.cons_append, List.nil_append]
    cases h2 : numB p b <;> (repeat (first | simp [sizeLine_eq, q0, q1, q2, h, h2] | (with_reducible refine wG_mk ?_ ?_; (first | with_reducible assumption | omega | with_reducible exact inB62_ _ (by omega) | with_reducible exact mulOk_ _ _ (by omega) | with_reducible decide))))
  · rw [if_neg h]
    refine wF_eqx ?_
    unfold s_check_two_numbers
    rw [wF_sem]
    unfold m_check_two_numbers
    simp only [startE_, startR_, List.map_cons, List.map_nil, List.length_cons, List.length_nil, List.replicate, Nat.reduceSub, Nat.reduceAdd, List.cons_append, List.nil_append]
    have h : numB p a = false := by simpa using h
    (repeat (first | simp [sizeLine_eq, q0, q1, h] | (with_reducible refine wG_mk ?_ ?_; (first | with_reducible assumption | omega | with_reducible exact inB62_ _ (by omega) | with_reducible exact mulOk_ _ _ (by omega) | with_reducible decide))))
theorem s_chk2F (f a b : Dt) (hx : isX f = false) (hf : fldB f = false) : s_check_two_numbers [f, a, b] = .exc "InvalidField" f := by
  have q0 := s_chkF f hx
  rw [hf] at q0
  refine wF_eqx ?_
  unfold s_check_two_numbers
  rw [wF_sem]
  unfold m_check_two_numbers
  simp only [startE_, startR_, List.map_cons, List.map_nil, List.length_cons, List.length_nil, List.replicate, Nat.reduceSub, Nat.reduceAdd, List.cons_append, List.nil_append]
  (repeat (first | simp [sizeLine_eq, q0] | (with_reducible refine wG_mk ?_ ?_; (first | with_reducible assumption | omega | with_reducible exact inB62_ _ (by omega) | with_reducible exact mulOk_ _ _ (by omega) | with_reducible decide))))
theorem fdiv_pos_ {x y : Int} (h : 0 < y) : x.fdiv y = x / y := Int.fdiv_eq_ediv_of_nonneg x (by omega)
theorem s_und (a p : Int) (h1 : 1 < p) (h2 : p < 100) (hg : Int.gcd a p = 1) : ∃ r, s_undone [.int a, .int p] = .ret (.dat (.int r)) ∧ 0 ≤ r ∧ r < p ∧ (r * a) % p = 1 := by
  have key : wF (s_undone [.int a, .int p]) (fun R => Hold (fun R => ∃ r, R = .dat (.int r) ∧ 0 ≤ r ∧ r < p ∧ (r * a) % p = 1) R) (fun _ _ => False) := by
    unfold s_undone
    rw [wF_sem]
    unfold m_undone
    simp only [startE_, startR_, List.map_cons, List.map_nil, List.length_cons, List.length_nil, List.replicate, Nat.reduceSub, Nat.reduceAdd, List.cons_append, List.nil_append]
    have hp : 0 < p := by omega
    have m := mod_in a p hp
    (repeat (first | simp [sizeLine_eq] | (with_reducible refine wG_mk ?_ ?_; (first | with_reducible assumption | omega | with_reducible exact inB62_ _ (by omega) | with_reducible exact mulOk_ _ _ (by omega) | with_reducible decide))))
    with_reducible refine wS_while (fun e => ∃ (x y u v : Int) (w : Sl), e = [.val (.int a), .val (.int p), .val (.int x), .val (.int y), .val (.int u), .val (.int v), w] ∧ 0 ≤ x ∧ x ≤ p ∧ 0 ≤ y ∧ y ≤ p ∧ Int.gcd x y = 1 ∧ (∃ k, u * a = x + k * p) ∧ ∃ l, v * a = y + l * p) (fun e => (slI e 3).toNat) ?_ ?_
    · refine ⟨_, _, _, _, _, rfl, m.1, by omega, by omega, by omega, ?_, ⟨a / p, ?_⟩, ⟨-1, by omega⟩⟩
      · rw [← hg, Int.gcd_comm, ← Int.gcd_comm p a]
        have := Int.gcd_add_mul_right_right (m := p) (n := a % p) (k := a / p)
        rw [← this]
        congr 1
        rw [Int.emod_def, Int.mul_comm]; omega
      · rw [Int.emod_def, Int.mul_comm p]; omega
    · intro e ⟨x, y, u, v, w, h, hx, hx2, hy, hy2, hg, ⟨k, hk⟩, ⟨l, hl⟩⟩
      subst h
      (repeat (first | simp [sizeLine_eq] | (with_reducible refine wG_mk ?_ ?_; (first | with_reducible assumption | omega | with_reducible exact inB62_ _ (by omega) | with_reducible exact mulOk_ _ _ (by omega) | with_reducible decide))))
      refine wI_mk (fun h => ?_) (fun h => ?_)
      · have h' : 0 < y := by simp at h; omega
        have dv : divOk y := dOk y h' (by omega)
        have by1 : 0 ≤ x / y := Int.ediv_nonneg hx hy
        have by2 : x / y ≤ x := Int.ediv_le_self _ hx
        have o1 := mulOk_ (x.fdiv y) y (.inr (by omega))
        have o2 := mulOk_ (x.fdiv y) v (.inl (by rw [fdiv_pos_ h']; omega))
        (repeat (first | simp [sizeLine_eq] | (with_reducible refine wG_mk ?_ ?_; (first | with_reducible assumption | omega | with_reducible exact inB62_ _ (by omega) | with_reducible exact mulOk_ _ _ (by omega) | with_reducible decide))))
        have m := mod_in x y h'
        have em : x - x / y * y = x % y := by rw [Int.emod_def, Int.mul_comm]
        refine hold ⟨⟨_, _, _, _, _, rfl, hy, hy2, ?_, ?_, ?_, ⟨l, hl⟩, ⟨k - (x / y) * l, ?_⟩⟩, ?_⟩
        · rw [fdiv_pos_ h', em]; exact m.1
        · rw [fdiv_pos_ h', em]; omega
        · rw [fdiv_pos_ h', em, gcd_emod' hx hy, hg]
        · rw [fdiv_pos_ h', Int.sub_mul, Int.mul_assoc, hl, hk, Int.mul_add, Int.sub_mul, Int.mul_assoc]; omega
        · show (x - x.fdiv y * y).toNat < y.toNat
          rw [fdiv_pos_ h', em]; omega
      · simp at h
        subst h
        (repeat (first | simp [sizeLine_eq] | (with_reducible refine wG_mk ?_ ?_; (first | with_reducible assumption | omega | with_reducible exact inB62_ _ (by omega) | with_reducible exact mulOk_ _ _ (by omega) | with_reducible decide))))
        have m := mod_in u p hp
        refine hold ⟨_, rfl, m.1, m.2, ?_⟩
        have hx1 : x = 1 := by
          rw [Int.gcd_zero_right] at hg; omega
        rw [Int.mul_emod, Int.emod_emod_of_dvd _ (Int.dvd_refl p), ← Int.mul_emod, hk, hx1, Int.add_mul_emod_self_right]
        exact Int.emod_eq_of_lt (by omega) h1
  cases z : s_undone [.int a, .int p] with
  | ret R =>
    rw [z] at key
    cases R with
    | dat d => obtain ⟨r, h1, h⟩ := key; cases h1; exact ⟨r, rfl, h⟩
    | new d => obtain ⟨r, h1, h⟩ := key; cases h1
    | slt i => exact key.elim
  | exc c d => rw [z] at key; exact key.elim
  | stuck => rw [z] at key; exact key.elim

end Fw

/-! Pg2: the fields as rings. -/
namespace Fw
open PySem PySem.Spec PyProof.Rows L2
theorem me_l (a b p : Int) : (a % p * b) % p = a * b % p := by rw [Int.mul_emod, Int.emod_emod_of_dvd _ (Int.dvd_refl p), ← Int.mul_emod]
theorem me_r (a b p : Int) : (a * (b % p)) % p = a * b % p := by rw [Int.mul_comm, me_l, Int.mul_comm]
/-- a field of the program: 0 or a prime of at most two digits -/
structure Fd where
  p : Int
  ok : fldI p = true
theorem Fd.range (F : Fd) : 0 ≤ F.p ∧ F.p < 98 := fldI_range F.ok
theorem Fd.two (F : Fd) (h : F.p ≠ 0) : 1 < F.p := by
  have q : FLD.all (fun i => decide (i = 0 ∨ 1 < i)) = true := by decide +kernel
  have := of_decide_eq_true (List.all_eq_true.mp q F.p (by simpa [fldI] using F.ok))
  omega
theorem prime_tab : FLD.all (fun p => (List.range 98).all fun k => decide (k = 0) || decide (p ≤ k) || decide (p = 0) || decide (Int.gcd k p = 1)) = true := by decide +kernel
/-- what is not 0 modulo a prime has no divisor with it -/
theorem Fd.gcd1 (F : Fd) (h : F.p ≠ 0) {a : Int} (ha : a % F.p ≠ 0) : Int.gcd a F.p = 1 := by
  have h1 := F.two h
  have h2 := F.range
  have m := mod_in a F.p (by omega)
  have q := List.all_eq_true.mp prime_tab F.p (by simpa [fldI] using F.ok)
  have q := List.all_eq_true.mp q (a % F.p).toNat (List.mem_range.mpr (by omega))
  have e : (((a % F.p).toNat : Nat) : Int) = a % F.p := by omega
  simp only [Bool.or_eq_true, decide_eq_true_eq, e] at q
  rcases q with ((q | q) | q) | q
  · omega
  · omega
  · exact absurd q h
  · rw [← q, Int.gcd_comm, ← Int.gcd_comm F.p]
    have := Int.gcd_add_mul_right_right (m := F.p) (n := a % F.p) (k := a / F.p)
    rw [← this]
    congr 1
    rw [Int.emod_def, Int.mul_comm]; omega
/-- the inverse modulo a prime -/
def undo (p b : Int) : Int := match (List.range p.toNat).find? (fun (r : Nat) => decide (((r : Int) * b) % p = 1)) with
  | some r => (r : Int)
  | none => 0
theorem undo_eq {p b r : Int} (hp : 1 < p) (h0 : 0 ≤ r) (h1 : r < p) (h : (r * b) % p = 1) : undo p b = r := by
  unfold undo
  have hr : ((r.toNat : Nat) : Int) = r := Int.toNat_of_nonneg h0
  cases e : (List.range p.toNat).find? (fun (r : Nat) => decide (((r : Int) * b) % p = 1)) with
  | none =>
    have := List.find?_eq_none.mp e r.toNat (List.mem_range.mpr (by omega))
    rw [hr] at this
    simp [h] at this
  | some s =>
    have s1 := List.find?_some e
    have s2 := List.mem_range.mp (List.mem_of_find?_eq_some e)
    have s1 : ((s : Int) * b) % p = 1 := of_decide_eq_true s1
    show (s : Int) = r
    have a1 : (r * (s * b)) % p = r := by
      rw [Int.mul_emod, s1, Int.mul_one, Int.emod_emod_of_dvd _ (Int.dvd_refl p), Int.emod_eq_of_lt h0 h1]
    have a2 : (r * (s * b)) % p = s := by
      rw [← Int.mul_assoc, Int.mul_comm r, Int.mul_assoc, Int.mul_emod, h, Int.mul_one, Int.emod_emod_of_dvd _ (Int.dvd_refl p), Int.emod_eq_of_lt (by omega) (by omega)]
    omega
theorem s_undone' (F : Fd) (h : F.p ≠ 0) {a : Int} (ha : a % F.p ≠ 0) : s_undone [.int a, .int F.p] = .ret (.dat (.int (undo F.p a))) ∧ 0 ≤ undo F.p a ∧ undo F.p a < F.p ∧ (undo F.p a * a) % F.p = 1 := by
  obtain ⟨r, e, h0, h1, h2⟩ := s_und a F.p (F.two h) (by have := F.range; omega) (F.gcd1 h ha)
  rw [undo_eq (F.two h) h0 h1 h2]
  exact ⟨e, h0, h1, h2⟩
abbrev NP := Int × Int
def qN (q : Rat) : NP := (q.num, (q.den : Int))
def nQ (a : NP) : Rat := Rat.divInt a.1 a.2
def NOk (p : Int) (a : NP) : Prop := numI p a.1 a.2 = true
theorem nQ_qN (q : Rat) : nQ (qN q) = q := Rat.num_divInt_den q
theorem qN_ok (q : Rat) : NOk 0 (qN q) := by
  unfold NOk numI qN
  have h1 : 0 < q.den := q.den_pos
  have h2 : Int.gcd q.num (q.den : Int) = 1 := q.reduced
  simp [h1, h2]
theorem qN_nQ {a : NP} (h : NOk 0 a) : qN (nQ a) = a := by
  obtain ⟨x, y⟩ := a
  unfold NOk numI at h
  simp at h
  obtain ⟨h0, h1⟩ := h
  unfold qN nQ
  have e1 : (Rat.divInt x y).num = x := by
    rw [Rat.num_divInt, Int.gcd_comm, h1, Int.sign_eq_one_of_pos h0]; simp
  have e2 : ((Rat.divInt x y).den : Int) = y := by
    rw [Rat.den_divInt, Int.gcd_comm, h1, if_neg (by omega)]; simp; omega
  exact Prod.ext e1 e2
/-- a number of a field -/
structure K (F : Fd) where
  val : NP
  property : NOk F.p val
theorem K.ext' {F : Fd} {a b : K F} (h : a.val = b.val) : a = b := by
  cases a; cases b; cases h; rfl
theorem mOk (F : Fd) (h : F.p ≠ 0) (x : Int) : NOk F.p (x % F.p, 1) := by
  have h1 := F.two h
  have m := mod_in x F.p (by omega)
  unfold NOk numI
  simp [h, m]
def K.ofQ {F : Fd} (h : F.p = 0) (q : Rat) : K F := ⟨qN q, by rw [h]; exact qN_ok q⟩
def K.ofM {F : Fd} (h : F.p ≠ 0) (x : Int) : K F := ⟨(x % F.p, 1), mOk F h x⟩
def K.q {F : Fd} (a : K F) : Rat := nQ a.val
def K.m {F : Fd} (a : K F) : Int := a.val.1
theorem K.extQ {F : Fd} (h : F.p = 0) {a b : K F} (e : a.q = b.q) : a = b := by
  obtain ⟨a, ha⟩ := a
  obtain ⟨b, hb⟩ := b
  rw [h] at ha hb
  refine K.ext' ?_
  show a = b
  rw [← qN_nQ ha, ← qN_nQ hb]
  exact congrArg qN e
theorem K.m_in {F : Fd} (h : F.p ≠ 0) (a : K F) : 0 ≤ a.m ∧ a.m < F.p ∧ a.val.2 = 1 := by
  obtain ⟨⟨x, y⟩, ha⟩ := a
  unfold NOk numI at ha
  simp [h] at ha
  exact ⟨ha.1.1, ha.1.2, ha.2⟩
theorem K.extM {F : Fd} (h : F.p ≠ 0) {a b : K F} (e : a.m % F.p = b.m % F.p) : a = b := by
  have ha := a.m_in h
  have hb := b.m_in h
  rw [Int.emod_eq_of_lt ha.1 ha.2.1, Int.emod_eq_of_lt hb.1 hb.2.1] at e
  exact K.ext' (Prod.ext e (by rw [ha.2.2, hb.2.2]))
@[simp] theorem K.q_ofQ {F : Fd} (h : F.p = 0) (q : Rat) : (K.ofQ h q).q = q := nQ_qN q
@[simp] theorem K.m_ofM {F : Fd} (h : F.p ≠ 0) (x : Int) : (K.ofM h x).m = x % F.p := id rfl
instance {F : Fd} : Zero (K F) := ⟨if h : F.p = 0 then K.ofQ h 0 else K.ofM h 0⟩
instance {F : Fd} : One (K F) := ⟨if h : F.p = 0 then K.ofQ h 1 else K.ofM h 1⟩
instance {F : Fd} : Add (K F) := ⟨fun a b => if h : F.p = 0 then K.ofQ h (a.q + b.q) else K.ofM h (a.m + b.m)⟩
instance {F : Fd} : Mul (K F) := ⟨fun a b => if h : F.p = 0 then K.ofQ h (a.q * b.q) else K.ofM h (a.m * b.m)⟩
instance {F : Fd} : Neg (K F) := ⟨fun a => if h : F.p = 0 then K.ofQ h (-a.q) else K.ofM h (-a.m)⟩
instance {F : Fd} : Inv (K F) := ⟨fun a => if h : F.p = 0 then K.ofQ h (a.q⁻¹) else K.ofM h (undo F.p a.m)⟩
def K.ofI (F : Fd) (x : Int) : K F := if h : F.p = 0 then K.ofQ h (x : Rat) else K.ofM h x
section
variable {F : Fd}
theorem K.add_q (h : F.p = 0) (a b : K F) : (a + b).q = a.q + b.q := by show (dite _ _ _ : K F).q = _; rw [dif_pos h]; simp
theorem K.mul_q (h : F.p = 0) (a b : K F) : (a * b).q = a.q * b.q := by show (dite _ _ _ : K F).q = _; rw [dif_pos h]; simp
theorem K.neg_q (h : F.p = 0) (a : K F) : (-a).q = -a.q := by show (dite _ _ _ : K F).q = _; rw [dif_pos h]; simp
theorem K.inv_q (h : F.p = 0) (a : K F) : (a⁻¹).q = a.q⁻¹ := by show (dite _ _ _ : K F).q = _; rw [dif_pos h]; simp
theorem K.zero_q (h : F.p = 0) : (0 : K F).q = 0 := by show (dite _ _ _ : K F).q = _; rw [dif_pos h]; simp
theorem K.one_q (h : F.p = 0) : (1 : K F).q = 1 := by show (dite _ _ _ : K F).q = _; rw [dif_pos h]; simp
theorem K.ofI_q (h : F.p = 0) (x : Int) : (K.ofI F x).q = x := by show (dite _ _ _ : K F).q = _; rw [dif_pos h]; simp
theorem K.add_m (g : F.p ≠ 0) (a b : K F) : (a + b).m = (a.m + b.m) % F.p := by show (dite _ _ _ : K F).m = _; rw [dif_neg g]; simp
theorem K.mul_m (g : F.p ≠ 0) (a b : K F) : (a * b).m = (a.m * b.m) % F.p := by show (dite _ _ _ : K F).m = _; rw [dif_neg g]; simp
theorem K.neg_m (g : F.p ≠ 0) (a : K F) : (-a).m = (-a.m) % F.p := by show (dite _ _ _ : K F).m = _; rw [dif_neg g]; simp
theorem K.inv_m (g : F.p ≠ 0) (a : K F) : (a⁻¹).m = undo F.p a.m % F.p := by show (dite _ _ _ : K F).m = _; rw [dif_neg g]; simp
theorem K.zero_m (g : F.p ≠ 0) : (0 : K F).m = 0 := by show (dite _ _ _ : K F).m = _; rw [dif_neg g]; simp
theorem K.one_m (g : F.p ≠ 0) : (1 : K F).m = 1 % F.p := by show (dite _ _ _ : K F).m = _; rw [dif_neg g]; simp
theorem K.ofI_m (g : F.p ≠ 0) (x : Int) : (K.ofI F x).m = x % F.p := by show (dite _ _ _ : K F).m = _; rw [dif_neg g]; simp
end
section
variable {F : Fd}
theorem K.ext2 {a b : K F} (h1 : F.p = 0 → a.q = b.q) (h2 : F.p ≠ 0 → a.m % F.p = b.m % F.p) : a = b := by
  by_cases h : F.p = 0
  · exact K.extQ h (h1 h)
  · exact K.extM h (h2 h)
protected theorem K.add_comm (a b : K F) : a + b = b + a := K.ext2 (fun h => by rw [K.add_q h, K.add_q h, Rat.add_comm]) fun h => by rw [K.add_m h, K.add_m h, Int.add_comm]
protected theorem K.add_assoc (a b c : K F) : a + b + c = a + (b + c) := K.ext2 (fun h => by simp only [K.add_q h, Rat.add_assoc]) fun h => by simp [K.add_m h, Int.add_assoc]
protected theorem K.add_zero (a : K F) : a + 0 = a := K.ext2 (fun h => by simp only [K.add_q h, K.zero_q h, Rat.add_zero]) fun h => by simp [K.add_m h, K.zero_m h]
protected theorem K.neg_add_cancel (a : K F) : -a + a = 0 := K.ext2 (fun h => by simp only [K.add_q h, K.neg_q h, K.zero_q h, Rat.neg_add_cancel]) fun h => by simp [K.add_m h, K.zero_m h, K.neg_m h, Int.add_left_neg]
protected theorem K.mul_comm (a b : K F) : a * b = b * a := K.ext2 (fun h => by rw [K.mul_q h, K.mul_q h, Rat.mul_comm]) fun h => by rw [K.mul_m h, K.mul_m h, Int.mul_comm]
protected theorem K.mul_assoc (a b c : K F) : a * b * c = a * (b * c) := K.ext2 (fun h => by simp only [K.mul_q h, Rat.mul_assoc]) fun h => by simp [K.mul_m h, Int.mul_assoc, me_l, me_r]
protected theorem K.mul_one (a : K F) : a * 1 = a := K.ext2 (fun h => by simp only [K.mul_q h, K.one_q h, Rat.mul_one]) fun h => by simp [K.mul_m h, K.one_m h, me_r]
protected theorem K.left_distrib (a b c : K F) : a * (b + c) = a * b + a * c := K.ext2 (fun h => by simp only [K.mul_q h, K.add_q h, Rat.mul_add]) fun h => by simp [K.mul_m h, K.add_m h, Int.mul_add, me_r]
protected theorem K.zero_mul (a : K F) : 0 * a = 0 := K.ext2 (fun h => by simp only [K.mul_q h, K.zero_q h, Rat.zero_mul]) fun h => by simp [K.mul_m h, K.zero_m h]
theorem K.ne0_m (h : F.p ≠ 0) {a : K F} (ha : a ≠ 0) : a.m % F.p ≠ 0 := fun z => ha (K.extM h (by rw [z, K.zero_m h]; simp))
protected theorem K.inv_mul_cancel {a : K F} (ha : a ≠ 0) : a⁻¹ * a = 1 := K.ext2 (fun h => by
    rw [K.mul_q h, K.inv_q h, K.one_q h]
    exact Rat.inv_mul_cancel _ fun z => ha (K.extQ h (by rw [z, K.zero_q h]))) fun h => by
    have q := (s_undone' F h (K.ne0_m h ha)).2.2.2
    rw [K.mul_m h, K.inv_m h, K.one_m h]
    rw [me_l, Int.emod_emod_of_dvd _ (Int.dvd_refl _), q, Int.emod_emod_of_dvd _ (Int.dvd_refl _), Int.emod_eq_of_lt (by decide) (F.two h)]
theorem K.one_ne_zero : (1 : K F) ≠ 0 := fun e => by
  by_cases h : F.p = 0
  · have := congrArg K.q e
    rw [K.one_q h, K.zero_q h] at this
    exact absurd this (by decide)
  · have := congrArg K.m e
    rw [K.one_m h, K.zero_m h, Int.emod_eq_of_lt (by decide) (F.two h)] at this
    exact absurd this (by decide)
end

end Fw

/-! Pg3: the numbers' functions over the fields. -/
namespace Fw
open PySem PySem.Spec PyProof.Rows L2
noncomputable section
def m_negative_of : MS :=
  (sRet 0 (eIf (cBl (eBin fNe (eVar 0) (eDat (.int 0)))) (eTup (vCons (eBin fMod (eUn fNeg (eBin fIx (eVar 1) (eDat (.int 0)))) (eVar 0)) (vCons (eDat (.int 1)) vNil))) (eTup (vCons (eUn fNeg (eBin fIx (eVar 1) (eDat (.int 0)))) (vCons (eBin fIx (eVar 1) (eDat (.int 1))) vNil)))))
def s_negative_of : FS := semF 2 m_negative_of
def m_minus_of : MS :=
  (sRet 0 (eCall 3 s_plus_of (vCons (eVar 0) (vCons (eVar 1) (vCons (eCall 2 s_negative_of (vCons (eVar 0) (vCons (eVar 2) vNil))) vNil)))))
def s_minus_of : FS := semF 3 m_minus_of
end
theorem mulOk_sz {i j : Int} {n m : Nat} (hi : i.natAbs < 2 ^ n) (hj : j.natAbs < 2 ^ m) (h : n + m ≤ 100000) : mulOk i j :=
  .inr (.inr (wide_mul (a := n + 1) (b := m + 1) (Nat.lt_of_lt_of_le hi (Nat.pow_le_pow_right (by decide) (Nat.le_succ n))) (Nat.lt_of_lt_of_le hj (Nat.pow_le_pow_right (by decide) (Nat.le_succ m))) (Nat.succ_pos _) (Nat.succ_pos _) (by omega)))
theorem divOk_sz {j : Int} {n : Nat} (h0 : 0 < j) (h : j.natAbs < 2 ^ n) (hn : n ≤ 9000) : divOk j := by
  refine .inr ⟨h0, ?_⟩
  rw [Nat.log2_lt (by omega)]
  exact Nat.lt_of_lt_of_le h (Nat.pow_le_pow_right (by decide) hn)
theorem natAbs_mul_sz {i j : Int} {n m : Nat} (hi : i.natAbs < 2 ^ n) (hj : j.natAbs < 2 ^ m) : (i * j).natAbs < 2 ^ (n + m) := by
  rw [Int.natAbs_mul, Nat.pow_add]
  exact Nat.mul_lt_mul'' hi hj
theorem natAbs_add_sz {i j : Int} {n : Nat} (hi : i.natAbs < 2 ^ n) (hj : j.natAbs < 2 ^ n) : (i + j).natAbs < 2 ^ (n + 1) := by
  rw [Nat.pow_succ]
  omega
theorem sz_mono {i : Int} {n m : Nat} (h : i.natAbs < 2 ^ n) (hm : n ≤ m) : i.natAbs < 2 ^ m := Nat.lt_of_lt_of_le h (Nat.pow_le_pow_right (by decide) hm)
theorem gcd_le {x y : Int} (hy : y ≠ 0) : 0 < Int.gcd x y ∧ Int.gcd x y ≤ y.natAbs :=
  ⟨Int.gcd_pos_of_ne_zero_right _ hy, Nat.le_of_dvd (by omega) (Nat.gcd_dvd_right _ _)⟩
theorem low_num {x y : Int} (hy : y ≠ 0) : (0 < y → x.fdiv (Int.gcd x y) = (Rat.divInt x y).num ∧ y.fdiv (Int.gcd x y) = (Rat.divInt x y).den) ∧ (y < 0 → x.fdiv (-(Int.gcd x y : Int)) = (Rat.divInt x y).num ∧ y.fdiv (-(Int.gcd x y : Int)) = (Rat.divInt x y).den) := by
  have hg := gcd_le (x := x) hy
  have g0 : ((Int.gcd x y : Nat) : Int) ≠ 0 := by omega
  obtain ⟨a, ha⟩ : ((Int.gcd x y : Nat) : Int) ∣ x := Int.gcd_dvd_left ..
  obtain ⟨b, hb⟩ : ((Int.gcd x y : Nat) : Int) ∣ y := Int.gcd_dvd_right ..
  rw [Rat.num_divInt, Rat.den_divInt, if_neg hy, Int.gcd_comm y x]
  generalize (Int.gcd x y : Nat) = g at *
  have gp : (0 : Int) < g := by omega
  have f1 : ∀ z : Int, ((g : Int) * z).fdiv g = z := fun z => by rw [Int.fdiv_eq_ediv_of_nonneg _ (by omega), Int.mul_ediv_cancel_left _ g0]
  have f2 : ∀ z : Int, ((g : Int) * z).fdiv (-(g : Int)) = -z := fun z => by
    have := Int.mul_fdiv_cancel_left (-z) (a := -(g : Int)) (by omega)
    rw [show -(g : Int) * -z = g * z by rw [Int.neg_mul_neg]] at this
    exact this
  have f3 : ((y.natAbs / g : Nat) : Int) = (y.natAbs : Int) / g := Int.natCast_ediv _ _
  constructor
  · intro h
    have hb0 : 0 < b := by
      rw [hb] at h
      exact Int.lt_of_mul_lt_mul_left (a := (g : Int)) (by rw [Int.mul_zero]; exact h) (by omega)
    rw [f3, Int.sign_eq_one_of_pos h, Int.one_mul]
    have e : (y.natAbs : Int) = g * b := by omega
    rw [e, Int.mul_ediv_cancel_left _ g0]
    refine ⟨?_, ?_⟩
    · rw [ha, f1, Int.mul_ediv_cancel_left _ g0]
    · rw [hb, f1]
  · intro h
    rw [f3, Int.sign_eq_neg_one_of_neg h]
    have e : (y.natAbs : Int) = g * -b := by rw [Int.mul_neg, ← hb]; omega
    rw [e, Int.mul_ediv_cancel_left _ g0]
    refine ⟨?_, ?_⟩
    · rw [ha, f2, Int.neg_one_mul, ← Int.mul_neg, Int.mul_ediv_cancel_left _ g0]
    · rw [hb, f2]
theorem s_low0 (x y : Int) (hy : y ≠ 0) {m : Nat} (hm : y.natAbs < 2 ^ m) (hm2 : m ≤ 9000) (hd : 0 < y ∨ y.natAbs < 1073741824) : s_lowest [.int 0, .int x, .int y] = .ret (.dat (encN (qN (Rat.divInt x y)))) := by
  refine wF_eq ?_
  unfold s_lowest
  rw [wF_sem]
  unfold m_lowest
  simp only [startE_, startR_, List.map_cons, List.map_nil, List.length_cons, List.length_nil, List.replicate, Nat.reduceSub, Nat.reduceAdd, List.cons_append, List.nil_append]
  have q := s_gcd x y
  have hg := gcd_le (x := x) hy
  have ln := low_num (x := x) hy
  by_cases h : y < 0
  · have dk : divOk (-(Int.gcd x y : Int)) := .inl ⟨by omega, by omega⟩
    obtain ⟨l1, l2⟩ := ln.2 h
    (repeat (first | simp [sizeLine_eq, q, h, encN, qN, l1, l2] | (with_reducible refine wG_mk ?_ ?_; (first | with_reducible assumption | omega | with_reducible exact inB62_ _ (by omega) | with_reducible exact mulOk_ _ _ (by omega) | with_reducible decide))))
  · have dk : divOk ((Int.gcd x y : Nat) : Int) := divOk_sz (by omega) (n := m) (by omega) hm2
    obtain ⟨l1, l2⟩ := ln.1 (by omega)
    (repeat (first | simp [sizeLine_eq, q, h, encN, qN, l1, l2] | (with_reducible refine wG_mk ?_ ?_; (first | with_reducible assumption | omega | with_reducible exact inB62_ _ (by omega) | with_reducible exact mulOk_ _ _ (by omega) | with_reducible decide))))
theorem NOk0 {F : Fd} (h : F.p = 0) (a : K F) : NOk 0 a.val := by
  obtain ⟨a, ha⟩ := a
  rw [h] at ha
  exact ha
def encK {F : Fd} (a : K F) : Dt := encN a.val
theorem encK_q {F : Fd} (h : F.p = 0) (a : K F) : encK a = encN (qN a.q) := by
  exact congrArg encN (qN_nQ (NOk0 h a)).symm
theorem encK_m {F : Fd} (h : F.p ≠ 0) (a : K F) : encK a = .tup [.int a.m, .int 1] := by
  show Dt.tup [.int a.val.1, .int a.val.2] = _
  rw [(a.m_in h).2.2]; rfl
theorem K.pos2 {F : Fd} (a : K F) : 0 < a.val.2 := by
  by_cases h : F.p = 0
  · have := a.property
    unfold NOk numI at this
    simp [h] at this
    exact this.1
  · have := (a.m_in h).2.2; omega
/-- bounds of a number's two parts -/
def szK {F : Fd} (n : Nat) (a : K F) : Prop := a.val.1.natAbs < 2 ^ n ∧ a.val.2.natAbs < 2 ^ n
theorem szK.mono {F : Fd} {n m : Nat} {a : K F} (h : szK n a) (hm : n ≤ m) : szK m a := ⟨sz_mono h.1 hm, sz_mono h.2 hm⟩
theorem szK_m {F : Fd} (h : F.p ≠ 0) (a : K F) : szK 7 a := by
  have := a.m_in h
  have := F.range
  unfold K.m at *
  constructor <;> omega
theorem divInt_sz {x y : Int} {n : Nat} (hx : x.natAbs < 2 ^ n) (hy : y.natAbs < 2 ^ n) (h0 : y ≠ 0) : (Rat.divInt x y).num.natAbs < 2 ^ n ∧ ((Rat.divInt x y).den : Int).natAbs < 2 ^ n := by
  rw [Rat.num_divInt, Rat.den_divInt, if_neg h0]
  constructor
  · refine Nat.lt_of_le_of_lt ?_ hx
    have h1 : (y.sign * x).natAbs ≤ x.natAbs := by
      rw [Int.natAbs_mul]
      have : y.sign.natAbs = 1 := by rw [Int.natAbs_sign, if_neg h0]
      rw [this]; omega
    exact Nat.le_trans (Int.natAbs_ediv_le_natAbs _ _) h1
  · exact Nat.lt_of_le_of_lt (Nat.div_le_self _ _) hy
theorem szK_ofQ {F : Fd} (h : F.p = 0) {a : K F} {x y : Int} {n : Nat} (e : a.q = Rat.divInt x y) (hx : x.natAbs < 2 ^ n) (hy : y.natAbs < 2 ^ n) (h0 : y ≠ 0) : szK n a := by
  have e2 : a.val = qN (Rat.divInt x y) := by rw [← e]; exact (qN_nQ (NOk0 h a)).symm
  unfold szK
  rw [e2]
  exact divInt_sz hx hy h0
theorem K.q_eq {F : Fd} (a : K F) : a.q = Rat.divInt a.val.1 a.val.2 := rfl
theorem K.ofI0 {F : Fd} {y : Int} : K.ofI F y = 0 ↔ (if F.p = 0 then y = 0 else y % F.p = 0) := by
  by_cases h : F.p = 0
  · rw [if_pos h]
    constructor
    · intro e
      have := congrArg K.q e
      rw [K.ofI_q h, K.zero_q h] at this
      exact_mod_cast this
    · rintro rfl
      exact K.extQ h (by rw [K.ofI_q h, K.zero_q h]; rfl)
  · rw [if_neg h]
    constructor
    · intro e
      have := congrArg K.m e
      rwa [K.ofI_m h, K.zero_m h] at this
    · intro e
      exact K.extM h (by rw [K.ofI_m h, K.zero_m h, e])
theorem s_low (F : Fd) (x y : Int) (hy : K.ofI F y ≠ 0) (hs : F.p = 0 → ∃ m, y.natAbs < 2 ^ m ∧ m ≤ 9000) (hd : F.p = 0 → 0 < y ∨ y.natAbs < 1073741824) (hx : F.p ≠ 0 → x.natAbs < 2 ^ 64) : s_lowest [.int F.p, .int x, .int y] = .ret (.dat (encK (K.ofI F x * (K.ofI F y)⁻¹))) := by
  have hy' := mt K.ofI0.mpr hy
  by_cases h : F.p = 0
  · rw [if_pos h] at hy'
    obtain ⟨m, h1, h2⟩ := hs h
    rw [h, s_low0 x y hy' h1 h2 (hd h), encK_q h, K.mul_q h, K.inv_q h, K.ofI_q h, K.ofI_q h, Rat.divInt_eq_div, Rat.div_def]
  · rw [if_neg h] at hy'
    obtain ⟨e, r0, r1, r2⟩ := s_undone' F h hy'
    rw [encK_m h]
    refine wF_eq ?_
    unfold s_lowest
    rw [wF_sem]
    unfold m_lowest
    simp only [startE_, startR_, List.map_cons, List.map_nil, List.length_cons, List.length_nil, List.replicate, Nat.reduceSub, Nat.reduceAdd, List.cons_append, List.nil_append]
    have o1 : mulOk x (undo F.p y) := .inr (.inl (by have := F.range; omega))
    have p0 : 0 < F.p := by have := F.range; omega
    have ey : undo F.p (y % F.p) = undo F.p y := by
      refine undo_eq (F.two h) r0 r1 ?_
      rw [me_r]; exact r2
    (repeat (first | simp [sizeLine_eq, h, e] | (with_reducible refine wG_mk ?_ ?_; (first | with_reducible assumption | omega | with_reducible exact inB62_ _ (by omega) | with_reducible exact mulOk_ _ _ (by omega) | with_reducible decide))))
    rw [K.mul_m h, K.ofI_m h, K.inv_m h, K.ofI_m h, ey, me_l, me_r]
@[simp] theorem encK_val {F : Fd} (a : K F) : encK a = .tup [.int a.val.1, .int a.val.2] := id rfl
theorem gd_encK {F : Fd} (n : Nat) (a : K F) : gd (n + 1) (encK a) = true := by simp
theorem numB_encK {F : Fd} (a : K F) : numB F.p (encK a) = true := a.property
section
variable {F : Fd}
theorem sz_add (h : F.p = 0) {a b : K F} {n m : Nat} (ha : szK n a) (hb : szK m b) : szK (n + m + 1) (a + b) := by
  have p1 := a.pos2; have p2 := b.pos2
  refine szK_ofQ h (x := a.val.1 * b.val.2 + b.val.1 * a.val.2) (y := a.val.2 * b.val.2) ?_ ?_ ?_ ?_
  · rw [K.add_q h, K.q_eq, K.q_eq, Rat.divInt_add_divInt _ _ (by omega) (by omega)]
  · have h1 := natAbs_mul_sz ha.1 hb.2
    have h2 := natAbs_mul_sz hb.1 ha.2
    rw [Nat.add_comm m n] at h2
    exact natAbs_add_sz h1 h2
  · exact sz_mono (natAbs_mul_sz ha.2 hb.2) (by omega)
  · exact Int.ne_of_gt (Int.mul_pos p1 p2)
theorem sz_mul (h : F.p = 0) {a b : K F} {n m : Nat} (ha : szK n a) (hb : szK m b) : szK (n + m) (a * b) := by
  have p1 := a.pos2; have p2 := b.pos2
  refine szK_ofQ h (x := a.val.1 * b.val.1) (y := a.val.2 * b.val.2) ?_ (natAbs_mul_sz ha.1 hb.1) (natAbs_mul_sz ha.2 hb.2) (Int.ne_of_gt (Int.mul_pos p1 p2))
  rw [K.mul_q h, K.q_eq, K.q_eq, Rat.divInt_mul_divInt]
theorem sz_neg (h : F.p = 0) {a : K F} {n : Nat} (ha : szK n a) : szK n (-a) := by
  have p1 := a.pos2
  refine szK_ofQ h (x := -a.val.1) (y := a.val.2) ?_ (by rw [Int.natAbs_neg]; exact ha.1) ha.2 (by omega)
  rw [K.neg_q h, K.q_eq, Rat.neg_divInt]
theorem K.v0 (a : K F) : a.val.1 = 0 ↔ a = 0 := by
  constructor
  · intro e
    by_cases h : F.p = 0
    · refine K.extQ h ?_
      rw [K.q_eq, e, K.zero_q h]; simp
    · refine K.extM h ?_
      show a.val.1 % _ = _
      rw [e, K.zero_m h]
  · intro e
    by_cases h : F.p = 0
    · have := congrArg K.q e
      rw [K.zero_q h, K.q_eq] at this
      have e2 := (qN_nQ (NOk0 h a)).symm
      rw [show nQ a.val = 0 from this] at e2
      rw [e2]; rfl
    · have := congrArg K.m e
      rw [K.zero_m h] at this; exact this
theorem sz_inv (h : F.p = 0) {a : K F} {n : Nat} (ha : szK n a) : szK n (a⁻¹) := by
  have p1 := a.pos2
  by_cases e : a.val.1 = 0
  · have e' := (K.v0 a).mp e
    subst e'
    refine szK_ofQ h (x := 0) (y := 1) ?_ (Nat.two_pow_pos _) ?_ (by decide)
    · rw [K.inv_q h, K.zero_q h, Rat.inv_zero, Rat.zero_divInt]
    · refine Nat.lt_of_le_of_lt ?_ ha.2; omega
  · refine szK_ofQ h (x := a.val.2) (y := a.val.1) ?_ ha.2 ha.1 e
    rw [K.inv_q h, K.q_eq, Rat.inv_divInt]
theorem s_plus' (a b : K F) {n m : Nat} (hs : F.p = 0 → szK n a ∧ szK m b ∧ n + m ≤ 8000) : s_plus_of [.int F.p, encK a, encK b] = .ret (.dat (encK (a + b))) := by
  by_cases h : F.p = 0
  · obtain ⟨ha, hb, hn⟩ := hs h
    have p1 := a.pos2; have p2 := b.pos2
    have o1 := mulOk_sz ha.1 hb.2 (by omega)
    have o2 := mulOk_sz hb.1 ha.2 (by omega)
    have o3 := mulOk_sz ha.2 hb.2 (by omega)
    have p3 : 0 < a.val.2 * b.val.2 := Int.mul_pos p1 p2
    have l := s_low0 (a.val.1 * b.val.2 + b.val.1 * a.val.2) (a.val.2 * b.val.2) (Int.ne_of_gt p3) (natAbs_mul_sz ha.2 hb.2) (by omega) (.inl p3)
    rw [encK_q h (a + b), K.add_q h, K.q_eq, K.q_eq, Rat.divInt_add_divInt _ _ (by omega) (by omega)]
    refine wF_eq ?_
    unfold s_plus_of
    rw [wF_sem]
    unfold m_plus_of
    simp only [startE_, startR_, List.map_cons, List.map_nil, List.length_cons, List.length_nil, List.replicate, Nat.reduceSub, Nat.reduceAdd, List.cons_append, List.nil_append]
    (repeat (first | simp [sizeLine_eq, h, l] | (with_reducible refine wG_mk ?_ ?_; (first | with_reducible assumption | omega | with_reducible exact inB62_ _ (by omega) | with_reducible exact mulOk_ _ _ (by omega) | with_reducible decide))))
  · rw [encK_m h (a + b), K.add_m h]
    refine wF_eq ?_
    unfold s_plus_of
    rw [wF_sem]
    unfold m_plus_of
    simp only [startE_, startR_, List.map_cons, List.map_nil, List.length_cons, List.length_nil, List.replicate, Nat.reduceSub, Nat.reduceAdd, List.cons_append, List.nil_append]
    have p0 : 0 < F.p := by have := F.two h; omega
    (repeat (first | simp [sizeLine_eq, h] | (with_reducible refine wG_mk ?_ ?_; (first | with_reducible assumption | omega | with_reducible exact inB62_ _ (by omega) | with_reducible exact mulOk_ _ _ (by omega) | with_reducible decide))))
    rfl
theorem s_times' (a b : K F) {n m : Nat} (hs : F.p = 0 → szK n a ∧ szK m b ∧ n + m ≤ 8000) : s_times_of [.int F.p, encK a, encK b] = .ret (.dat (encK (a * b))) := by
  by_cases h : F.p = 0
  · obtain ⟨ha, hb, hn⟩ := hs h
    have p1 := a.pos2; have p2 := b.pos2
    have o1 := mulOk_sz ha.1 hb.1 (by omega)
    have o3 := mulOk_sz ha.2 hb.2 (by omega)
    have p3 : 0 < a.val.2 * b.val.2 := Int.mul_pos p1 p2
    have l := s_low0 (a.val.1 * b.val.1) (a.val.2 * b.val.2) (Int.ne_of_gt p3) (natAbs_mul_sz ha.2 hb.2) (by omega) (.inl p3)
    rw [encK_q h (a * b), K.mul_q h, K.q_eq, K.q_eq, Rat.divInt_mul_divInt]
    refine wF_eq ?_
    unfold s_times_of
    rw [wF_sem]
    unfold m_times_of
    simp only [startE_, startR_, List.map_cons, List.map_nil, List.length_cons, List.length_nil, List.replicate, Nat.reduceSub, Nat.reduceAdd, List.cons_append, List.nil_append]
    (repeat (first | simp [sizeLine_eq, h, l] | (with_reducible refine wG_mk ?_ ?_; (first | with_reducible assumption | omega | with_reducible exact inB62_ _ (by omega) | with_reducible exact mulOk_ _ _ (by omega) | with_reducible decide))))
  · rw [encK_m h (a * b), K.mul_m h]
    refine wF_eq ?_
    unfold s_times_of
    rw [wF_sem]
    unfold m_times_of
    simp only [startE_, startR_, List.map_cons, List.map_nil, List.length_cons, List.length_nil, List.replicate, Nat.reduceSub, Nat.reduceAdd, List.cons_append, List.nil_append]
    have p0 : 0 < F.p := by have := F.two h; omega
    have r1 := F.range
    have ma := a.m_in h
    have o := mulOk_ a.val.1 b.val.1 (.inl (by unfold K.m at ma; omega))
    (repeat (first | simp [sizeLine_eq, h] | (with_reducible refine wG_mk ?_ ?_; (first | with_reducible assumption | omega | with_reducible exact inB62_ _ (by omega) | with_reducible exact mulOk_ _ _ (by omega) | with_reducible decide))))
    rfl
theorem s_neg' (a : K F) : s_negative_of [.int F.p, encK a] = .ret (.dat (encK (-a))) := by
  by_cases h : F.p = 0
  · have e : encK (-a) = .tup [.int (-a.val.1), .int a.val.2] := by
      rw [encK_q h (-a), K.neg_q h]
      have e2 := (qN_nQ (NOk0 h a)).symm
      show encN (qN (-(nQ a.val))) = Dt.tup [.int (-a.val.1), .int a.val.2]
      have e3 : a.val.1 = (nQ a.val).num := congrArg Prod.fst e2
      have e4 : a.val.2 = (nQ a.val).den := congrArg Prod.snd e2
      show Dt.tup [.int (-(nQ a.val)).num, .int (-(nQ a.val)).den] = _
      rw [Rat.neg_num, Rat.neg_den, ← e3, ← e4]
    rw [e]
    refine wF_eq ?_
    unfold s_negative_of
    rw [wF_sem]
    unfold m_negative_of
    simp only [startE_, startR_, List.map_cons, List.map_nil, List.length_cons, List.length_nil, List.replicate, Nat.reduceSub, Nat.reduceAdd, List.cons_append, List.nil_append]
    (repeat (first | simp [sizeLine_eq, h] | (with_reducible refine wG_mk ?_ ?_; (first | with_reducible assumption | omega | with_reducible exact inB62_ _ (by omega) | with_reducible exact mulOk_ _ _ (by omega) | with_reducible decide))))
  · have p0 : 0 < F.p := by have := F.two h; omega
    rw [encK_m h (-a), K.neg_m h]
    refine wF_eq ?_
    unfold s_negative_of
    rw [wF_sem]
    unfold m_negative_of
    simp only [startE_, startR_, List.map_cons, List.map_nil, List.length_cons, List.length_nil, List.replicate, Nat.reduceSub, Nat.reduceAdd, List.cons_append, List.nil_append]
    (repeat (first | simp [sizeLine_eq, h] | (with_reducible refine wG_mk ?_ ?_; (first | with_reducible assumption | omega | with_reducible exact inB62_ _ (by omega) | with_reducible exact mulOk_ _ _ (by omega) | with_reducible decide))))
    rfl
theorem s_minus' (a b : K F) {n m : Nat} (hs : F.p = 0 → szK n a ∧ szK m b ∧ n + m ≤ 8000) : s_minus_of [.int F.p, encK a, encK b] = .ret (.dat (encK (a + -b))) := by
  refine wF_eq ?_
  unfold s_minus_of
  rw [wF_sem]
  unfold m_minus_of
  simp only [startE_, startR_, List.map_cons, List.map_nil, List.length_cons, List.length_nil, List.replicate, Nat.reduceSub, Nat.reduceAdd, List.cons_append, List.nil_append]
  have q1 := s_neg' b
  have q2 := s_plus' a (-b) fun h => ⟨(hs h).1, sz_neg h (hs h).2.1, (hs h).2.2⟩
  rw [encK_val] at q1
  rw [encK_val, encK_val] at q2
  (repeat (first | simp [sizeLine_eq, q1, q2] | (with_reducible refine wG_mk ?_ ?_; (first | with_reducible assumption | omega | with_reducible exact inB62_ _ (by omega) | with_reducible exact mulOk_ _ _ (by omega) | with_reducible decide))))
theorem K.ofI_mul (x y : Int) : K.ofI F (x * y) = K.ofI F x * K.ofI F y := K.ext2 (fun h => by rw [K.mul_q h, K.ofI_q h, K.ofI_q h, K.ofI_q h]; exact Rat.intCast_mul _ _) fun h => by rw [K.mul_m h, K.ofI_m h, K.ofI_m h, K.ofI_m h, me_l, me_r]
theorem K.den_ne (a : K F) : K.ofI F a.val.2 ≠ 0 := by
  rw [Ne, K.ofI0]
  have := a.pos2
  by_cases h : F.p = 0
  · rw [if_pos h]; omega
  · rw [if_neg h, (a.m_in h).2.2, Int.emod_eq_of_lt (by decide) (F.two h)]; decide
theorem K.nd (a : K F) : a = K.ofI F a.val.1 * (K.ofI F a.val.2)⁻¹ := K.ext2 (fun h => by rw [K.mul_q h, K.inv_q h, K.ofI_q h, K.ofI_q h, K.q_eq, Rat.divInt_eq_div, Rat.div_def]) fun h => by
  have e := (a.m_in h).2.2
  rw [e]
  have u : undo F.p (1 % F.p) = 1 := undo_eq (F.two h) (by decide) (F.two h) (by rw [Int.one_mul, Int.emod_emod_of_dvd _ (Int.dvd_refl _), Int.emod_eq_of_lt (by decide) (F.two h)])
  rw [K.mul_m h, K.inv_m h, K.ofI_m h, K.ofI_m h, u, me_l, me_r, Int.mul_one, Int.emod_emod_of_dvd _ (Int.dvd_refl _)]; rfl
theorem K.mul_ne {a b : K F} (ha : a ≠ 0) (hb : b ≠ 0) : a * b ≠ 0 := fun e => by
  have this : a⁻¹ * (a * b) = a⁻¹ * 0 := congrArg (fun z => a⁻¹ * z) e
  rw [← K.mul_assoc, K.inv_mul_cancel ha, K.mul_comm 1, K.mul_one, K.mul_comm, K.zero_mul] at this
  exact hb this
theorem K.inv_uniq {a b : K F} (h : a * b = 1) : b = a⁻¹ := by
  have ha : a ≠ 0 := fun e => by rw [e, K.zero_mul] at h; exact K.one_ne_zero h.symm
  rw [← K.mul_one (a⁻¹), ← h, ← K.mul_assoc, K.inv_mul_cancel ha, K.mul_comm, K.mul_one]
theorem K.mul_inv {a b : K F} (ha : a ≠ 0) (hb : b ≠ 0) : (a * b)⁻¹ = a⁻¹ * b⁻¹ := by
  refine (K.inv_uniq ?_).symm
  rw [K.mul_assoc, ← K.mul_assoc b, K.mul_comm b, K.mul_assoc (a⁻¹), K.mul_comm b, K.inv_mul_cancel hb, K.mul_one, K.mul_comm, K.inv_mul_cancel ha]
theorem K.num_ne {a : K F} (ha : a ≠ 0) : K.ofI F a.val.1 ≠ 0 := fun e => by
  have := a.nd
  rw [e, K.zero_mul] at this
  exact ha this
theorem K.inv_inv {a : K F} (ha : a ≠ 0) : (a⁻¹)⁻¹ = a := (K.inv_uniq (K.inv_mul_cancel ha)).symm
theorem K.over_eq (a b : K F) (hb : b ≠ 0) : K.ofI F (a.val.1 * b.val.2) * (K.ofI F (a.val.2 * b.val.1))⁻¹ = a * b⁻¹ := by
  have ea := a.nd
  have eb := b.nd
  have hi : (K.ofI F b.val.2)⁻¹ ≠ 0 := fun e => by
    have := K.inv_mul_cancel (K.den_ne b)
    rw [e, K.zero_mul] at this
    exact K.one_ne_zero this.symm
  rw [K.ofI_mul, K.ofI_mul, K.mul_inv (K.den_ne a) (K.num_ne hb)]
  conv => rhs; rw [ea, eb, K.mul_inv (K.num_ne hb) hi, K.inv_inv (K.den_ne b)]
  generalize K.ofI F a.val.1 = x; generalize K.ofI F b.val.2 = y; generalize (K.ofI F a.val.2)⁻¹ = z; generalize (K.ofI F b.val.1)⁻¹ = w
  rw [K.mul_assoc, ← K.mul_assoc y, K.mul_comm y z, K.mul_assoc z, K.mul_comm y w, ← K.mul_assoc]
theorem s_over' (a b : K F) (hb : b ≠ 0) {n m : Nat} (hs : F.p = 0 → szK n a ∧ szK m b ∧ n + m ≤ 8000) (hd : F.p = 0 → 0 < b.val.1 ∨ (a.val.2 * b.val.1).natAbs < 1073741824) : s_over_of [.int F.p, encK a, encK b] = .ret (.dat (encK (a * b⁻¹))) := by
  have p1 := a.pos2; have p2 := b.pos2
  have hne : K.ofI F (a.val.2 * b.val.1) ≠ 0 := by rw [K.ofI_mul]; exact K.mul_ne (K.den_ne a) (K.num_ne hb)
  have e1 := K.over_eq a b hb
  have l := s_low F (a.val.1 * b.val.2) (a.val.2 * b.val.1) hne (fun h => by
      obtain ⟨ha, hb, hn⟩ := hs h
      exact ⟨n + m, natAbs_mul_sz ha.2 hb.1, by omega⟩) (fun h => by
      rcases hd h with q | q
      · exact .inl (Int.mul_pos p1 q)
      · exact .inr q) (fun h => by
      have h1 := szK_m h a; have h2 := szK_m h b
      exact sz_mono (natAbs_mul_sz h1.1 h2.2) (by decide))
  rw [e1] at l
  have o : mulOk a.val.1 b.val.2 ∧ mulOk a.val.2 b.val.1 := by
    by_cases h : F.p = 0
    · obtain ⟨ha, hb, hn⟩ := hs h
      exact ⟨mulOk_sz ha.1 hb.2 (by omega), mulOk_sz ha.2 hb.1 (by omega)⟩
    · have h1 := szK_m h a; have h2 := szK_m h b
      exact ⟨mulOk_sz h1.1 h2.2 (by decide), mulOk_sz h1.2 h2.1 (by decide)⟩
  obtain ⟨o1, o2⟩ := o
  refine wF_eq ?_
  unfold s_over_of
  rw [wF_sem]
  unfold m_over_of
  simp only [startE_, startR_, List.map_cons, List.map_nil, List.length_cons, List.length_nil, List.replicate, Nat.reduceSub, Nat.reduceAdd, List.cons_append, List.nil_append]
  rw [encK_val] at l
  (repeat (first | simp [sizeLine_eq, l] | (with_reducible refine wG_mk ?_ ?_; (first | with_reducible assumption | omega | with_reducible exact inB62_ _ (by omega) | with_reducible exact mulOk_ _ _ (by omega) | with_reducible decide))))
theorem den_mul_le (h : F.p = 0) (a b : K F) : (a * b).val.2 ≤ a.val.2 * b.val.2 := by
  have p1 := a.pos2; have p2 := b.pos2
  have p3 : 0 < a.val.2 * b.val.2 := Int.mul_pos p1 p2
  have e : (a * b).val = qN (Rat.divInt (a.val.1 * b.val.1) (a.val.2 * b.val.2)) := by
    rw [← Rat.divInt_mul_divInt, ← K.q_eq, ← K.q_eq, ← K.mul_q h]
    exact (qN_nQ (NOk0 h (a * b))).symm
  rw [e]
  show ((Rat.divInt (a.val.1 * b.val.1) (a.val.2 * b.val.2)).den : Int) ≤ _
  rw [Rat.den_divInt, if_neg (by omega)]
  have := Nat.div_le_self (a.val.2 * b.val.2).natAbs (Int.gcd (a.val.2 * b.val.2) (a.val.1 * b.val.1))
  omega
theorem K.mul_inv_cancel_right {a b : K F} (hb : b ≠ 0) : a * b * b⁻¹ = a := by
  rw [K.mul_assoc, K.mul_comm b, K.inv_mul_cancel hb, K.mul_one]
end

end Fw

namespace Fw
open PySem PySem.Spec PyProof.Rows L2
noncomputable section
def xNames : List Str := ["OverlapsError", "InvalidField", "InvalidInteger", "InvalidNumber"]
def m__law_asked : MS :=
  (sSeq (sAsg (eTup (vCons (eDat .non) (vCons (eDat .non) vNil))) (gTp 2 (gC (gNm 4) (gC (gNm 5) gN0)))) (sSeq (sTry xNames "OverlapsError" 6 (sSet 4 (eIf (cBl (eBin fEq (eVar 0) (eDat (.int 0)))) (eCall 3 s_plus (vCons (eVar 1) (vCons (eVar 2) (vCons (eVar 3) vNil)))) (eIf (cBl (eBin fEq (eVar 0) (eDat (.int 1)))) (eCall 3 s_times (vCons (eVar 1) (vCons (eVar 2) (vCons (eVar 3) vNil)))) (eIf (cBl (eBin fEq (eVar 0) (eDat (.int 2)))) (eCall 3 s_over (vCons (eVar 1) (vCons (eVar 2) (vCons (eVar 3) vNil)))) (eCall 2 s_number_of (vCons (eVar 1) (vCons (eVar 2) vNil))))))) (sSet 5 (eVar 6))) (sSeq (sIf (cBl (eBin fIsN (eVar 5) (eDat .non))) (sRet 0 (eVar 4)) sSkip) (sRet 0 (eLst (vCons (eIsX xNames (fun c => xsub c "InvalidField") (eVar 5)) (vCons (eIsX xNames (fun c => xsub c "InvalidNumber") (eVar 5)) (vCons (eIsX xNames (fun c => xsub c "InvalidInteger") (eVar 5)) (vCons (eVle xNames (eVar 5)) vNil)))))))))
def s__law_asked : FS := semF 7 m__law_asked
def m__law_field : MS :=
  (sSeq (sSet 1 (eLst (vCons (eDat (.int 0)) (vCons (eDat (.int 2)) (vCons (eDat (.int 3)) (vCons (eDat (.int 5)) (vCons (eDat (.int 7)) (vCons (eDat (.int 11)) (vCons (eDat (.int 13)) (vCons (eDat (.int 17)) (vCons (eDat (.int 19)) (vCons (eDat (.int 23)) (vCons (eDat (.int 29)) (vCons (eDat (.int 31)) (vCons (eDat (.int 37)) (vCons (eDat (.int 41)) (vCons (eDat (.int 43)) (vCons (eDat (.int 47)) (vCons (eDat (.int 53)) (vCons (eDat (.int 59)) (vCons (eDat (.int 61)) (vCons (eDat (.int 67)) (vCons (eDat (.int 71)) (vCons (eDat (.int 73)) (vCons (eDat (.int 79)) (vCons (eDat (.int 83)) (vCons (eDat (.int 89)) (vCons (eDat (.int 97)) vNil)))))))))))))))))))))))))))) (sRet 1 (eIf (cBl (eBin fEq (eCallR 2 s__law_take 0 (vCons (eDat (.int 2)) vNil)) (eDat (.int 0)))) (eBin fIx (eVar 1) (eCallR 2 s__law_take 0 (vCons (eDat (.int 26)) vNil))) (eDat (.int 0)))))
def s__law_field : FSR := semR 2 m__law_field
def m__law_num : MS :=
  (sSeq (sIf (cBl (eBin fNe (eVar 0) (eDat (.int 0)))) (sRet 0 (eTup (vCons (eBin fIx (eComp (iRange1 (eVar 0)) (gNm 3) (cBl (eBin fEq (eBin fMod (eCB fInt (eCons (eBin fSub (eBin fMulX (eVar 3) (eVar 2)) (eVar 1)) eNil)) (eVar 0)) (eDat (.int 0)))) (eVar 3) [3]) (eDat (.int 0))) (vCons (eDat (.int 1)) vNil)))) sSkip) (sSeq (sPar2 4 5 (eCB fAbs (eCons (eVar 1) eNil)) (eCB fAbs (eCons (eVar 2) eNil))) (sSeq (sFor (iRange1 (eDat (.int 9000))) (gNm 6) (sSeq (sIf (cBl (eBin fEq (eVar 5) (eDat (.int 0)))) (fun en => .brk en) sSkip) (sPar2 4 5 (eVar 5) (eBin fMod (eCB fInt (eCons (eVar 4) eNil)) (eVar 5))))) (sSeq (sSet 7 (eIf (cBl (eBin fGt (eVar 2) (eDat (.int 0)))) (eVar 4) (eBin fSub (eDat (.int 0)) (eVar 4)))) (sRet 0 (eTup (vCons (eBin fDiv (eVar 1) (eVar 7)) (vCons (eBin fDiv (eVar 2) (eVar 7)) vNil))))))))
def s__law_num : FS := semF 8 m__law_num
def m__law_plus : MS :=
  (sRet 0 (eCall 3 s__law_num (vCons (eVar 0) (vCons (eBin fAdd (eBin fMulX (eBin fIx (eVar 1) (eDat (.int 0))) (eBin fIx (eVar 2) (eDat (.int 1)))) (eBin fMulX (eBin fIx (eVar 2) (eDat (.int 0))) (eBin fIx (eVar 1) (eDat (.int 1))))) (vCons (eBin fMulX (eBin fIx (eVar 1) (eDat (.int 1))) (eBin fIx (eVar 2) (eDat (.int 1)))) vNil)))))
def s__law_plus : FS := semF 3 m__law_plus
def m__law_times : MS :=
  (sRet 0 (eCall 3 s__law_num (vCons (eVar 0) (vCons (eBin fMulX (eBin fIx (eVar 1) (eDat (.int 0))) (eBin fIx (eVar 2) (eDat (.int 0)))) (vCons (eBin fMulX (eBin fIx (eVar 1) (eDat (.int 1))) (eBin fIx (eVar 2) (eDat (.int 1)))) vNil)))))
def s__law_times : FS := semF 3 m__law_times
def m_law : MS :=
  (sSeq (sSet 1 (eBin fAdd (eLst (vCons (eDat (.int 0)) (vCons (eDat (.int 19)) (vCons (eDat (.int 3)) vNil)))) (eScr 0))) (sSeq (sFor (iRange1 (eDat (.int 5))) (gNm 2) (sSeq (sSet 3 (eCallR 1 s__law_field 1 vNil)) (sSeq (sSet 4 (eComp (iRange1 (eDat (.int 2))) (gNm 5) cYes (eCall 3 s__law_num (vCons (eVar 3) (vCons (eBin fSub (eCallR 2 s__law_take 1 (vCons (eDat (.int 4001)) vNil)) (eDat (.int 2000))) (vCons (eIf (cBl (eBin fNe (eVar 3) (eDat (.int 0)))) (eDat (.int 1)) (eBin fAdd (eDat (.int 1)) (eCallR 2 s__law_take 1 (vCons (eDat (.int 60)) vNil)))) vNil)))) [5])) (sSeq (sAsg (eVar 4) (gTp 2 (gC (gNm 6) (gC (gNm 7) gN0)))) (sSeq (sSet 8 (eLst (vCons (eCall 3 s__law_plus (vCons (eVar 3) (vCons (eVar 6) (vCons (eVar 7) vNil)))) (vCons (eCall 3 s__law_times (vCons (eVar 3) (vCons (eVar 6) (vCons (eVar 7) vNil)))) vNil)))) (sSeq (sIf (cNot (cTru (eCall 2 (s__law_same 6) (vCons (eLst (vCons (eCall 3 s_plus (vCons (eVar 3) (vCons (eVar 6) (vCons (eVar 7) vNil)))) (vCons (eCallK 3 3 [2, 1, 0] s_plus (vCons (eVar 7) (vCons (eVar 6) (vCons (eVar 3) vNil)))) vNil))) (vCons (eLst (vCons (eBin fIx (eVar 8) (eDat (.int 0))) (vCons (eBin fIx (eVar 8) (eDat (.int 0))) vNil))) vNil))))) (sRet 0 (eDat (.bl false))) sSkip) (sSeq (sIf (cNot (cTru (eCall 2 (s__law_same 6) (vCons (eLst (vCons (eCall 3 s_times (vCons (eVar 3) (vCons (eVar 6) (vCons (eVar 7) vNil)))) (vCons (eCallK 3 3 [2, 1, 0] s_times (vCons (eVar 7) (vCons (eVar 6) (vCons (eVar 3) vNil)))) vNil))) (vCons (eLst (vCons (eBin fIx (eVar 8) (eDat (.int 1))) (vCons (eBin fIx (eVar 8) (eDat (.int 1))) vNil))) vNil))))) (sRet 0 (eDat (.bl false))) sSkip) (sSeq (sIf (cBl (eBin fNe (eBin fIx (eVar 7) (eDat (.int 0))) (eDat (.int 0)))) (sSeq (sSet 9 (eCall 3 s__law_num (vCons (eVar 3) (vCons (eBin fMulX (eBin fIx (eVar 6) (eDat (.int 0))) (eBin fIx (eVar 7) (eDat (.int 1)))) (vCons (eBin fMulX (eBin fIx (eVar 6) (eDat (.int 1))) (eBin fIx (eVar 7) (eDat (.int 0)))) vNil))))) (sIf (cNot (cTru (eCall 2 (s__law_same 6) (vCons (eLst (vCons (eCall 3 s_over (vCons (eVar 3) (vCons (eVar 6) (vCons (eVar 7) vNil)))) (vCons (eCallK 3 3 [2, 1, 0] s_over (vCons (eVar 7) (vCons (eVar 6) (vCons (eVar 3) vNil)))) (vCons (eCall 3 s_over (vCons (eVar 3) (vCons (eBin fIx (eVar 8) (eDat (.int 1))) (vCons (eVar 7) vNil)))) vNil)))) (vCons (eLst (vCons (eVar 9) (vCons (eVar 9) (vCons (eVar 6) vNil)))) vNil))))) (sRet 0 (eDat (.bl false))) sSkip)) sSkip) (sSeq (sIf (cNot (cTru (eCall 2 (s__law_same 6) (vCons (eCall 4 s__law_asked (vCons (eDat (.int 2)) (vCons (eVar 3) (vCons (eVar 6) (vCons (eTup (vCons (eDat (.int 0)) (vCons (eDat (.int 1)) vNil))) vNil))))) (vCons (eLst (vCons (eDat (.bl false)) (vCons (eDat (.bl true)) (vCons (eDat (.bl false)) (vCons (eTup (vCons (eDat (.int 0)) (vCons (eDat (.int 1)) vNil))) vNil))))) vNil))))) (sRet 0 (eDat (.bl false))) sSkip) (sSeq (sSet 5 (eBin fSub (eCallR 2 s__law_take 1 (vCons (eBin fPow (eDat (.int 10)) (eDat (.int 9))) vNil)) (eBin fMulX (eDat (.int 5)) (eBin fPow (eDat (.int 10)) (eDat (.int 8)))))) (sSeq (sSet 10 (eIf (cBl (eBin fNe (eVar 3) (eDat (.int 0)))) (eTup (vCons (eBin fMod (eCB fInt (eCons (eVar 5) eNil)) (eVar 3)) (vCons (eDat (.int 1)) vNil))) (eTup (vCons (eVar 5) (vCons (eDat (.int 1)) vNil))))) (sSeq (sIf (cNot (cTru (eCall 2 (s__law_same 6) (vCons (eLst (vCons (eCall 2 s_number_of (vCons (eVar 3) (vCons (eVar 5) vNil))) (vCons (eCallK 2 2 [1, 0] s_number_of (vCons (eVar 5) (vCons (eVar 3) vNil))) vNil))) (vCons (eLst (vCons (eVar 10) (vCons (eVar 10) vNil))) vNil))))) (sRet 0 (eDat (.bl false))) sSkip) (sSeq (sSet 11 (eBin fIx (eLst (vCons (eDat .non) (vCons (eTup (vCons (eDat (.int 1)) vNil)) (vCons (eLst (vCons (eDat (.int 1)) (vCons (eDat (.int 1)) vNil))) (vCons (eTup (vCons (eDat (.int 2)) (vCons (eDat (.int 2)) vNil))) (vCons (eTup (vCons (eDat (.int 1)) (vCons (eDat (.int 0)) vNil))) (vCons (eTup (vCons (eDat (.int 1)) (vCons (eUn fNeg (eDat (.int 1))) vNil))) (vCons (eTup (vCons (eDat (.bl true)) (vCons (eDat (.int 1)) vNil))) (vCons (eTup (vCons (eDat (.str [49])) (vCons (eDat (.int 1)) vNil))) (vCons (eIf (cBl (eBin fNe (eVar 3) (eDat (.int 0)))) (eTup (vCons (eVar 3) (vCons (eDat (.int 1)) vNil))) (eTup (vCons (eDat (.int 0)) (vCons (eDat (.int 2)) vNil)))) (vCons (eIf (cBl (eBin fNe (eVar 3) (eDat (.int 0)))) (eTup (vCons (eUn fNeg (eDat (.int 1))) (vCons (eDat (.int 1)) vNil))) (eTup (vCons (eDat (.int 3)) (vCons (eDat (.int 6)) vNil)))) (vCons (eDat (.int 1)) vNil)))))))))))) (eCallR 2 s__law_take 1 (vCons (eDat (.int 11)) vNil)))) (sSeq (sIf (cNot (cTru (eCall 2 (s__law_same 6) (vCons (eLst (vCons (eCall 2 s_is_number (vCons (eVar 3) (vCons (eVar 6) vNil))) (vCons (eCallK 2 2 [1, 0] s_is_number (vCons (eVar 7) (vCons (eVar 3) vNil))) (vCons (eCall 2 s_is_number (vCons (eVar 3) (vCons (eVar 11) vNil))) vNil)))) (vCons (eLst (vCons (eDat (.bl true)) (vCons (eDat (.bl true)) (vCons (eDat (.bl false)) vNil)))) vNil))))) (sRet 0 (eDat (.bl false))) sSkip) (sSeq (sSet 12 (eCallR 2 s__law_take 1 (vCons (eDat (.int 3)) vNil))) (sSeq (sIf (cNot (cTru (eCall 2 (s__law_same 6) (vCons (eLst (vCons (eCall 4 s__law_asked (vCons (eVar 12) (vCons (eVar 3) (vCons (eVar 11) (vCons (eVar 11) vNil))))) (vCons (eCall 4 s__law_asked (vCons (eVar 12) (vCons (eVar 3) (vCons (eVar 6) (vCons (eVar 11) vNil))))) vNil))) (vCons (eBin fMulX (eLst (vCons (eLst (vCons (eDat (.bl false)) (vCons (eDat (.bl true)) (vCons (eDat (.bl false)) (vCons (eVar 11) vNil))))) vNil)) (eDat (.int 2))) vNil))))) (sRet 0 (eDat (.bl false))) sSkip) (sSeq (sPar2 13 14 (eBin fIx (eLst (vCons (eDat (.int 1)) (vCons (eDat (.int 4)) (vCons (eDat (.int 91)) (vCons (eDat (.int 100)) (vCons (eDat (.int 101)) (vCons (eUn fNeg (eDat (.int 2))) (vCons (eDat .non) (vCons (eDat (.bl true)) (vCons (eDat (.str [50])) (vCons (eTup (vCons (eDat (.int 2)) vNil)) vNil))))))))))) (eCallR 2 s__law_take 1 (vCons (eDat (.int 10)) vNil))) (eBin fIx (eLst (vCons (eDat .non) (vCons (eDat (.bl true)) (vCons (eDat (.str [49])) (vCons (eTup (vCons (eDat (.int 1)) vNil)) (vCons (eTup (vCons (eDat (.int 1)) (vCons (eDat (.int 1)) vNil))) vNil)))))) (eCallR 2 s__law_take 1 (vCons (eDat (.int 5)) vNil)))) (sSeq (sIf (cNot (cTru (eCall 2 (s__law_same 6) (vCons (eCall 4 s__law_asked (vCons (eVar 12) (vCons (eVar 13) (vCons (eVar 11) (vCons (eVar 11) vNil))))) (vCons (eLst (vCons (eDat (.bl true)) (vCons (eDat (.bl false)) (vCons (eDat (.bl false)) (vCons (eVar 13) vNil))))) vNil))))) (sRet 0 (eDat (.bl false))) sSkip) (sIf (cNot (cTru (eCall 2 (s__law_same 6) (vCons (eLst (vCons (eCall 4 s__law_asked (vCons (eDat (.int 3)) (vCons (eVar 13) (vCons (eDat (.int 1)) (vCons (eDat (.int 1)) vNil))))) (vCons (eCall 4 s__law_asked (vCons (eDat (.int 3)) (vCons (eVar 3) (vCons (eVar 14) (vCons (eDat (.int 1)) vNil))))) vNil))) (vCons (eLst (vCons (eLst (vCons (eDat (.bl true)) (vCons (eDat (.bl false)) (vCons (eDat (.bl false)) (vCons (eVar 13) vNil))))) (vCons (eLst (vCons (eDat (.bl false)) (vCons (eDat (.bl false)) (vCons (eDat (.bl true)) (vCons (eVar 14) vNil))))) vNil))) vNil))))) (sRet 0 (eDat (.bl false))) sSkip))))))))))))))))))) (sRet 0 (eDat (.bl true)))))
end
section
variable {F : Fd}
theorem K.ofI_val1 (a : K F) : True := trivial
theorem chk_good (a b : K F) : s_check_two_numbers [.int F.p, encK a, encK b] = .ret (.dat .non) := by
  rw [s_chk2 F.p F.ok _ _ 1 (gd_encK 0 a) (gd_encK 0 b), numB_encK, numB_encK]; rfl
theorem plusG (a b : K F) {n m : Nat} (hs : F.p = 0 → szK n a ∧ szK m b ∧ n + m ≤ 8000) : s_plus [.int F.p, encK a, encK b] = .ret (.dat (encK (a + b))) := by
  have q1 := chk_good a b
  have q2 := s_plus' a b hs
  refine wF_eq ?_
  unfold s_plus
  rw [wF_sem]
  unfold m_plus
  simp only [startE_, startR_, List.map_cons, List.map_nil, List.length_cons, List.length_nil, List.replicate, Nat.reduceSub, Nat.reduceAdd, List.cons_append, List.nil_append]
  rw [encK_val, encK_val] at q1 q2
  (repeat (first | simp [sizeLine_eq, q1, q2] | (with_reducible refine wG_mk ?_ ?_; (first | with_reducible assumption | omega | with_reducible exact inB62_ _ (by omega) | with_reducible exact mulOk_ _ _ (by omega) | with_reducible decide))))
theorem timesG (a b : K F) {n m : Nat} (hs : F.p = 0 → szK n a ∧ szK m b ∧ n + m ≤ 8000) : s_times [.int F.p, encK a, encK b] = .ret (.dat (encK (a * b))) := by
  have q1 := chk_good a b
  have q2 := s_times' a b hs
  refine wF_eq ?_
  unfold s_times
  rw [wF_sem]
  unfold m_times
  simp only [startE_, startR_, List.map_cons, List.map_nil, List.length_cons, List.length_nil, List.replicate, Nat.reduceSub, Nat.reduceAdd, List.cons_append, List.nil_append]
  rw [encK_val, encK_val] at q1 q2
  (repeat (first | simp [sizeLine_eq, q1, q2] | (with_reducible refine wG_mk ?_ ?_; (first | with_reducible assumption | omega | with_reducible exact inB62_ _ (by omega) | with_reducible exact mulOk_ _ _ (by omega) | with_reducible decide))))
theorem overG (a b : K F) (hb : b ≠ 0) {n m : Nat} (hs : F.p = 0 → szK n a ∧ szK m b ∧ n + m ≤ 8000) (hd : F.p = 0 → 0 < b.val.1 ∨ (a.val.2 * b.val.1).natAbs < 1073741824) : s_over [.int F.p, encK a, encK b] = .ret (.dat (encK (a * b⁻¹))) := by
  have q1 := chk_good a b
  have q2 := s_over' a b hb hs hd
  have q3 : ¬ b.val.1 = 0 := mt (K.v0 b).mp hb
  refine wF_eq ?_
  unfold s_over
  rw [wF_sem]
  unfold m_over
  simp only [startE_, startR_, List.map_cons, List.map_nil, List.length_cons, List.length_nil, List.replicate, Nat.reduceSub, Nat.reduceAdd, List.cons_append, List.nil_append]
  rw [encK_val, encK_val] at q1 q2
  (repeat (first | simp [sizeLine_eq, q1, q2, q3] | (with_reducible refine wG_mk ?_ ?_; (first | with_reducible assumption | omega | with_reducible exact inB62_ _ (by omega) | with_reducible exact mulOk_ _ _ (by omega) | with_reducible decide))))
theorem overZ (a : K F) : s_over [.int F.p, encK a, .tup [.int 0, .int 1]] = .exc "InvalidNumber" (.tup [.int 0, .int 1]) := by
  have z : encK (0 : K F) = .tup [.int 0, .int 1] := by
    by_cases h : F.p = 0
    · rw [encK_q h, K.zero_q h]; rfl
    · rw [encK_m h, K.zero_m h]
  have q1 := chk_good a (0 : K F)
  rw [z] at q1
  refine wF_eqx ?_
  unfold s_over
  rw [wF_sem]
  unfold m_over
  simp only [startE_, startR_, List.map_cons, List.map_nil, List.length_cons, List.length_nil, List.replicate, Nat.reduceSub, Nat.reduceAdd, List.cons_append, List.nil_append]
  rw [encK_val] at q1
  (repeat (first | simp [sizeLine_eq, q1] | (with_reducible refine wG_mk ?_ ?_; (first | with_reducible assumption | omega | with_reducible exact inB62_ _ (by omega) | with_reducible exact mulOk_ _ _ (by omega) | with_reducible decide))))
theorem isnumG (d : Dt) (n : Nat) (h : gd n d = true) : s_is_number [.int F.p, d] = .ret (.dat (.bl (numB F.p d))) := by
  have q0 := s_chkF (.int F.p) rfl
  simp only [fldB_int, F.ok] at q0
  have q1 := s_isnum F.p d n h
  refine wF_eq ?_
  unfold s_is_number
  rw [wF_sem]
  unfold m_is_number
  simp only [startE_, startR_, List.map_cons, List.map_nil, List.length_cons, List.length_nil, List.replicate, Nat.reduceSub, Nat.reduceAdd, List.cons_append, List.nil_append]
  (repeat (first | simp [sizeLine_eq, q0, q1] | (with_reducible refine wG_mk ?_ ?_; (first | with_reducible assumption | omega | with_reducible exact inB62_ _ (by omega) | with_reducible exact mulOk_ _ _ (by omega) | with_reducible decide))))
end
theorem errs (f a b : Dt) (c : Str) (d : Dt) (h : s_check_two_numbers [f, a, b] = .exc c d) : s_plus [f, a, b] = .exc c d ∧ s_times [f, a, b] = .exc c d ∧ s_over [f, a, b] = .exc c d := by
  refine ⟨?_, ?_, ?_⟩
  · refine wF_eqx ?_
    unfold s_plus
    rw [wF_sem]
    unfold m_plus
    simp only [startE_, startR_, List.map_cons, List.map_nil, List.length_cons, List.length_nil, List.replicate, Nat.reduceSub, Nat.reduceAdd, List.cons_append, List.nil_append]
    (repeat (first | simp [sizeLine_eq, h] | (with_reducible refine wG_mk ?_ ?_; (first | with_reducible assumption | omega | with_reducible exact inB62_ _ (by omega) | with_reducible exact mulOk_ _ _ (by omega) | with_reducible decide))))
  · refine wF_eqx ?_
    unfold s_times
    rw [wF_sem]
    unfold m_times
    simp only [startE_, startR_, List.map_cons, List.map_nil, List.length_cons, List.length_nil, List.replicate, Nat.reduceSub, Nat.reduceAdd, List.cons_append, List.nil_append]
    (repeat (first | simp [sizeLine_eq, h] | (with_reducible refine wG_mk ?_ ?_; (first | with_reducible assumption | omega | with_reducible exact inB62_ _ (by omega) | with_reducible exact mulOk_ _ _ (by omega) | with_reducible decide))))
  · refine wF_eqx ?_
    unfold s_over
    rw [wF_sem]
    unfold m_over
    simp only [startE_, startR_, List.map_cons, List.map_nil, List.length_cons, List.length_nil, List.replicate, Nat.reduceSub, Nat.reduceAdd, List.cons_append, List.nil_append]
    (repeat (first | simp [sizeLine_eq, h] | (with_reducible refine wG_mk ?_ ?_; (first | with_reducible assumption | omega | with_reducible exact inB62_ _ (by omega) | with_reducible exact mulOk_ _ _ (by omega) | with_reducible decide))))
def errL (k : Nat) (d : Dt) : List Dt := [.bl (k == 0), .bl (k == 1), .bl (k == 2), d]
def errN : Nat → Str
  | 0 => "InvalidField"
  | 1 => "InvalidNumber"
  | _ => "InvalidInteger"
theorem asked (w : Int) (hw : w = 0 ∨ w = 1 ∨ w = 2 ∨ w = 3) (f a b : Dt) (k : Nat) (hk : k < 3) (d : Dt) (h : (if w = 0 then s_plus [f, a, b] else if w = 1 then s_times [f, a, b] else if w = 2 then s_over [f, a, b] else s_number_of [f, a]) = .exc (errN k) d) :
    s__law_asked [.int w, f, a, b] = .ret (.new (errL k d)) := by
  have t : ∀ c : Str, xsub c "OverlapsError" = true := fun c => by simp [xsub]
  have n0 : xNames.contains (errN k) = true := by rcases k with _ | _ | _ | _ <;> first | decide +kernel | omega
  have n1 : errN k ∈ xNames := by simpa using n0
  have e0 : xsub (errN k) "InvalidField" = (k == 0) := by rcases k with _ | _ | _ | _ <;> first | decide +kernel | omega
  have e1 : xsub (errN k) "InvalidNumber" = (k == 1) := by rcases k with _ | _ | _ | _ <;> first | decide +kernel | omega
  have e2 : xsub (errN k) "InvalidInteger" = (k == 2) := by rcases k with _ | _ | _ | _ <;> first | decide +kernel | omega
  refine wF_eq ?_
  unfold s__law_asked
  rw [wF_sem]
  unfold m__law_asked
  simp only [startE_, startR_, List.map_cons, List.map_nil, List.length_cons, List.length_nil, List.replicate, Nat.reduceSub, Nat.reduceAdd, List.cons_append, List.nil_append]
  rcases hw with rfl | rfl | rfl | rfl <;> simp at h <;> (repeat (first | simp [sizeLine_eq, h, t, n1, e0, e1, e2, errL] | (with_reducible refine wG_mk ?_ ?_; (first | with_reducible assumption | omega | with_reducible exact inB62_ _ (by omega) | with_reducible exact mulOk_ _ _ (by omega) | with_reducible decide))))
section
variable {F : Fd}
theorem find_filter {α : Type} (q : α → Bool) : ∀ (l : List α), (l.filter q)[0]? = l.find? q
  | [] => rfl
  | x :: xs => by
    rw [List.filter_cons, List.find?_cons]
    cases q x with
    | true => rfl
    | false => simpa using find_filter q xs
theorem lnum (x y : Int) (hy : K.ofI F y ≠ 0) (hx : x.natAbs < 2 ^ 40) (hyy : y.natAbs < 1073741824) : s__law_num [.int F.p, .int x, .int y] = .ret (.dat (encK (K.ofI F x * (K.ofI F y)⁻¹))) := by
  have hy' := mt K.ofI0.mpr hy
  by_cases h : F.p = 0
  · rw [if_pos h] at hy'
    rw [encK_q h, K.mul_q h, K.inv_q h, K.ofI_q h, K.ofI_q h, ← Rat.div_def, ← Rat.divInt_eq_div]
    refine wF_eq ?_
    unfold s__law_num
    rw [wF_sem]
    unfold m__law_num
    simp only [startE_, startR_, List.map_cons, List.map_nil, List.length_cons, List.length_nil, List.replicate, Nat.reduceSub, Nat.reduceAdd, List.cons_append, List.nil_append]
    rw [h]
    (repeat (first | simp [sizeLine_eq] | (with_reducible refine wG_mk ?_ ?_; (first | with_reducible assumption | omega | with_reducible exact inB62_ _ (by omega) | with_reducible exact mulOk_ _ _ (by omega) | with_reducible decide))))
    have hg := gcd_le (x := x) hy'
    have ln := low_num (x := x) hy'
    have ab : ∀ x : Int, (if x < 0 then -x else x).natAbs = x.natAbs := fun x => by split <;> omega
    have pos : ∀ x : Int, 0 ≤ (if x < 0 then -x else x) := fun x => by split <;> omega
    with_reducible refine wS_for (fun ds e => ∃ (u v : Int) (s3 s6 s7 : Sl), e = [.val (.int 0), .val (.int x), .val (.int y), s3, .val (.int u), .val (.int v), s6, s7] ∧ 0 ≤ u ∧ 0 ≤ v ∧ Int.gcd u v = Int.gcd x y ∧ (v = 0 ∨ (ds.length = 9000 ∧ v < 1073741824) ∨ (v < u ∧ u * v < 2 ^ ds.length))) ⟨_, _, _, _, _, rfl, pos _, pos _, by unfold Int.gcd; rw [ab, ab], .inr (.inl ⟨by rw [show (9000 : Int) = ((9000 : Nat) : Int) from rfl, len_range], by split <;> omega⟩)⟩ ?_ ?_
    · intro e ⟨u, v, s3, s6, s7, he, hu, hv, hg2, hm⟩
      subst he
      have v0 : v = 0 := by
        rcases hm with hm | ⟨hm, _⟩ | ⟨h1, h2⟩
        · exact hm
        · simp at hm
        · have h2 : u * v < 1 := by simpa using h2
          by_cases z : v = 0
          · exact z
          · have := Int.mul_pos (a := u) (b := v) (by omega) (by omega); omega
      subst v0
      have hu2 : u = (Int.gcd x y : Nat) := by rw [← hg2, Int.gcd_zero_right]; omega
      subst hu2
      by_cases h0 : y < 0
      · have dk : divOk (-(Int.gcd x y : Int)) := .inl ⟨by omega, by omega⟩
        obtain ⟨l1, l2⟩ := ln.2 h0
        have h1 : ¬ 0 < y := by omega
        have ng : (0 : Int) - (Int.gcd x y : Nat) = -(Int.gcd x y : Nat) := by omega
        (repeat (first | simp [sizeLine_eq, h1, ng, encN, qN, l1, l2] | (with_reducible refine wG_mk ?_ ?_; (first | with_reducible assumption | omega | with_reducible exact inB62_ _ (by omega) | with_reducible exact mulOk_ _ _ (by omega) | with_reducible decide))))
      · have dk : divOk ((Int.gcd x y : Nat) : Int) := .inl ⟨by omega, by omega⟩
        obtain ⟨l1, l2⟩ := ln.1 (by omega)
        have h1 : 0 < y := by omega
        (repeat (first | simp [sizeLine_eq, h1, encN, qN, l1, l2] | (with_reducible refine wG_mk ?_ ?_; (first | with_reducible assumption | omega | with_reducible exact inB62_ _ (by omega) | with_reducible exact mulOk_ _ _ (by omega) | with_reducible decide))))
    · intro d ds e ⟨u, v, s3, s6, s7, he, hu, hv, hg2, hm⟩
      subst he
      (repeat (first | simp [sizeLine_eq] | (with_reducible refine wG_mk ?_ ?_; (first | with_reducible assumption | omega | with_reducible exact inB62_ _ (by omega) | with_reducible exact mulOk_ _ _ (by omega) | with_reducible decide))))
      refine wI_mk (fun hz => ?_) (fun hz => ?_)
      · have v0 : v = 0 := of_decide_eq_true hz
        subst v0
        have hu2 : u = (Int.gcd x y : Nat) := by rw [← hg2, Int.gcd_zero_right]; omega
        subst hu2
        by_cases h0 : y < 0
        · have dk : divOk (-(Int.gcd x y : Int)) := .inl ⟨by omega, by omega⟩
          obtain ⟨l1, l2⟩ := ln.2 h0
          have h1 : ¬ 0 < y := by omega
          have ng : (0 : Int) - (Int.gcd x y : Nat) = -(Int.gcd x y : Nat) := by omega
          (repeat (first | simp [sizeLine_eq, h1, ng, encN, qN, l1, l2] | (with_reducible refine wG_mk ?_ ?_; (first | with_reducible assumption | omega | with_reducible exact inB62_ _ (by omega) | with_reducible exact mulOk_ _ _ (by omega) | with_reducible decide))))
        · have dk : divOk ((Int.gcd x y : Nat) : Int) := .inl ⟨by omega, by omega⟩
          obtain ⟨l1, l2⟩ := ln.1 (by omega)
          have h1 : 0 < y := by omega
          (repeat (first | simp [sizeLine_eq, h1, encN, qN, l1, l2] | (with_reducible refine wG_mk ?_ ?_; (first | with_reducible assumption | omega | with_reducible exact inB62_ _ (by omega) | with_reducible exact mulOk_ _ _ (by omega) | with_reducible decide))))
      · have v0 : 0 < v := by have := of_decide_eq_false hz; omega
        have m := mod_in u v v0
        (repeat (first | simp [sizeLine_eq] | (with_reducible refine wG_mk ?_ ?_; (first | with_reducible assumption | omega | with_reducible exact inB62_ _ (by omega) | with_reducible exact mulOk_ _ _ (by omega) | with_reducible decide))))
        refine hold ⟨_, _, _, _, _, rfl, hv, m.1, by rw [gcd_emod' hu hv, hg2], ?_⟩
        right; right
        refine ⟨m.2, ?_⟩
        rcases hm with hm | ⟨hm, hb⟩ | ⟨h1, h2⟩
        · omega
        · rw [List.length_cons] at hm
          have : ds.length = 8999 := by omega
          rw [this]
          have h1 : v * (u % v) ≤ 1073741824 * 1073741824 := Int.mul_le_mul (by omega) (by omega) m.1 (by decide)
          refine Int.lt_of_le_of_lt h1 ?_
          have : (1073741824 * 1073741824 : Int) = 2 ^ 60 := by decide
          rw [this]
          exact Int.pow_lt_pow_of_lt (by decide) (by decide)
        · rw [List.length_cons, Int.pow_succ] at h2
          have e1 : u % v ≤ u - v := by
            have q : u % v = u - v * (u / v) := Int.emod_def ..
            have q2 : 1 ≤ u / v := by
              have := Int.ediv_le_ediv v0 (Int.le_of_lt h1); rw [Int.ediv_self (by omega)] at this; exact this
            have q3 : v * 1 ≤ v * (u / v) := Int.mul_le_mul_of_nonneg_left q2 hv
            omega
          have e2 : v * (u % v) + v * (u % v) ≤ u * v := by
            rw [← Int.mul_add, Int.mul_comm u v]
            exact Int.mul_le_mul_of_nonneg_left (by omega) hv
          omega
  · rw [if_neg h] at hy'
    obtain ⟨-, r0, r1, r2⟩ := s_undone' F h hy'
    have h1 := F.two h
    have h2 := F.range
    have ey : undo F.p (y % F.p) = undo F.p y := by
      refine undo_eq (F.two h) r0 r1 ?_
      rw [me_r]; exact r2
    rw [encK_m h, K.mul_m h, K.ofI_m h, K.inv_m h, K.ofI_m h, ey, me_l, me_r]
    obtain ⟨n, hn⟩ := Int.eq_ofNat_of_zero_le h2.1
    have m := mod_in (x * undo F.p y) F.p (by omega)
    have fnd : (List.range n).find? (fun (k : Nat) => decide (((k : Int) * y - x) % F.p = 0)) = some (x * undo F.p y % F.p).toNat := by
      have good : ∀ k : Int, 0 ≤ k → k < F.p → ((k * y - x) % F.p = 0 ↔ k = x * undo F.p y % F.p) := by
        intro k k0 k1
        constructor
        · intro e
          have e2 : k * y % F.p = x % F.p := Int.emod_eq_emod_iff_emod_sub_eq_zero.mpr e
          have e3 : (k * y) * undo F.p y % F.p = x * undo F.p y % F.p := by rw [← me_l, e2, me_l]
          rw [← e3, Int.mul_assoc, Int.mul_comm y, ← me_r, r2, Int.mul_one, Int.emod_eq_of_lt k0 k1]
        · rintro rfl
          refine Int.emod_eq_emod_iff_emod_sub_eq_zero.mp ?_
          rw [me_l, Int.mul_assoc, ← me_r, r2, Int.mul_one]
      cases e : (List.range n).find? (fun (k : Nat) => decide (((k : Int) * y - x) % F.p = 0)) with
      | none =>
        have := List.find?_eq_none.mp e (x * undo F.p y % F.p).toNat (List.mem_range.mpr (by omega))
        rw [Int.toNat_of_nonneg m.1] at this
        rw [decide_eq_true ((good _ m.1 m.2).mpr rfl)] at this
        simp at this
      | some s =>
        have s0 := List.find?_some e
        have s1 : ((s : Int) * y - x) % F.p = 0 := of_decide_eq_true s0
        have s2 := List.mem_range.mp (List.mem_of_find?_eq_some e)
        have := (good s (by omega) (by omega)).mp s1
        rw [← this]; simp
    refine wF_eq ?_
    unfold s__law_num
    rw [wF_sem]
    unfold m__law_num
    simp only [startE_, startR_, List.map_cons, List.map_nil, List.length_cons, List.length_nil, List.replicate, Nat.reduceSub, Nat.reduceAdd, List.cons_append, List.nil_append]
    have hb : inB62 F.p := inB62_ _ (by omega)
    (repeat (first | simp [sizeLine_eq, h, wipeE] | (with_reducible refine wG_mk ?_ ?_; (first | with_reducible assumption | omega | with_reducible exact inB62_ _ (by omega) | with_reducible exact mulOk_ _ _ (by omega) | with_reducible decide))))
    have e : rangeD 0 F.p = (List.range n).map fun (k : Nat) => Dt.int k := by
      unfold rangeD; rw [hn]; simp
    have hfil : ((rangeD 0 F.p).filter fun d => match d with | .int k => decide ((k * y - x) % F.p = 0) | _ => false) = ((List.range n).filter fun (k : Nat) => decide (((k : Int) * y - x) % F.p = 0)).map fun (k : Nat) => Dt.int k := by
      rw [e, List.filter_map]; rfl
    refine wE_compF (fun d => match d with | .int k => decide ((k * y - x) % F.p = 0) | _ => false) (fun d => d) (by rw [e, List.length_map, List.length_range, sizeLine_eq]; omega) ?_ ?_
    · rw [hfil, List.map_id']
      have q := find_filter (fun (k : Nat) => decide (((k : Int) * y - x) % F.p = 0)) (List.range n)
      rw [fnd] at q
      have q2 : (((List.range n).filter fun (k : Nat) => decide (((k : Int) * y - x) % F.p = 0)).map fun (k : Nat) => Dt.int k)[0]? = some (.int (x * undo F.p y % F.p)) := by
        rw [List.getElem?_map, q]
        show some (Dt.int ((x * undo F.p y % F.p).toNat : Int)) = _
        rw [Int.toNat_of_nonneg m.1]
      generalize ((List.range n).filter fun (k : Nat) => decide (((k : Int) * y - x) % F.p = 0)).map (fun (k : Nat) => Dt.int k) = L at q2
      (repeat (first | simp [sizeLine_eq, restE, q2] | (with_reducible refine wG_mk ?_ ?_; (first | with_reducible assumption | omega | with_reducible exact inB62_ _ (by omega) | with_reducible exact mulOk_ _ _ (by omega) | with_reducible decide))))
    · intro d hd
      rw [e] at hd
      obtain ⟨k, hk, rfl⟩ := List.mem_map.mp hd
      have hk := List.mem_range.mp hk
      have o := mulOk_ (k : Int) y (.inl (by omega))
      have p0 : 0 < F.p := by omega
      (repeat (first | simp [sizeLine_eq, wipeE] | (with_reducible refine wG_mk ?_ ?_; (first | with_reducible assumption | omega | with_reducible exact inB62_ _ (by omega) | with_reducible exact mulOk_ _ _ (by omega) | with_reducible decide))))
      refine wI_mk (fun hq => ?_) (fun hq => rfl)
      (repeat (first | simp [sizeLine_eq] | (with_reducible refine wG_mk ?_ ?_; (first | with_reducible assumption | omega | with_reducible exact inB62_ _ (by omega) | with_reducible exact mulOk_ _ _ (by omega) | with_reducible decide))))
end
def FLs : List Dt := [.int 0, .int 2, .int 3, .int 5, .int 7, .int 11, .int 13, .int 17, .int 19, .int 23, .int 29, .int 31, .int 37, .int 41, .int 43, .int 47, .int 53, .int 59, .int 61, .int 67, .int 71, .int 73, .int 79, .int 83, .int 89, .int 97]
def isFld : Option Dt → Bool
  | some (.int p) => fldI p
  | _ => false
theorem FLs_at (r : Int) (h0 : 0 ≤ r) (h1 : r < 26) : ∃ p, atI FLs r = some (.int p) ∧ fldI p = true := by
  have t : (List.range 26).all (fun n => isFld (atI FLs (n : Int))) = true := by decide +kernel
  obtain ⟨n, rfl⟩ := Int.eq_ofNat_of_zero_le h0
  have q := List.all_eq_true.mp t n (List.mem_range.mpr (by omega))
  unfold isFld at q
  split at q
  · rename_i p e; exact ⟨p, e, q⟩
  · cases q
theorem field_w {cs : List Dt} {Q : Res → List Dt → Prop} (hp : PotOk cs) (k : ∀ p cs', fldI p = true → PotOk cs' → Q (.dat (.int p)) cs') : wFR (s__law_field cs []) Q := by
  unfold s__law_field
  rw [wFR_sem]
  unfold m__law_field
  simp only [startE_, startR_, List.map_cons, List.map_nil, List.length_cons, List.length_nil, List.replicate, Nat.reduceSub, Nat.reduceAdd, List.cons_append, List.nil_append]
  (repeat (first | simp [sizeLine_eq] | (with_reducible refine wG_mk ?_ ?_; (first | with_reducible assumption | omega | with_reducible exact inB62_ _ (by omega) | with_reducible exact mulOk_ _ _ (by omega) | with_reducible decide))))
  with_reducible refine take_w hp (by decide) (by decide) fun r c1 _ _ p1 => ?_
  (repeat (first | simp [sizeLine_eq] | (with_reducible refine wG_mk ?_ ?_; (first | with_reducible assumption | omega | with_reducible exact inB62_ _ (by omega) | with_reducible exact mulOk_ _ _ (by omega) | with_reducible decide))))
  with_reducible refine wI_mk (fun h => ?_) (fun h => ?_)
  · (repeat (first | simp [sizeLine_eq] | (with_reducible refine wG_mk ?_ ?_; (first | with_reducible assumption | omega | with_reducible exact inB62_ _ (by omega) | with_reducible exact mulOk_ _ _ (by omega) | with_reducible decide))))
    with_reducible refine take_w p1 (by decide) (by decide) fun r2 c2 a b p2 => ?_
    obtain ⟨p, e, hf⟩ := FLs_at r2 a b
    unfold FLs at e
    (repeat (first | simp [sizeLine_eq, e] | (with_reducible refine wG_mk ?_ ?_; (first | with_reducible assumption | omega | with_reducible exact inB62_ _ (by omega) | with_reducible exact mulOk_ _ _ (by omega) | with_reducible decide))))
    exact k _ _ hf p2
  · (repeat (first | simp [sizeLine_eq] | (with_reducible refine wG_mk ?_ ?_; (first | with_reducible assumption | omega | with_reducible exact inB62_ _ (by omega) | with_reducible exact mulOk_ _ _ (by omega) | with_reducible decide))))
    exact k _ _ (by decide) p1
def BAD (p : Int) : List Dt := [.non, .tup [.int 1], .lst [.int 1, .int 1], .tup [.int 2, .int 2], .tup [.int 1, .int 0], .tup [.int 1, .int (-1)], .tup [.bl true, .int 1], .tup [.str [49], .int 1], if p = 0 then .tup [.int 0, .int 2] else .tup [.int p, .int 1], if p = 0 then .tup [.int 3, .int 6] else .tup [.int (-1), .int 1], .int 1]
def ODDF : List Dt := [.int 1, .int 4, .int 91, .int 100, .int 101, .int (-2), .non, .bl true, .str [50], .tup [.int 2]]
def ODD : List Dt := [.non, .bl true, .str [49], .tup [.int 1], .tup [.int 1, .int 1]]
theorem r11 {r : Int} (h0 : 0 ≤ r) (h : r < 11) : r = 0 ∨ r = 1 ∨ r = 2 ∨ r = 3 ∨ r = 4 ∨ r = 5 ∨ r = 6 ∨ r = 7 ∨ r = 8 ∨ r = 9 ∨ r = 10 := by omega
theorem bad_at (F : Fd) (r : Int) (h0 : 0 ≤ r) (h : r < 11) : ∃ d, atI (BAD F.p) r = some d ∧ gd 2 d = true ∧ numB F.p d = false := by
  by_cases z : F.p = 0
  · rw [z]
    rcases r11 h0 h with h | h | h | h | h | h | h | h | h | h | h <;> subst h <;> exact ⟨_, rfl, by decide, by decide⟩
  · have h1 := F.two z
    rcases r11 h0 h with h | h | h | h | h | h | h | h | h | h | h <;> subst h <;> refine ⟨_, rfl, ?_, ?_⟩ <;> simp [z, numB, numI]
theorem oddf_at (r : Int) (h0 : 0 ≤ r) (h : r < 10) : ∃ d, atI ODDF r = some d ∧ gd 2 d = true ∧ fldB d = false := by
  rcases r11 h0 (by omega) with h | h | h | h | h | h | h | h | h | h | h <;> subst h <;> first | exact ⟨_, rfl, by decide, by decide⟩ | omega
theorem odd_at (r : Int) (h0 : 0 ≤ r) (h : r < 5) : ∃ d, atI ODD r = some d ∧ gd 2 d = true ∧ isI d = false := by
  rcases r11 h0 (by omega) with h | h | h | h | h | h | h | h | h | h | h <;> subst h <;> first | exact ⟨_, rfl, by decide, by decide⟩ | omega
theorem numof_x (f k : Dt) (hf : isX f = false) (hk : isX k = false) (h : fldB f = false) : s_number_of [f, k] = .exc "InvalidField" f := by
  rw [s_numof f k hf hk 0 (by decide) (fun z => by rw [h] at z; cases z), h]; rfl
theorem numof_k (F : Fd) (k : Dt) (hk : isX k = false) (h : isI k = false) : s_number_of [.int F.p, k] = .exc "InvalidInteger" k := by
  rw [s_numof (.int F.p) k rfl hk F.p F.range.1 (fun _ => rfl), fldB_int, F.ok]
  cases k <;> first | rfl | cases h
theorem numof_g (F : Fd) (k : Int) : s_number_of [.int F.p, .int k] = .ret (.dat (.tup [.int (if F.p = 0 then k else k % F.p), .int 1])) := by
  rw [s_numof (.int F.p) (.int k) rfl rfl F.p F.range.1 (fun _ => rfl), fldB_int, F.ok]; rfl
theorem gd_mono : ∀ {d : Dt} {n : Nat}, gd n d = true → gd (n + 1) d = true := by
  intro d
  induction d using Dt.rec (motive_2 := fun ds => ∀ n, gds n ds = true → gds (n + 1) ds = true) with
  | non => simp
  | bl => simp
  | int => simp
  | str => simp
  | exo => simp
  | tup ds ih =>
    intro n h
    cases n with
    | zero => cases h
    | succ n => simp at h ⊢; exact ⟨h.1, ih n h.2⟩
  | lst ds ih =>
    intro n h
    cases n with
    | zero => cases h
    | succ n => simp at h ⊢; exact ⟨h.1, ih n h.2⟩
  | nil => simp
  | cons d ds h1 h2 => rename_i n h; simp at h ⊢; exact ⟨h1 h.1, h2 n h.2⟩
theorem wI_join {b : Bool} {m1 m2 : M Res} {en : En} {Q : Res → En → Prop} {X : Str → Dt → En → Prop} (r : Res) (h1 : b = true → wE (m1 en) (fun r' e' => r' = r ∧ e' = en) (fun _ _ _ => False)) (h2 : b = false → wE (m2 en) (fun r' e' => r' = r ∧ e' = en) (fun _ _ _ => False)) (k : Q r en) : wI b (wE (m1 en) Q X) (wE (m2 en) Q X) := by
  have g : ∀ m : M Res, wE (m en) (fun r' e' => r' = r ∧ e' = en) (fun _ _ _ => False) → wE (m en) Q X := fun m h => by
    cases z : m en with
    | ok r' e' => rw [z] at h; obtain ⟨g1, g2⟩ := h; subst g1; subst g2; exact k
    | exc _ _ _ => rw [z] at h; exact h.elim
    | stuck => rw [z] at h; exact h.elim
  cases b with
  | true => exact g _ (h1 rfl)
  | false => exact g _ (h2 rfl)
theorem asked3 (w : Int) (h0 : 0 ≤ w) (h1 : w < 3) (f a b : Dt) (k : Nat) (hk : k < 3) (d : Dt) (h : s_check_two_numbers [f, a, b] = .exc (errN k) d) : s__law_asked [.int w, f, a, b] = .ret (.new (errL k d)) := by
  obtain ⟨e1, e2, e3⟩ := errs f a b _ _ h
  refine asked w (by omega) f a b k hk d ?_
  have : w = 0 ∨ w = 1 ∨ w = 2 := by omega
  rcases this with rfl | rfl | rfl <;> simp [e1, e2, e3]
theorem same6 (d : Dt) (h : gd 5 d = true) : s__law_same 6 [d, d] = .ret (.dat (.bl true)) := law_same_refl 5 6 d (by decide) h
section
variable {F : Fd}
def okN (a : K F) : Prop := F.p = 0 → a.val.1.natAbs ≤ 2000 ∧ a.val.2 ≤ 60
theorem okN.sz {a : K F} (h : okN a) (z : F.p = 0) : szK 11 a := by
  have := h z
  have := a.pos2
  constructor <;> omega
theorem okN.small {a : K F} (h : okN a) : a.val.1.natAbs ≤ 2000 ∧ 0 < a.val.2 ∧ a.val.2 ≤ 60 := by
  have p := a.pos2
  by_cases z : F.p = 0
  · exact ⟨(h z).1, p, (h z).2⟩
  · have m := a.m_in z
    have := F.range
    unfold K.m at m
    omega
theorem mul_le' {x y : Int} {n m : Nat} (hx : x.natAbs ≤ n) (hy : y.natAbs ≤ m) : (x * y).natAbs ≤ n * m := by
  rw [Int.natAbs_mul]; exact Nat.mul_le_mul hx hy
theorem K.sum_eq (a b : K F) : K.ofI F (a.val.1 * b.val.2 + b.val.1 * a.val.2) * (K.ofI F (a.val.2 * b.val.2))⁻¹ = a + b := by
  have ea := a.nd
  have eb := b.nd
  have da := K.den_ne a
  have db := K.den_ne b
  have add : ∀ x y : Int, K.ofI F (x + y) = K.ofI F x + K.ofI F y := fun x y => K.ext2 (fun h => by rw [K.add_q h, K.ofI_q h, K.ofI_q h, K.ofI_q h]; exact Rat.intCast_add _ _) fun h => by rw [K.add_m h, K.ofI_m h, K.ofI_m h, K.ofI_m h]; simp
  rw [add, K.ofI_mul, K.ofI_mul, K.ofI_mul, K.mul_inv da db]
  conv => rhs; rw [ea, eb]
  have ia := K.inv_mul_cancel da
  have ib := K.inv_mul_cancel db
  clear ea eb
  generalize (K.ofI F a.val.2)⁻¹ = z at *; generalize (K.ofI F b.val.2)⁻¹ = w at *; generalize K.ofI F a.val.1 = x at *; generalize K.ofI F b.val.2 = y at *; generalize K.ofI F b.val.1 = u at *; generalize K.ofI F a.val.2 = v at *
  have rd : ∀ a b c : K F, (a + b) * c = a * c + b * c := fun a b c => by rw [K.mul_comm, K.left_distrib, K.mul_comm c, K.mul_comm c]
  rw [rd]
  have e1 : x * y * (z * w) = x * z := by
    rw [K.mul_assoc, K.mul_comm z w, ← K.mul_assoc y, K.mul_comm y w, ib, K.mul_comm 1, K.mul_one]
  have e2 : u * v * (z * w) = u * w := by
    rw [K.mul_assoc, ← K.mul_assoc v, K.mul_comm v z, ia, K.mul_comm 1, K.mul_one]
  rw [e1, e2]
theorem K.prod_eq (a b : K F) : K.ofI F (a.val.1 * b.val.1) * (K.ofI F (a.val.2 * b.val.2))⁻¹ = a * b := by
  conv => rhs; rw [a.nd, b.nd]
  rw [K.ofI_mul, K.ofI_mul, K.mul_inv (K.den_ne a) (K.den_ne b)]
  generalize K.ofI F a.val.1 = x; generalize (K.ofI F b.val.2)⁻¹ = y; generalize (K.ofI F a.val.2)⁻¹ = z; generalize K.ofI F b.val.1 = w
  rw [K.mul_assoc, ← K.mul_assoc w, K.mul_comm w z, K.mul_assoc z, ← K.mul_assoc]
theorem lawplus {a b : K F} (ha : okN a) (hb : okN b) : s__law_plus [.int F.p, encK a, encK b] = .ret (.dat (encK (a + b))) := by
  have h1 := ha.small; have h2 := hb.small
  have m1 := mul_le' (n := 2000) (m := 60) h1.1 (y := b.val.2) (by omega)
  have m2 := mul_le' (n := 2000) (m := 60) h2.1 (y := a.val.2) (by omega)
  have m3 := mul_le' (n := 60) (m := 60) (x := a.val.2) (y := b.val.2) (by omega) (by omega)
  have q := lnum (F := F) (a.val.1 * b.val.2 + b.val.1 * a.val.2) (a.val.2 * b.val.2) (by rw [K.ofI_mul]; exact K.mul_ne (K.den_ne a) (K.den_ne b)) (by omega) (by omega)
  rw [K.sum_eq] at q
  simp only [encK_val] at q ⊢
  have o1 := mulOk_ a.val.1 b.val.2 (by omega)
  have o2 := mulOk_ b.val.1 a.val.2 (by omega)
  have o3 := mulOk_ a.val.2 b.val.2 (by omega)
  refine wF_eq ?_
  unfold s__law_plus
  rw [wF_sem]
  unfold m__law_plus
  simp only [startE_, startR_, List.map_cons, List.map_nil, List.length_cons, List.length_nil, List.replicate, Nat.reduceSub, Nat.reduceAdd, List.cons_append, List.nil_append]
  (repeat (first | simp [sizeLine_eq, q] | (with_reducible refine wG_mk ?_ ?_; (first | with_reducible assumption | omega | with_reducible exact inB62_ _ (by omega) | with_reducible exact mulOk_ _ _ (by omega) | with_reducible decide))))
theorem lawtimes {a b : K F} (ha : okN a) (hb : okN b) : s__law_times [.int F.p, encK a, encK b] = .ret (.dat (encK (a * b))) := by
  have h1 := ha.small; have h2 := hb.small
  have m1 := mul_le' (n := 2000) (m := 2000) h1.1 h2.1
  have m3 := mul_le' (n := 60) (m := 60) (x := a.val.2) (y := b.val.2) (by omega) (by omega)
  have q := lnum (F := F) (a.val.1 * b.val.1) (a.val.2 * b.val.2) (by rw [K.ofI_mul]; exact K.mul_ne (K.den_ne a) (K.den_ne b)) (by omega) (by omega)
  rw [K.prod_eq] at q
  simp only [encK_val] at q ⊢
  have o1 := mulOk_ a.val.1 b.val.1 (by omega)
  have o3 := mulOk_ a.val.2 b.val.2 (by omega)
  refine wF_eq ?_
  unfold s__law_times
  rw [wF_sem]
  unfold m__law_times
  simp only [startE_, startR_, List.map_cons, List.map_nil, List.length_cons, List.length_nil, List.replicate, Nat.reduceSub, Nat.reduceAdd, List.cons_append, List.nil_append]
  (repeat (first | simp [sizeLine_eq, q] | (with_reducible refine wG_mk ?_ ?_; (first | with_reducible assumption | omega | with_reducible exact inB62_ _ (by omega) | with_reducible exact mulOk_ _ _ (by omega) | with_reducible decide))))
end
theorem law_true (ns : List Int) (hl : ns.length ≤ 63) : ∃ en, m_law (.scr ns :: List.replicate (15 - 1) .un) = .ret (.dat (.bl true)) en := by
  refine law_of ?_
  show wS (m_law [.scr ns, .un, .un, .un, .un, .un, .un, .un, .un, .un, .un, .un, .un, .un, .un]) _
  unfold m_law
  have hp0 : PotOk (.int 0 :: .int 19 :: .int 3 :: ns.map .int) := ⟨0, 19, 3, ns, rfl, by omega, by omega, by omega, by omega, by omega, hl⟩
  (repeat (first | simp [sizeLine_eq] | (with_reducible refine wG_mk ?_ ?_; (first | with_reducible assumption | omega | with_reducible exact inB62_ _ (by omega) | with_reducible exact mulOk_ _ _ (by omega) | with_reducible decide))))
  with_reducible refine wS_for (fun _ e => ∃ cs s2 s3 s4 s5 s6 s7 s8 s9 s10 s11 s12 s13 s14, e = [.scr ns, .own cs, s2, s3, s4, s5, s6, s7, s8, s9, s10, s11, s12, s13, s14] ∧ PotOk cs) ⟨_, _, _, _, _, _, _, _, _, _, _, _, _, _, rfl, hp0⟩ ?_ ?_
  · rintro e ⟨cs, s2, s3, s4, s5, s6, s7, s8, s9, s10, s11, s12, s13, s14, h, _⟩
    subst h
    (repeat (first | simp [sizeLine_eq] | (with_reducible refine wG_mk ?_ ?_; (first | with_reducible assumption | omega | with_reducible exact inB62_ _ (by omega) | with_reducible exact mulOk_ _ _ (by omega) | with_reducible decide))))
  rintro d ds e ⟨cs, s2, s3, s4, s5, s6, s7, s8, s9, s10, s11, s12, s13, s14, h, hp⟩
  subst h
  (repeat (first | simp [sizeLine_eq] | (with_reducible refine wG_mk ?_ ?_; (first | with_reducible assumption | omega | with_reducible exact inB62_ _ (by omega) | with_reducible exact mulOk_ _ _ (by omega) | with_reducible decide))))
  with_reducible refine field_w hp fun p c1 hF p1 => ?_
  obtain ⟨F, rfl⟩ : ∃ F : Fd, p = F.p := ⟨⟨p, hF⟩, rfl⟩
  clear hF
  (repeat (first | simp [sizeLine_eq] | (with_reducible refine wG_mk ?_ ?_; (first | with_reducible assumption | omega | with_reducible exact inB62_ _ (by omega) | with_reducible exact mulOk_ _ _ (by omega) | with_reducible decide))))
  with_reducible refine wE_compI (fun xs acc e => ∃ (cs : List Dt) (as : List (K F)), e = [.scr ns, .own cs, .val d, .val (.int F.p), s4, .un, s6, s7, s8, s9, s10, s11, s12, s13, s14] ∧ PotOk cs ∧ acc = as.map encK ∧ as.length + xs.length = 2 ∧ ∀ a ∈ as, okN a) ?_ ?_ ?_ ?_
  · exact ⟨c1, [], rfl, p1, rfl, rfl, by simp⟩
  · rw [sizeLine_eq]; decide
  · rintro acc e ⟨cs, as, h1, p2, h2, hlen, ha⟩
    subst h1 h2
    obtain ⟨a, b, rfl⟩ : ∃ a b, as = [a, b] := by
      match as, hlen with
      | [a, b], _ => exact ⟨a, b, rfl⟩
    have ha' := ha a (by simp)
    have hb' := ha b (by simp)
    clear ha hlen
    have q1 := lawplus ha' hb'
    have q2 := lawtimes ha' hb'
    have q3 := plusG a b fun z => ⟨ha'.sz z, hb'.sz z, by omega⟩
    have q4 := timesG a b fun z => ⟨ha'.sz z, hb'.sz z, by omega⟩
    simp only [encK_val] at q1 q2 q3 q4
    (repeat (first | simp [sizeLine_eq, q1, q2, q3, q4, same6, pmL] | (with_reducible refine wG_mk ?_ ?_; (first | with_reducible assumption | omega | with_reducible exact inB62_ _ (by omega) | with_reducible exact mulOk_ _ _ (by omega) | with_reducible decide))))
    with_reducible refine wI_mk (fun hb0 => ?_) (fun hb0 => ?_)
    all_goals first
      | have b0 : b ≠ 0 := by
          intro z
          have := (K.v0 b).mpr z
          simp [this] at hb0
        have g1 := ha'.small; have g2 := hb'.small
        have m1 := mul_le' (n := 2000) (m := 60) g1.1 (y := b.val.2) (by omega)
        have m2 := mul_le' (n := 60) (m := 2000) (x := a.val.2) (by omega) g2.1
        have q5 := lnum (F := F) (a.val.1 * b.val.2) (a.val.2 * b.val.1) (by rw [K.ofI_mul]; exact K.mul_ne (K.den_ne a) (K.num_ne b0)) (by omega) (by omega)
        rw [K.over_eq a b b0] at q5
        have q6 := overG a b b0 (fun z => ⟨ha'.sz z, hb'.sz z, by omega⟩) (fun z => .inr (by omega))
        have q7 := overG (a * b) b b0 (fun z => ⟨sz_mul z (ha'.sz z) (hb'.sz z), hb'.sz z, by omega⟩) (fun z => .inr (by
          have d1 := den_mul_le z a b
          have d2 := (a * b).pos2
          have d3 := mul_le' (n := 60) (m := 60) (x := a.val.2) (y := b.val.2) (by omega) (by omega)
          have d4 := mul_le' (n := 3600) (m := 2000) (x := (a * b).val.2) (y := b.val.1) (by omega) g2.1
          omega))
        rw [K.mul_inv_cancel_right b0] at q7
        simp only [encK_val] at q5 q6 q7
        have o1 := mulOk_ a.val.1 b.val.2 (by omega)
        have o2 := mulOk_ a.val.2 b.val.1 (by omega)
        (repeat (first | simp [sizeLine_eq, q5, q6, q7, same6, pmL] | (with_reducible refine wG_mk ?_ ?_; (first | with_reducible assumption | omega | with_reducible exact inB62_ _ (by omega) | with_reducible exact mulOk_ _ _ (by omega) | with_reducible decide))))
      | (repeat (first | simp [sizeLine_eq] | (with_reducible refine wG_mk ?_ ?_; (first | with_reducible assumption | omega | with_reducible exact inB62_ _ (by omega) | with_reducible exact mulOk_ _ _ (by omega) | with_reducible decide))))
    all_goals
      have qz := overZ a
      simp only [encK_val] at qz
      have a1 := asked 2 (by decide) (.int F.p) (.tup [.int a.val.1, .int a.val.2]) (.tup [.int 0, .int 1]) 1 (by decide) (.tup [.int 0, .int 1]) (by simp [qz, errN])
      simp [errL] at a1
      (repeat (first | simp [sizeLine_eq, a1, same6] | (with_reducible refine wG_mk ?_ ?_; (first | with_reducible assumption | omega | with_reducible exact inB62_ _ (by omega) | with_reducible exact mulOk_ _ _ (by omega) | with_reducible decide))))
      with_reducible refine take_w p2 (by decide) (by decide) fun k c5 k0 k1 p5 => ?_
      have o5 := mulOk_ 5 100000000 (by decide)
      (repeat (first | simp [sizeLine_eq] | (with_reducible refine wG_mk ?_ ?_; (first | with_reducible assumption | omega | with_reducible exact inB62_ _ (by omega) | with_reducible exact mulOk_ _ _ (by omega) | with_reducible decide))))
      with_reducible refine wI_join (.dat (.tup [.int (if F.p = 0 then k - 500000000 else (k - 500000000) % F.p), .int 1])) ?_ ?_ ?_
      · intro hz
        have z : F.p ≠ 0 := by simpa using hz
        have z2 := F.two z
        (repeat (first | simp [sizeLine_eq, z] | (with_reducible refine wG_mk ?_ ?_; (first | with_reducible assumption | omega | with_reducible exact inB62_ _ (by omega) | with_reducible exact mulOk_ _ _ (by omega) | with_reducible decide))))
      · intro hz
        have z : F.p = 0 := by simpa using hz
        (repeat (first | simp [sizeLine_eq, z] | (with_reducible refine wG_mk ?_ ?_; (first | with_reducible assumption | omega | with_reducible exact inB62_ _ (by omega) | with_reducible exact mulOk_ _ _ (by omega) | with_reducible decide))))
      have nk := numof_g F (k - 500000000)
      (repeat (first | simp [sizeLine_eq, nk, same6, pmL] | (with_reducible refine wG_mk ?_ ?_; (first | with_reducible assumption | omega | with_reducible exact inB62_ _ (by omega) | with_reducible exact mulOk_ _ _ (by omega) | with_reducible decide))))
      with_reducible refine wI_join (.dat (if F.p = 0 then .tup [.int 0, .int 2] else .tup [.int F.p, .int 1])) ?_ ?_ ?_
      · intro hz
        have z : F.p ≠ 0 := by simpa using hz
        (repeat (first | simp [sizeLine_eq, z] | (with_reducible refine wG_mk ?_ ?_; (first | with_reducible assumption | omega | with_reducible exact inB62_ _ (by omega) | with_reducible exact mulOk_ _ _ (by omega) | with_reducible decide))))
      · intro hz
        have z : F.p = 0 := by simpa using hz
        (repeat (first | simp [sizeLine_eq, z] | (with_reducible refine wG_mk ?_ ?_; (first | with_reducible assumption | omega | with_reducible exact inB62_ _ (by omega) | with_reducible exact mulOk_ _ _ (by omega) | with_reducible decide))))
      (repeat (first | simp [sizeLine_eq] | (with_reducible refine wG_mk ?_ ?_; (first | with_reducible assumption | omega | with_reducible exact inB62_ _ (by omega) | with_reducible exact mulOk_ _ _ (by omega) | with_reducible decide))))
      with_reducible refine wI_join (.dat (if F.p = 0 then .tup [.int 3, .int 6] else .tup [.int (-1), .int 1])) ?_ ?_ ?_
      · intro hz
        have z : F.p ≠ 0 := by simpa using hz
        (repeat (first | simp [sizeLine_eq, z] | (with_reducible refine wG_mk ?_ ?_; (first | with_reducible assumption | omega | with_reducible exact inB62_ _ (by omega) | with_reducible exact mulOk_ _ _ (by omega) | with_reducible decide))))
      · intro hz
        have z : F.p = 0 := by simpa using hz
        (repeat (first | simp [sizeLine_eq, z] | (with_reducible refine wG_mk ?_ ?_; (first | with_reducible assumption | omega | with_reducible exact inB62_ _ (by omega) | with_reducible exact mulOk_ _ _ (by omega) | with_reducible decide))))
      (repeat (first | simp [sizeLine_eq] | (with_reducible refine wG_mk ?_ ?_; (first | with_reducible assumption | omega | with_reducible exact inB62_ _ (by omega) | with_reducible exact mulOk_ _ _ (by omega) | with_reducible decide))))
      with_reducible refine take_w p5 (by decide) (by decide) fun r6 c6 g60 g61 p6 => ?_
      obtain ⟨bd, e6, gb, nb⟩ := bad_at F r6 g60 g61
      unfold BAD at e6
      have i1 := isnumG (F := F) (encK a) 1 (gd_encK 0 a)
      have i2 := isnumG (F := F) (encK b) 1 (gd_encK 0 b)
      have i3 := isnumG (F := F) bd 2 gb
      rw [numB_encK] at i1 i2
      rw [nb] at i3
      simp only [encK_val] at i1 i2
      (repeat (first | simp [sizeLine_eq, e6, i1, i2, i3, same6, pmL] | (with_reducible refine wG_mk ?_ ?_; (first | with_reducible assumption | omega | with_reducible exact inB62_ _ (by omega) | with_reducible exact mulOk_ _ _ (by omega) | with_reducible decide))))
      with_reducible refine take_w p6 (by decide) (by decide) fun w c7 w0 w1 p7 => ?_
      have ck1 := s_chk2 F.p F.ok bd bd 2 gb gb
      rw [if_neg (by simp [nb])] at ck1
      have ck2 := s_chk2 F.p F.ok (encK a) bd 2 (gd_encK 1 a) gb
      rw [numB_encK, if_pos rfl, nb] at ck2
      have a2 := asked3 w w0 w1 (.int F.p) bd bd 1 (by decide) bd ck1
      have a3 := asked3 w w0 w1 (.int F.p) (encK a) bd 1 (by decide) bd ck2
      rw [show errL 1 bd = [.bl false, .bl true, .bl false, bd] from rfl] at a2 a3
      simp only [encK_val] at a3
      have gb3 := gd_mono gb
      have gb4 := gd_mono gb3
      (repeat (first | simp [sizeLine_eq, a2, a3, same6, gb3, gb4] | (with_reducible refine wG_mk ?_ ?_; (first | with_reducible assumption | omega | with_reducible exact inB62_ _ (by omega) | with_reducible exact mulOk_ _ _ (by omega) | with_reducible decide))))
      with_reducible refine take_w p7 (by decide) (by decide) fun r8 c8 g80 g81 p8 => ?_
      obtain ⟨fd, e8, gf, nf⟩ := oddf_at r8 g80 g81
      unfold ODDF at e8
      (repeat (first | simp [sizeLine_eq, e8] | (with_reducible refine wG_mk ?_ ?_; (first | with_reducible assumption | omega | with_reducible exact inB62_ _ (by omega) | with_reducible exact mulOk_ _ _ (by omega) | with_reducible decide))))
      with_reducible refine take_w p8 (by decide) (by decide) fun r9 c9 g90 g91 p9 => ?_
      obtain ⟨od, e9, go, no⟩ := odd_at r9 g90 g91
      unfold ODD at e9
      have a4 := asked3 w w0 w1 fd bd bd 0 (by decide) fd (s_chk2F fd bd bd (gd_isX gf) nf)
      have a5 := asked 3 (by decide) fd (.int 1) (.int 1) 0 (by decide) fd (by simp [numof_x fd (.int 1) (gd_isX gf) rfl nf, errN])
      have a6 := asked 3 (by decide) (.int F.p) od (.int 1) 2 (by decide) od (by simp [numof_k F od (gd_isX go) no, errN])
      rw [show errL 0 fd = [.bl true, .bl false, .bl false, fd] from rfl] at a4 a5
      rw [show errL 2 od = [.bl false, .bl false, .bl true, od] from rfl] at a6
      have gf3 := gd_mono gf
      have gf4 := gd_mono gf3
      have go3 := gd_mono go
      (repeat (first | simp [sizeLine_eq, e9, a4, a5, a6, same6, gf3, gf4, go3] | (with_reducible refine wG_mk ?_ ?_; (first | with_reducible assumption | omega | with_reducible exact inB62_ _ (by omega) | with_reducible exact mulOk_ _ _ (by omega) | with_reducible decide))))
      exact hold ⟨_, _, _, _, _, _, _, _, _, _, _, _, _, _, rfl, p9⟩
  · rintro x xs acc e ⟨cs, as, h1, p2, h2, hlen, ha⟩
    subst h1 h2
    (repeat (first | simp [sizeLine_eq] | (with_reducible refine wG_mk ?_ ?_; (first | with_reducible assumption | omega | with_reducible exact inB62_ _ (by omega) | with_reducible exact mulOk_ _ _ (by omega) | with_reducible decide))))
    with_reducible refine take_w p2 (by decide) (by decide) fun r c3 r0 r1 p3 => ?_
    (repeat (first | simp [sizeLine_eq] | (with_reducible refine wG_mk ?_ ?_; (first | with_reducible assumption | omega | with_reducible exact inB62_ _ (by omega) | with_reducible exact mulOk_ _ _ (by omega) | with_reducible decide))))
    with_reducible refine wI_mk (fun hz => ?_) (fun hz => ?_)
    · have z : F.p ≠ 0 := by simpa using hz
      have one : K.ofI F 1 ≠ 0 := by
        rw [Ne, K.ofI0, if_neg z, Int.emod_eq_of_lt (by decide) (F.two z)]; decide
      have q := lnum (F := F) (r - 2000) 1 one (by omega) (by decide)
      simp only [encK_val] at q
      (repeat (first | simp [sizeLine_eq, q] | (with_reducible refine wG_mk ?_ ?_; (first | with_reducible assumption | omega | with_reducible exact inB62_ _ (by omega) | with_reducible exact mulOk_ _ _ (by omega) | with_reducible decide))))
      refine hold ⟨_, as ++ [_], rfl, p3, by rw [List.map_append]; rfl, by rw [List.length_append]; simp at hlen ⊢; omega, ?_⟩
      intro a' h'
      rcases List.mem_append.mp h' with h' | h'
      · exact ha a' h'
      · exact fun y => absurd y z
    · have z : F.p = 0 := by simpa using hz
      (repeat (first | simp [sizeLine_eq] | (with_reducible refine wG_mk ?_ ?_; (first | with_reducible assumption | omega | with_reducible exact inB62_ _ (by omega) | with_reducible exact mulOk_ _ _ (by omega) | with_reducible decide))))
      with_reducible refine take_w p3 (by decide) (by decide) fun r2 c4 g0 g1 p4 => ?_
      have one : K.ofI F (1 + r2) ≠ 0 := by
        rw [Ne, K.ofI0, if_pos z]; omega
      have q := lnum (F := F) (r - 2000) (1 + r2) one (by omega) (by omega)
      simp only [encK_val] at q
      (repeat (first | simp [sizeLine_eq, q] | (with_reducible refine wG_mk ?_ ?_; (first | with_reducible assumption | omega | with_reducible exact inB62_ _ (by omega) | with_reducible exact mulOk_ _ _ (by omega) | with_reducible decide))))
      refine hold ⟨_, as ++ [K.ofI F (r - 2000) * (K.ofI F (1 + r2))⁻¹], rfl, p4, by rw [List.map_append]; rfl, by rw [List.length_append]; simp at hlen ⊢; omega, ?_⟩
      intro a' h'
      rcases List.mem_append.mp h' with h' | h'
      · exact ha a' h'
      · rw [List.mem_singleton] at h'
        subst h'
        intro _
        have e : (K.ofI F (r - 2000) * (K.ofI F (1 + r2))⁻¹).val = qN (Rat.divInt (r - 2000) (1 + r2)) := by
          have e1 : (K.ofI F (r - 2000) * (K.ofI F (1 + r2))⁻¹).q = Rat.divInt (r - 2000) (1 + r2) := by
            rw [K.mul_q z, K.inv_q z, K.ofI_q z, K.ofI_q z, Rat.divInt_eq_div, Rat.div_def]
          rw [← e1]; exact (qN_nQ (NOk0 z _)).symm
        rw [e]
        show (Rat.divInt (r - 2000) (1 + r2)).num.natAbs ≤ 2000 ∧ ((Rat.divInt (r - 2000) (1 + r2)).den : Int) ≤ 60
        rw [Rat.num_divInt, Rat.den_divInt, if_neg (by omega), Int.sign_eq_one_of_pos (by omega), Int.one_mul]
        have h1 := Int.natAbs_ediv_le_natAbs (r - 2000) (Int.gcd (1 + r2) (r - 2000))
        have h2 := Nat.div_le_self (1 + r2).natAbs (Int.gcd (1 + r2) (r - 2000))
        omega

def topS (i : Nat) : Stmt := PySem.Challenge.pw_wholeoverlaps_k01_numbers_of_fields.main.body.getD i (.Pass ⟨0, 0, 0, 0⟩)
structure Txt (P : Program) (w : World) (K : PySem.W.Frag) (mg : Str → Option Value) (base : Heap) (fs : Nat → Addr) (fds : Nat → FuncData) (xD xI : Addr) (xfd : FuncData) : Prop where
  at_is_integer : FnAt K mg "is_integer" (topS 7) ["value"] (fs 7) (fds 7)
  at_is_natural : FnAt K mg "is_natural" (topS 8) ["value"] (fs 8) (fds 8)
  at_is_field : FnAt K mg "is_field" (topS 9) ["value"] (fs 9) (fds 9)
  at_check_field : FnAt K mg "check_field" (topS 10) ["p"] (fs 10) (fds 10)
  at_number_by : FnAt K mg "number_by" (topS 14) ["p", "k"] (fs 14) (fds 14)
  at_number_of : FnAt K mg "number_of" (topS 25) ["p", "k"] (fs 25) (fds 25)
  at_greatest_divisor : FnAt K mg "greatest_divisor" (topS 11) ["one", "other"] (fs 11) (fds 11)
  at_is_number_of : FnAt K mg "is_number_of" (topS 15) ["p", "value"] (fs 15) (fds 15)
  at_check_number : FnAt K mg "check_number" (topS 16) ["p", "number"] (fs 16) (fds 16)
  at_check_two_numbers : FnAt K mg "check_two_numbers" (topS 21) ["p", "number", "second_number"] (fs 21) (fds 21)
  at_undone : FnAt K mg "undone" (topS 12) ["a", "p"] (fs 12) (fds 12)
  at_lowest : FnAt K mg "lowest" (topS 13) ["p", "a", "b"] (fs 13) (fds 13)
  at_over_of : FnAt K mg "over_of" (topS 19) ["p", "one", "other"] (fs 19) (fds 19)
  at_over : FnAt K mg "over" (topS 24) ["p", "number", "second_number"] (fs 24) (fds 24)
  at_plus_of : FnAt K mg "plus_of" (topS 17) ["p", "one", "other"] (fs 17) (fds 17)
  at_plus : FnAt K mg "plus" (topS 22) ["p", "number", "second_number"] (fs 22) (fds 22)
  at_times_of : FnAt K mg "times_of" (topS 18) ["p", "one", "other"] (fs 18) (fds 18)
  at_times : FnAt K mg "times" (topS 23) ["p", "number", "second_number"] (fs 23) (fds 23)
  at__law_asked : FnAt K mg "_law_asked" (topS 33) ["which", "p", "one", "other"] (fs 33) (fds 33)
  at__law_take : FnAt K mg "_law_take" (topS 27) ["pot", "many"] (fs 27) (fds 27)
  at__law_field : FnAt K mg "_law_field" (topS 32) ["pot"] (fs 32) (fds 32)
  at__law_num : FnAt K mg "_law_num" (topS 29) ["p", "a", "b"] (fs 29) (fds 29)
  at__law_plus : FnAt K mg "_law_plus" (topS 30) ["p", "one", "other"] (fs 30) (fds 30)
  at__law_same : FnAt K mg "_law_same" (topS 28) ["got", "due"] (fs 28) (fds 28)
  at__law_times : FnAt K mg "_law_times" (topS 31) ["p", "one", "other"] (fs 31) (fds 31)
  at_is_number : FnAt K mg "is_number" (topS 20) ["p", "value"] (fs 20) (fds 20)
  at_law : FnAt K mg "law" (topS 34) ["script"] (fs 34) (fds 34)
  c_LARGEST : ∃ t, mg "LARGEST" = some (Value.int 99 t)
  b_abs : mg "abs" = none
  b_all : mg "all" = none
  b_bool : mg "bool" = none
  b_int : mg "int" = none
  b_isinstance : mg "isinstance" = none
  b_len : mg "len" = none
  b_list : mg "list" = none
  b_range : mg "range" = none
  b_str : mg "str" = none
  b_tuple : mg "tuple" = none
  xk : XK P w K mg base xD xI xfd xNames
  x_OverlapsError : ClsAt K mg "OverlapsError"
  x_InvalidField : ClsAt K mg "InvalidField"
  x_InvalidInteger : ClsAt K mg "InvalidInteger"
  x_InvalidNumber : ClsAt K mg "InvalidNumber"
section
variable {P : Program} {w : World} {K : PySem.W.Frag} {mg : Str → Option Value} {base : Heap} {fs : Nat → Addr} {fds : Nat → FuncData} {xD xI : Addr} {xfd : FuncData}
theorem sc_is_integer : FnScope ["value"] ["value"] (defScope (topS 7)) := ⟨rfl, rfl, rfl, by decide +kernel, rfl, by decide +kernel, by decide +kernel⟩
theorem ok_is_integer (T : Txt P w K mg base fs fds xD xI xfd) : FnOk P w K mg base (L2.CX P w) 1 (fs 7) (fds 7) ["value"] (spF K mg 1 s_is_integer) :=
  okF (N := ["value"]) (ps := ["value"]) (k := 0) T.at_is_integer.F sc_is_integer (m := m_is_integer) (fun _ _ _ _ _ _ ct => (rss_one (rs_ret (re_and (re_isi "int" T.b_isinstance T.b_int PyProof.Rows.boot_int (re_var 0)) (re_one (re_not (re_isi "bool" T.b_isinstance T.b_bool PyProof.Rows.boot_bool (re_var 0))))))))
theorem sc_is_natural : FnScope ["value"] ["value"] (defScope (topS 8)) := ⟨rfl, rfl, rfl, by decide +kernel, rfl, by decide +kernel, by decide +kernel⟩
theorem ok_is_natural (T : Txt P w K mg base fs fds xD xI xfd) : FnOk P w K mg base (L2.CX P w) 2 (fs 8) (fds 8) ["value"] (spF K mg 1 s_is_natural) :=
  okF (N := ["value"]) (ps := ["value"]) (k := 1) T.at_is_natural.F sc_is_natural (m := m_is_natural) (fun _ _ _ _ _ _ ct => (rss_one (rs_ret (re_and (re_call ct.tk (ct.room.mono (by decide)) (ok_is_integer T) T.at_is_integer.g T.at_is_integer.F.kp T.at_is_integer.b (vs_cons (re_var 0) vs_nil)) (re_one (re_cmp prim_ge (re_var 0) re_int))))))
theorem sc_is_field : FnScope ["value", "by"] ["value"] (defScope (topS 9)) := ⟨rfl, rfl, rfl, by decide +kernel, rfl, by decide +kernel, by decide +kernel⟩
theorem ok_is_field (T : Txt P w K mg base fs fds xD xI xfd) : FnOk P w K mg base (L2.CX P w) 3 (fs 9) (fds 9) ["value"] (spF K mg 1 s_is_field) :=
  okF (N := ["value", "by"]) (ps := ["value"]) (k := 2) T.at_is_field.F sc_is_field (m := m_is_field) (fun _ _ _ _ _ _ ct => (rss_cons (rs_if (rt_w (rw_or (rt_not (rt_tru (re_call ct.tk (ct.room.mono (by decide)) (ok_is_natural T) T.at_is_natural.g T.at_is_natural.F.kp T.at_is_natural.b (vs_cons (re_var 0) vs_nil)))) (rw_or1 (rt_cmp prim_gt (re_var 0) (re_gint T.c_LARGEST))))) (rss_one (rs_ret re_bl)) rss_nil) (rss_one (rs_ret (re_or (re_cmp (prim_eq ct.room) (re_var 0) re_int) (re_one (re_and (re_cmp prim_gt (re_var 0) re_int) (re_one (re_cb (prim_all ct.calm) T.b_all PyProof.Rows.boot_all (rs_cons (re_comp ct (blkOk_by (N := ["value", "by"]) (own := [("by", 1)]) (sc := (defScope (topS 9))) (by decide +kernel)) (ri_range2 T.b_range re_int (re_var 0)) (fun _ _ _ _ _ ct => (rg_name 1 (out_wipe (by decide)) ct.nd)) (fun _ _ _ _ _ ct => rts_nil) (fun _ _ _ _ _ ct => (re_cmp (prim_ne ct.room) (re_bin prim_mod (re_var 0) (re_var 1)) re_int))) rs_nil))))))))))
theorem sc_check_field : FnScope ["p"] ["p"] (defScope (topS 10)) := ⟨rfl, rfl, rfl, by decide +kernel, rfl, by decide +kernel, by decide +kernel⟩
theorem ok_check_field (T : Txt P w K mg base fs fds xD xI xfd) : FnOk P w K mg base (L2.CX P w) 4 (fs 10) (fds 10) ["p"] (spF K mg 1 s_check_field) :=
  okF (N := ["p"]) (ps := ["p"]) (k := 3) T.at_check_field.F sc_check_field (m := m_check_field) (fun _ _ _ _ _ _ ct => (rss_one (rs_if (rt_not (rt_tru (re_call ct.tk (ct.room.mono (by decide)) (ok_is_field T) T.at_is_field.g T.at_is_field.F.kp T.at_is_field.b (vs_cons (re_var 0) vs_nil)))) (rss_one (rs_raise ct.calm ct.tk (ct.room.mono (by decide)) T.xk T.x_InvalidField (re_var 0))) rss_nil)))
theorem sc_number_by : FnScope ["p", "k"] ["p", "k"] (defScope (topS 14)) := ⟨rfl, rfl, rfl, by decide +kernel, rfl, by decide +kernel, by decide +kernel⟩
theorem ok_number_by (T : Txt P w K mg base fs fds xD xI xfd) : FnOk P w K mg base (L2.CX P w) 1 (fs 14) (fds 14) ["p", "k"] (spF K mg 2 s_number_by) :=
  okF (N := ["p", "k"]) (ps := ["p", "k"]) (k := 0) T.at_number_by.F sc_number_by (m := m_number_by) (fun _ _ _ _ _ _ ct => (rss_one (rs_ret (re_tup (vs_cons (re_if (rt_cmp (prim_ne ct.room) (re_var 0) re_int) (re_bin prim_mod (re_var 1) (re_var 0)) (re_var 1)) (vs_cons re_int vs_nil))))))
theorem sc_number_of : FnScope ["p", "k"] ["p", "k"] (defScope (topS 25)) := ⟨rfl, rfl, rfl, by decide +kernel, rfl, by decide +kernel, by decide +kernel⟩
theorem ok_number_of (T : Txt P w K mg base fs fds xD xI xfd) : FnOk P w K mg base (L2.CX P w) 5 (fs 25) (fds 25) ["p", "k"] (spF K mg 2 s_number_of) :=
  okF (N := ["p", "k"]) (ps := ["p", "k"]) (k := 4) T.at_number_of.F sc_number_of (m := m_number_of) (fun _ _ _ _ _ _ ct => (rss_cons (rs_expr (re_call ct.tk (ct.room.mono (by decide)) (ok_check_field T) T.at_check_field.g T.at_check_field.F.kp T.at_check_field.b (vs_cons (re_var 0) vs_nil))) (rss_cons (rs_if (rt_not (rt_tru (re_call ct.tk (ct.room.mono (by decide)) (ok_is_integer T) T.at_is_integer.g T.at_is_integer.F.kp T.at_is_integer.b (vs_cons (re_var 1) vs_nil)))) (rss_one (rs_raise ct.calm ct.tk (ct.room.mono (by decide)) T.xk T.x_InvalidInteger (re_var 1))) rss_nil) (rss_one (rs_ret (re_call ct.tk (ct.room.mono (by decide)) (ok_number_by T) T.at_number_by.g T.at_number_by.F.kp T.at_number_by.b (vs_cons (re_var 0) (vs_cons (re_var 1) vs_nil))))))))
theorem sc_greatest_divisor : FnScope ["one", "other"] ["one", "other"] (defScope (topS 11)) := ⟨rfl, rfl, rfl, by decide +kernel, rfl, by decide +kernel, by decide +kernel⟩
theorem ok_greatest_divisor (T : Txt P w K mg base fs fds xD xI xfd) : FnOk P w K mg base (L2.CX P w) 1 (fs 11) (fds 11) ["one", "other"] (spF K mg 2 s_greatest_divisor) :=
  okF (N := ["one", "other"]) (ps := ["one", "other"]) (k := 0) T.at_greatest_divisor.F sc_greatest_divisor (m := m_greatest_divisor) (fun _ _ _ _ _ _ ct => (rss_cons (rs_par2 0 1 (by decide) ct.calm ct.nd (re_cb prim_abs T.b_abs PyProof.Rows.boot_abs (rs_cons (re_var 0) rs_nil)) (re_cb prim_abs T.b_abs PyProof.Rows.boot_abs (rs_cons (re_var 1) rs_nil))) (rss_cons (rs_while ct (rt_cmp (prim_ne ct.room) (re_var 1) re_int) (rss_one (rs_par2 0 1 (by decide) ct.calm ct.nd (re_var 1) (re_bin prim_mod (re_var 0) (re_var 1))))) (rss_one (rs_ret (re_var 0))))))
theorem sc_is_number_of : FnScope ["p", "value", "own"] ["p", "value"] (defScope (topS 15)) := ⟨rfl, rfl, rfl, by decide +kernel, rfl, by decide +kernel, by decide +kernel⟩
theorem ok_is_number_of (T : Txt P w K mg base fs fds xD xI xfd) : FnOk P w K mg base (L2.CX P w) 2 (fs 15) (fds 15) ["p", "value"] (spF K mg 2 s_is_number_of) :=
  okF (N := ["p", "value", "own"]) (ps := ["p", "value"]) (k := 1) T.at_is_number_of.F sc_is_number_of (m := m_is_number_of) (fun _ _ _ _ _ _ ct => (rss_cons (rs_if (rt_w (rw_or (rt_not (rt_tru (re_isi "tuple" T.b_isinstance T.b_tuple PyProof.Rows.boot_tuple (re_var 1)))) (rw_or (rt_cmp (prim_ne ct.room) (re_cb prim_len T.b_len PySem.boot_len (rs_cons (re_var 1) rs_nil)) re_int) (rw_or1 (rt_not (rt_tru (re_cb (prim_all ct.calm) T.b_all PyProof.Rows.boot_all (rs_cons (re_comp ct (blkOk_by (N := ["p", "value", "own"]) (own := [("own", 2)]) (sc := (defScope (topS 15))) (by decide +kernel)) (ri_seq (re_var 1)) (fun _ _ _ _ _ ct => (rg_name 2 (out_wipe (by decide)) ct.nd)) (fun _ _ _ _ _ ct => rts_nil) (fun _ _ _ _ _ ct => (re_call ct.tk (ct.room.mono (by decide)) (ok_is_integer T) T.at_is_integer.g T.at_is_integer.F.kp T.at_is_integer.b (vs_cons (re_var 2) vs_nil)))) rs_nil)))))))) (rss_one (rs_ret re_bl)) rss_nil) (rss_cons (rs_if (rt_cmp (prim_ne ct.room) (re_var 0) re_int) (rss_one (rs_ret (re_and (re_chain prim_le prim_lt re_int (re_ix prim_ix (re_var 1) re_int) (re_var 0)) (re_one (re_cmp (prim_eq ct.room) (re_ix prim_ix (re_var 1) re_int) re_int))))) rss_nil) (rss_one (rs_ret (re_and (re_cmp prim_gt (re_ix prim_ix (re_var 1) re_int) re_int) (re_one (re_cmp (prim_eq ct.room) (re_call ct.tk (ct.room.mono (by decide)) (ok_greatest_divisor T) T.at_greatest_divisor.g T.at_greatest_divisor.F.kp T.at_greatest_divisor.b (vs_cons (re_ix prim_ix (re_var 1) re_int) (vs_cons (re_ix prim_ix (re_var 1) re_int) vs_nil))) re_int))))))))
theorem sc_check_number : FnScope ["p", "number"] ["p", "number"] (defScope (topS 16)) := ⟨rfl, rfl, rfl, by decide +kernel, rfl, by decide +kernel, by decide +kernel⟩
theorem ok_check_number (T : Txt P w K mg base fs fds xD xI xfd) : FnOk P w K mg base (L2.CX P w) 3 (fs 16) (fds 16) ["p", "number"] (spF K mg 2 s_check_number) :=
  okF (N := ["p", "number"]) (ps := ["p", "number"]) (k := 2) T.at_check_number.F sc_check_number (m := m_check_number) (fun _ _ _ _ _ _ ct => (rss_one (rs_if (rt_not (rt_tru (re_call ct.tk (ct.room.mono (by decide)) (ok_is_number_of T) T.at_is_number_of.g T.at_is_number_of.F.kp T.at_is_number_of.b (vs_cons (re_var 0) (vs_cons (re_var 1) vs_nil))))) (rss_one (rs_raise ct.calm ct.tk (ct.room.mono (by decide)) T.xk T.x_InvalidNumber (re_var 1))) rss_nil)))
theorem sc_check_two_numbers : FnScope ["p", "number", "second_number"] ["p", "number", "second_number"] (defScope (topS 21)) := ⟨rfl, rfl, rfl, by decide +kernel, rfl, by decide +kernel, by decide +kernel⟩
theorem ok_check_two_numbers (T : Txt P w K mg base fs fds xD xI xfd) : FnOk P w K mg base (L2.CX P w) 5 (fs 21) (fds 21) ["p", "number", "second_number"] (spF K mg 3 s_check_two_numbers) :=
  okF (N := ["p", "number", "second_number"]) (ps := ["p", "number", "second_number"]) (k := 4) T.at_check_two_numbers.F sc_check_two_numbers (m := m_check_two_numbers) (fun _ _ _ _ _ _ ct => (rss_cons (rs_expr (re_call ct.tk (ct.room.mono (by decide)) (ok_check_field T) T.at_check_field.g T.at_check_field.F.kp T.at_check_field.b (vs_cons (re_var 0) vs_nil))) (rss_cons (rs_expr (re_call ct.tk (ct.room.mono (by decide)) (ok_check_number T) T.at_check_number.g T.at_check_number.F.kp T.at_check_number.b (vs_cons (re_var 0) (vs_cons (re_var 1) vs_nil)))) (rss_one (rs_expr (re_call ct.tk (ct.room.mono (by decide)) (ok_check_number T) T.at_check_number.g T.at_check_number.F.kp T.at_check_number.b (vs_cons (re_var 0) (vs_cons (re_var 2) vs_nil))))))))
theorem sc_undone : FnScope ["a", "p", "one", "other", "first", "second", "by"] ["a", "p"] (defScope (topS 12)) := ⟨rfl, rfl, rfl, by decide +kernel, rfl, by decide +kernel, by decide +kernel⟩
theorem ok_undone (T : Txt P w K mg base fs fds xD xI xfd) : FnOk P w K mg base (L2.CX P w) 1 (fs 12) (fds 12) ["a", "p"] (spF K mg 2 s_undone) :=
  okF (N := ["a", "p", "one", "other", "first", "second", "by"]) (ps := ["a", "p"]) (k := 0) T.at_undone.F sc_undone (m := m_undone) (fun _ _ _ _ _ _ ct => (rss_cons (rs_asg (re_tup (vs_cons (re_bin prim_mod (re_var 0) (re_var 1)) (vs_cons (re_var 1) (vs_cons re_int (vs_cons re_int vs_nil))))) (rg_tup 4 ct.calm (rgs_cons (rg_name 2 (out_take (by decide)) ct.nd) (rgs_cons (rg_name 3 (out_take (by decide)) ct.nd) (rgs_cons (rg_name 4 (out_take (by decide)) ct.nd) (rgs_cons (rg_name 5 (out_take (by decide)) ct.nd) rgs_nil)))))) (rss_cons (rs_while ct (rt_cmp (prim_ne ct.room) (re_var 3) re_int) (rss_cons (rs_set 6 (by decide) ct.nd (re_bin prim_div (re_var 2) (re_var 3))) (rss_one (rs_asg (re_tup (vs_cons (re_var 3) (vs_cons (re_bin prim_sub (re_var 2) (re_bin prim_mulX (re_var 6) (re_var 3))) (vs_cons (re_var 5) (vs_cons (re_bin prim_sub (re_var 4) (re_bin prim_mulX (re_var 6) (re_var 5))) vs_nil))))) (rg_tup 4 ct.calm (rgs_cons (rg_name 2 (out_take (by decide)) ct.nd) (rgs_cons (rg_name 3 (out_take (by decide)) ct.nd) (rgs_cons (rg_name 4 (out_take (by decide)) ct.nd) (rgs_cons (rg_name 5 (out_take (by decide)) ct.nd) rgs_nil))))))))) (rss_one (rs_ret (re_bin prim_mod (re_var 4) (re_var 1)))))))
theorem sc_lowest : FnScope ["p", "a", "b", "by"] ["p", "a", "b"] (defScope (topS 13)) := ⟨rfl, rfl, rfl, by decide +kernel, rfl, by decide +kernel, by decide +kernel⟩
theorem ok_lowest (T : Txt P w K mg base fs fds xD xI xfd) : FnOk P w K mg base (L2.CX P w) 2 (fs 13) (fds 13) ["p", "a", "b"] (spF K mg 3 s_lowest) :=
  okF (N := ["p", "a", "b", "by"]) (ps := ["p", "a", "b"]) (k := 1) T.at_lowest.F sc_lowest (m := m_lowest) (fun _ _ _ _ _ _ ct => (rss_cons (rs_if (rt_cmp (prim_ne ct.room) (re_var 0) re_int) (rss_one (rs_ret (re_tup (vs_cons (re_bin prim_mod (re_bin prim_mulX (re_var 1) (re_call ct.tk (ct.room.mono (by decide)) (ok_undone T) T.at_undone.g T.at_undone.F.kp T.at_undone.b (vs_cons (re_var 2) (vs_cons (re_var 0) vs_nil)))) (re_var 0)) (vs_cons re_int vs_nil))))) rss_nil) (rss_cons (rs_set 3 (by decide) ct.nd (re_call ct.tk (ct.room.mono (by decide)) (ok_greatest_divisor T) T.at_greatest_divisor.g T.at_greatest_divisor.F.kp T.at_greatest_divisor.b (vs_cons (re_var 1) (vs_cons (re_var 2) vs_nil)))) (rss_cons (rs_if (rt_cmp prim_lt (re_var 2) re_int) (rss_one (rs_set 3 (by decide) ct.nd (re_un prim_neg (re_var 3)))) rss_nil) (rss_one (rs_ret (re_tup (vs_cons (re_bin prim_div (re_var 1) (re_var 3)) (vs_cons (re_bin prim_div (re_var 2) (re_var 3)) vs_nil)))))))))
theorem sc_over_of : FnScope ["p", "one", "other"] ["p", "one", "other"] (defScope (topS 19)) := ⟨rfl, rfl, rfl, by decide +kernel, rfl, by decide +kernel, by decide +kernel⟩
theorem ok_over_of (T : Txt P w K mg base fs fds xD xI xfd) : FnOk P w K mg base (L2.CX P w) 3 (fs 19) (fds 19) ["p", "one", "other"] (spF K mg 3 s_over_of) :=
  okF (N := ["p", "one", "other"]) (ps := ["p", "one", "other"]) (k := 2) T.at_over_of.F sc_over_of (m := m_over_of) (fun _ _ _ _ _ _ ct => (rss_one (rs_ret (re_call ct.tk (ct.room.mono (by decide)) (ok_lowest T) T.at_lowest.g T.at_lowest.F.kp T.at_lowest.b (vs_cons (re_var 0) (vs_cons (re_bin prim_mulX (re_ix prim_ix (re_var 1) re_int) (re_ix prim_ix (re_var 2) re_int)) (vs_cons (re_bin prim_mulX (re_ix prim_ix (re_var 1) re_int) (re_ix prim_ix (re_var 2) re_int)) vs_nil)))))))
theorem sc_over : FnScope ["p", "number", "second_number"] ["p", "number", "second_number"] (defScope (topS 24)) := ⟨rfl, rfl, rfl, by decide +kernel, rfl, by decide +kernel, by decide +kernel⟩
theorem ok_over (T : Txt P w K mg base fs fds xD xI xfd) : FnOk P w K mg base (L2.CX P w) 6 (fs 24) (fds 24) ["p", "number", "second_number"] (spF K mg 3 s_over) :=
  okF (N := ["p", "number", "second_number"]) (ps := ["p", "number", "second_number"]) (k := 5) T.at_over.F sc_over (m := m_over) (fun _ _ _ _ _ _ ct => (rss_cons (rs_expr (re_call ct.tk (ct.room.mono (by decide)) (ok_check_two_numbers T) T.at_check_two_numbers.g T.at_check_two_numbers.F.kp T.at_check_two_numbers.b (vs_cons (re_var 0) (vs_cons (re_var 1) (vs_cons (re_var 2) vs_nil))))) (rss_cons (rs_if (rt_cmp (prim_eq ct.room) (re_ix prim_ix (re_var 2) re_int) re_int) (rss_one (rs_raise ct.calm ct.tk (ct.room.mono (by decide)) T.xk T.x_InvalidNumber (re_var 2))) rss_nil) (rss_one (rs_ret (re_call ct.tk (ct.room.mono (by decide)) (ok_over_of T) T.at_over_of.g T.at_over_of.F.kp T.at_over_of.b (vs_cons (re_var 0) (vs_cons (re_var 1) (vs_cons (re_var 2) vs_nil)))))))))
theorem sc_plus_of : FnScope ["p", "one", "other"] ["p", "one", "other"] (defScope (topS 17)) := ⟨rfl, rfl, rfl, by decide +kernel, rfl, by decide +kernel, by decide +kernel⟩
theorem ok_plus_of (T : Txt P w K mg base fs fds xD xI xfd) : FnOk P w K mg base (L2.CX P w) 3 (fs 17) (fds 17) ["p", "one", "other"] (spF K mg 3 s_plus_of) :=
  okF (N := ["p", "one", "other"]) (ps := ["p", "one", "other"]) (k := 2) T.at_plus_of.F sc_plus_of (m := m_plus_of) (fun _ _ _ _ _ _ ct => (rss_cons (rs_if (rt_cmp (prim_ne ct.room) (re_var 0) re_int) (rss_one (rs_ret (re_tup (vs_cons (re_bin prim_mod (re_bin prim_add (re_ix prim_ix (re_var 1) re_int) (re_ix prim_ix (re_var 2) re_int)) (re_var 0)) (vs_cons re_int vs_nil))))) rss_nil) (rss_one (rs_ret (re_call ct.tk (ct.room.mono (by decide)) (ok_lowest T) T.at_lowest.g T.at_lowest.F.kp T.at_lowest.b (vs_cons re_int (vs_cons (re_bin prim_add (re_bin prim_mulX (re_ix prim_ix (re_var 1) re_int) (re_ix prim_ix (re_var 2) re_int)) (re_bin prim_mulX (re_ix prim_ix (re_var 2) re_int) (re_ix prim_ix (re_var 1) re_int))) (vs_cons (re_bin prim_mulX (re_ix prim_ix (re_var 1) re_int) (re_ix prim_ix (re_var 2) re_int)) vs_nil))))))))
theorem sc_plus : FnScope ["p", "number", "second_number"] ["p", "number", "second_number"] (defScope (topS 22)) := ⟨rfl, rfl, rfl, by decide +kernel, rfl, by decide +kernel, by decide +kernel⟩
theorem ok_plus (T : Txt P w K mg base fs fds xD xI xfd) : FnOk P w K mg base (L2.CX P w) 6 (fs 22) (fds 22) ["p", "number", "second_number"] (spF K mg 3 s_plus) :=
  okF (N := ["p", "number", "second_number"]) (ps := ["p", "number", "second_number"]) (k := 5) T.at_plus.F sc_plus (m := m_plus) (fun _ _ _ _ _ _ ct => (rss_cons (rs_expr (re_call ct.tk (ct.room.mono (by decide)) (ok_check_two_numbers T) T.at_check_two_numbers.g T.at_check_two_numbers.F.kp T.at_check_two_numbers.b (vs_cons (re_var 0) (vs_cons (re_var 1) (vs_cons (re_var 2) vs_nil))))) (rss_one (rs_ret (re_call ct.tk (ct.room.mono (by decide)) (ok_plus_of T) T.at_plus_of.g T.at_plus_of.F.kp T.at_plus_of.b (vs_cons (re_var 0) (vs_cons (re_var 1) (vs_cons (re_var 2) vs_nil))))))))
theorem sc_times_of : FnScope ["p", "one", "other"] ["p", "one", "other"] (defScope (topS 18)) := ⟨rfl, rfl, rfl, by decide +kernel, rfl, by decide +kernel, by decide +kernel⟩
theorem ok_times_of (T : Txt P w K mg base fs fds xD xI xfd) : FnOk P w K mg base (L2.CX P w) 3 (fs 18) (fds 18) ["p", "one", "other"] (spF K mg 3 s_times_of) :=
  okF (N := ["p", "one", "other"]) (ps := ["p", "one", "other"]) (k := 2) T.at_times_of.F sc_times_of (m := m_times_of) (fun _ _ _ _ _ _ ct => (rss_cons (rs_if (rt_cmp (prim_ne ct.room) (re_var 0) re_int) (rss_one (rs_ret (re_tup (vs_cons (re_bin prim_mod (re_bin prim_mulX (re_ix prim_ix (re_var 1) re_int) (re_ix prim_ix (re_var 2) re_int)) (re_var 0)) (vs_cons re_int vs_nil))))) rss_nil) (rss_one (rs_ret (re_call ct.tk (ct.room.mono (by decide)) (ok_lowest T) T.at_lowest.g T.at_lowest.F.kp T.at_lowest.b (vs_cons re_int (vs_cons (re_bin prim_mulX (re_ix prim_ix (re_var 1) re_int) (re_ix prim_ix (re_var 2) re_int)) (vs_cons (re_bin prim_mulX (re_ix prim_ix (re_var 1) re_int) (re_ix prim_ix (re_var 2) re_int)) vs_nil))))))))
theorem sc_times : FnScope ["p", "number", "second_number"] ["p", "number", "second_number"] (defScope (topS 23)) := ⟨rfl, rfl, rfl, by decide +kernel, rfl, by decide +kernel, by decide +kernel⟩
theorem ok_times (T : Txt P w K mg base fs fds xD xI xfd) : FnOk P w K mg base (L2.CX P w) 6 (fs 23) (fds 23) ["p", "number", "second_number"] (spF K mg 3 s_times) :=
  okF (N := ["p", "number", "second_number"]) (ps := ["p", "number", "second_number"]) (k := 5) T.at_times.F sc_times (m := m_times) (fun _ _ _ _ _ _ ct => (rss_cons (rs_expr (re_call ct.tk (ct.room.mono (by decide)) (ok_check_two_numbers T) T.at_check_two_numbers.g T.at_check_two_numbers.F.kp T.at_check_two_numbers.b (vs_cons (re_var 0) (vs_cons (re_var 1) (vs_cons (re_var 2) vs_nil))))) (rss_one (rs_ret (re_call ct.tk (ct.room.mono (by decide)) (ok_times_of T) T.at_times_of.g T.at_times_of.F.kp T.at_times_of.b (vs_cons (re_var 0) (vs_cons (re_var 1) (vs_cons (re_var 2) vs_nil))))))))
theorem sc__law_asked : FnScope ["which", "p", "one", "other", "told", "caught", "e"] ["which", "p", "one", "other"] (defScope (topS 33)) := ⟨rfl, rfl, rfl, by decide +kernel, rfl, by decide +kernel, by decide +kernel⟩
theorem ok__law_asked (T : Txt P w K mg base fs fds xD xI xfd) : FnOk P w K mg base (L2.CX P w) 7 (fs 33) (fds 33) ["which", "p", "one", "other"] (spF K mg 4 s__law_asked) :=
  okF (N := ["which", "p", "one", "other", "told", "caught", "e"]) (ps := ["which", "p", "one", "other"]) (k := 6) T.at__law_asked.F sc__law_asked (m := m__law_asked) (fun _ _ _ _ _ _ ct => (rss_cons (rs_asg (re_tup (vs_cons re_non (vs_cons re_non vs_nil))) (rg_tup 2 ct.calm (rgs_cons (rg_name 4 (out_take (by decide)) ct.nd) (rgs_cons (rg_name 5 (out_take (by decide)) ct.nd) rgs_nil)))) (rss_cons (rs_try 6 (by decide) ct T.xk T.x_OverlapsError rfl rfl rfl (fun _ _ _ ct => (rss_one (rs_set 4 (by decide) ct.nd (re_if (rt_cmp (prim_eq ct.room) (re_var 0) re_int) (re_call ct.tk (ct.room.mono (by decide)) (ok_plus T) T.at_plus.g T.at_plus.F.kp T.at_plus.b (vs_cons (re_var 1) (vs_cons (re_var 2) (vs_cons (re_var 3) vs_nil)))) (re_if (rt_cmp (prim_eq ct.room) (re_var 0) re_int) (re_call ct.tk (ct.room.mono (by decide)) (ok_times T) T.at_times.g T.at_times.F.kp T.at_times.b (vs_cons (re_var 1) (vs_cons (re_var 2) (vs_cons (re_var 3) vs_nil)))) (re_if (rt_cmp (prim_eq ct.room) (re_var 0) re_int) (re_call ct.tk (ct.room.mono (by decide)) (ok_over T) T.at_over.g T.at_over.F.kp T.at_over.b (vs_cons (re_var 1) (vs_cons (re_var 2) (vs_cons (re_var 3) vs_nil)))) (re_call ct.tk (ct.room.mono (by decide)) (ok_number_of T) T.at_number_of.g T.at_number_of.F.kp T.at_number_of.b (vs_cons (re_var 1) (vs_cons (re_var 2) vs_nil))))))))) (fun _ _ ct => (rss_one (rs_set 5 (by decide) ct.nd (re_var 6))))) (rss_cons (rs_if (rt_cmp prim_isN (re_var 5) re_non) (rss_one (rs_ret (re_var 4))) rss_nil) (rss_one (rs_ret (re_lst (vs_cons (re_isX T.xk T.x_InvalidField T.b_isinstance (re_var 5)) (vs_cons (re_isX T.xk T.x_InvalidNumber T.b_isinstance (re_var 5)) (vs_cons (re_isX T.xk T.x_InvalidInteger T.b_isinstance (re_var 5)) (vs_cons (re_vle T.xk (re_var 5)) vs_nil)))))))))))
theorem sc__law_take : FnScope ["pot", "many", "cell", "mixed", "drawn_now"] ["pot", "many"] (defScope (topS 27)) := ⟨rfl, rfl, rfl, by decide +kernel, rfl, by decide +kernel, by decide +kernel⟩
theorem ok__law_take (T : Txt P w K mg base fs fds xD xI xfd) : FnOk P w K mg base (L2.CX P w) 1 (fs 27) (fds 27) ["pot", "many"] (spFR K 2 s__law_take) :=
  okR (N := ["pot", "many", "cell", "mixed", "drawn_now"]) (ps := ["pot", "many"]) (k := 0) T.at__law_take.F sc__law_take (by decide) (m := m__law_take) (fun _ _ _ _ _ _ ct => (rss_cons (rs_if (rt_w (rw_and (rt_cmp (prim_eq ct.room) (re_ix prim_ix (re_var 0) re_int) re_int) (rw_and1 (rt_cmp prim_lt (re_ix prim_ix (re_var 0) re_int) (re_cb prim_len T.b_len PySem.boot_len (rs_cons (re_var 0) rs_nil)))))) (rss_cons (rs_set 2 (by decide) ct.nd (re_ix prim_ix (re_var 0) (re_ix prim_ix (re_var 0) re_int))) (rss_cons (rs_augIx 0 ip_add re_int re_int) (rss_one (rs_if (rt_cmp prim_ge (re_var 2) (re_bin prim_pow re_int re_int)) (rss_one (rs_setIx 0 (re_bin prim_sub (re_var 2) (re_bin prim_pow re_int re_int)) re_int)) (rss_cons (rs_set 3 (by decide) ct.nd (re_bin prim_mod (re_ct prim_int T.b_int PyProof.Rows.boot_int (rs_cons (re_var 2) rs_nil)) re_int)) (rss_cons (rs_set 3 (by decide) ct.nd (re_bin prim_mod (re_ct prim_int T.b_int PyProof.Rows.boot_int (rs_cons (re_bin prim_add (re_bin prim_add (re_bin prim_mulX (re_var 3) (re_var 3)) (re_bin prim_mulX re_int (re_var 3))) (re_bin prim_mulX re_int (re_ix prim_ix (re_var 0) re_int))) rs_nil)) re_int)) (rss_one (rs_setIx 0 (re_bin prim_mod (re_ct prim_int T.b_int PyProof.Rows.boot_int (rs_cons (re_bin prim_add (re_ix prim_ix (re_var 0) re_int) (re_var 3)) rs_nil)) re_int) re_int)))))))) rss_nil) (rss_cons (rs_if (rt_cmp prim_gt (re_ix prim_ix (re_var 0) re_int) re_int) (rss_cons (rs_set 4 (by decide) ct.nd (re_bin prim_mod (re_ct prim_int T.b_int PyProof.Rows.boot_int (rs_cons (re_ix prim_ix (re_var 0) re_int) rs_nil)) (re_var 1))) (rss_cons (rs_setIx 0 (re_bin prim_div (re_ix prim_ix (re_var 0) re_int) (re_var 1)) re_int) (rss_one (rs_ret (re_var 4))))) rss_nil) (rss_cons (rs_setIx 0 (re_bin prim_mod (re_ct prim_int T.b_int PyProof.Rows.boot_int (rs_cons (re_bin prim_add (re_bin prim_add (re_bin prim_mulX (re_ix prim_ix (re_var 0) re_int) re_int) (re_bin prim_mulX re_int (re_ix prim_ix (re_var 0) re_int))) re_int) rs_nil)) re_int) re_int) (rss_cons (rs_setIx 0 (re_bin prim_mod (re_ct prim_int T.b_int PyProof.Rows.boot_int (rs_cons (re_bin prim_add (re_bin prim_mulX (re_ix prim_ix (re_var 0) re_int) (re_ix prim_ix (re_var 0) re_int)) re_int) rs_nil)) re_int) re_int) (rss_one (rs_ret (re_bin prim_mod (re_ct prim_int T.b_int PyProof.Rows.boot_int (rs_cons (re_bin prim_div (re_ix prim_ix (re_var 0) re_int) re_int) rs_nil)) (re_var 1)))))))))
theorem sc__law_field : FnScope ["pot", "some"] ["pot"] (defScope (topS 32)) := ⟨rfl, rfl, rfl, by decide +kernel, rfl, by decide +kernel, by decide +kernel⟩
theorem ok__law_field (T : Txt P w K mg base fs fds xD xI xfd) : FnOk P w K mg base (L2.CX P w) 2 (fs 32) (fds 32) ["pot"] (spFR K 1 s__law_field) :=
  okR (N := ["pot", "some"]) (ps := ["pot"]) (k := 1) T.at__law_field.F sc__law_field (by decide) (m := m__law_field) (fun _ _ _ _ _ _ ct => (rss_cons (rs_set 1 (by decide) ct.nd (re_lst (vs_cons re_int (vs_cons re_int (vs_cons re_int (vs_cons re_int (vs_cons re_int (vs_cons re_int (vs_cons re_int (vs_cons re_int (vs_cons re_int (vs_cons re_int (vs_cons re_int (vs_cons re_int (vs_cons re_int (vs_cons re_int (vs_cons re_int (vs_cons re_int (vs_cons re_int (vs_cons re_int (vs_cons re_int (vs_cons re_int (vs_cons re_int (vs_cons re_int (vs_cons re_int (vs_cons re_int (vs_cons re_int (vs_cons re_int vs_nil)))))))))))))))))))))))))))) (rss_one (rs_ret (re_if (rt_cmp (prim_eq ct.room) (re_callR 0 ct.tk (ct.room.mono (by decide)) (ok__law_take T) T.at__law_take.g T.at__law_take.F.kp T.at__law_take.b (vs_cons re_int vs_nil)) re_int) (re_ix prim_ix (re_var 1) (re_callR 0 ct.tk (ct.room.mono (by decide)) (ok__law_take T) T.at__law_take.g T.at__law_take.F.kp T.at__law_take.b (vs_cons re_int vs_nil))) re_int)))))
theorem sc__law_num : FnScope ["p", "a", "b", "own", "first", "second", "turn", "by"] ["p", "a", "b"] (defScope (topS 29)) := ⟨rfl, rfl, rfl, by decide +kernel, rfl, by decide +kernel, by decide +kernel⟩
theorem ok__law_num (T : Txt P w K mg base fs fds xD xI xfd) : FnOk P w K mg base (L2.CX P w) 1 (fs 29) (fds 29) ["p", "a", "b"] (spF K mg 3 s__law_num) :=
  okF (N := ["p", "a", "b", "own", "first", "second", "turn", "by"]) (ps := ["p", "a", "b"]) (k := 0) T.at__law_num.F sc__law_num (m := m__law_num) (fun _ _ _ _ _ _ ct => (rss_cons (rs_if (rt_cmp (prim_ne ct.room) (re_var 0) re_int) (rss_one (rs_ret (re_tup (vs_cons (re_ix prim_ix (re_comp ct (blkOk_by (N := ["p", "a", "b", "own", "first", "second", "turn", "by"]) (own := [("own", 3)]) (sc := (defScope (topS 29))) (by decide +kernel)) (ri_range1 T.b_range (re_var 0)) (fun _ _ _ _ _ ct => (rg_name 3 (out_wipe (by decide)) ct.nd)) (fun _ _ _ _ _ ct => (rts_one (rt_cmp (prim_eq ct.room) (re_bin prim_mod (re_ct prim_int T.b_int PyProof.Rows.boot_int (rs_cons (re_bin prim_sub (re_bin prim_mulX (re_var 3) (re_var 2)) (re_var 1)) rs_nil)) (re_var 0)) re_int))) (fun _ _ _ _ _ ct => (re_var 3))) re_int) (vs_cons re_int vs_nil))))) rss_nil) (rss_cons (rs_par2 4 5 (by decide) ct.calm ct.nd (re_cb prim_abs T.b_abs PyProof.Rows.boot_abs (rs_cons (re_var 1) rs_nil)) (re_cb prim_abs T.b_abs PyProof.Rows.boot_abs (rs_cons (re_var 2) rs_nil))) (rss_cons (rs_for ct (ri_range1 T.b_range re_int) (rg_name 6 (out_take (by decide)) ct.nd) (rss_cons (rs_if (rt_cmp (prim_eq ct.room) (re_var 5) re_int) (rss_one rs_break) rss_nil) (rss_one (rs_par2 4 5 (by decide) ct.calm ct.nd (re_var 5) (re_bin prim_mod (re_ct prim_int T.b_int PyProof.Rows.boot_int (rs_cons (re_var 4) rs_nil)) (re_var 5)))))) (rss_cons (rs_set 7 (by decide) ct.nd (re_if (rt_cmp prim_gt (re_var 2) re_int) (re_var 4) (re_bin prim_sub re_int (re_var 4)))) (rss_one (rs_ret (re_tup (vs_cons (re_bin prim_div (re_var 1) (re_var 7)) (vs_cons (re_bin prim_div (re_var 2) (re_var 7)) vs_nil))))))))))
theorem sc__law_plus : FnScope ["p", "one", "other"] ["p", "one", "other"] (defScope (topS 30)) := ⟨rfl, rfl, rfl, by decide +kernel, rfl, by decide +kernel, by decide +kernel⟩
theorem ok__law_plus (T : Txt P w K mg base fs fds xD xI xfd) : FnOk P w K mg base (L2.CX P w) 2 (fs 30) (fds 30) ["p", "one", "other"] (spF K mg 3 s__law_plus) :=
  okF (N := ["p", "one", "other"]) (ps := ["p", "one", "other"]) (k := 1) T.at__law_plus.F sc__law_plus (m := m__law_plus) (fun _ _ _ _ _ _ ct => (rss_one (rs_ret (re_call ct.tk (ct.room.mono (by decide)) (ok__law_num T) T.at__law_num.g T.at__law_num.F.kp T.at__law_num.b (vs_cons (re_var 0) (vs_cons (re_bin prim_add (re_bin prim_mulX (re_ix prim_ix (re_var 1) re_int) (re_ix prim_ix (re_var 2) re_int)) (re_bin prim_mulX (re_ix prim_ix (re_var 2) re_int) (re_ix prim_ix (re_var 1) re_int))) (vs_cons (re_bin prim_mulX (re_ix prim_ix (re_var 1) re_int) (re_ix prim_ix (re_var 2) re_int)) vs_nil)))))))
theorem sc__law_same : FnScope ["got", "due", "k"] ["got", "due"] (defScope (topS 28)) := ⟨rfl, rfl, rfl, by decide +kernel, rfl, by decide +kernel, by decide +kernel⟩
theorem ok__law_same_rec (T : Txt P w K mg base fs fds xD xI xfd) : ∀ n, FnOk P w K mg base (L2.CX P w) (1 + n) (fs 28) (fds 28) ["got", "due"] (spF K mg 2 (s__law_same n))
  | 0 => FnOk.stuck0 (by rfl)
  | n + 1 => by
    have O := ok__law_same_rec T n
    have hk : 1 + n ≤ 1 + n := Nat.le_refl _
    show FnOk P w K mg base (L2.CX P w) (1 + n + 1) (fs 28) (fds 28) ["got", "due"] (spF K mg 2 (semF 3 (m__law_same (s__law_same n))))
    generalize s__law_same n = S at O ⊢
    exact okF (N := ["got", "due", "k"]) (ps := ["got", "due"]) (k := 1 + n) T.at__law_same.F sc__law_same (m := m__law_same S) (fun _ _ _ _ _ _ ct => (rss_cons (rs_if (rt_cmp prim_isN (re_var 1) re_non) (rss_one (rs_ret (re_cmp prim_isN (re_var 0) re_non))) rss_nil) (rss_cons (rs_if (rt_tru (re_isi2 "bool" "str" T.b_isinstance T.b_bool PyProof.Rows.boot_bool T.b_str PyProof.Rows.boot_str (re_var 1))) (rss_one (rs_ret (re_and (re_cmp (prim_eq ct.room) (re_isi "bool" T.b_isinstance T.b_bool PyProof.Rows.boot_bool (re_var 0)) (re_isi "bool" T.b_isinstance T.b_bool PyProof.Rows.boot_bool (re_var 1))) (re_and (re_isi2 "bool" "str" T.b_isinstance T.b_bool PyProof.Rows.boot_bool T.b_str PyProof.Rows.boot_str (re_var 0)) (re_one (re_cmp (prim_eq ct.room) (re_var 0) (re_var 1))))))) rss_nil) (rss_cons (rs_if (rt_tru (re_isi "int" T.b_isinstance T.b_int PyProof.Rows.boot_int (re_var 1))) (rss_one (rs_ret (re_and (re_isi "int" T.b_isinstance T.b_int PyProof.Rows.boot_int (re_var 0)) (re_and (re_not (re_isi "bool" T.b_isinstance T.b_bool PyProof.Rows.boot_bool (re_var 0))) (re_one (re_cmp (prim_eq ct.room) (re_var 0) (re_var 1))))))) rss_nil) (rss_cons (rs_if (rt_w (rw_or (rt_cmp (prim_ne ct.room) (re_isi "list" T.b_isinstance T.b_list PyProof.Rows.boot_list (re_var 1)) (re_isi "list" T.b_isinstance T.b_list PyProof.Rows.boot_list (re_var 0))) (rw_or1 (rt_cmp (prim_ne ct.room) (re_isi "tuple" T.b_isinstance T.b_tuple PyProof.Rows.boot_tuple (re_var 1)) (re_isi "tuple" T.b_isinstance T.b_tuple PyProof.Rows.boot_tuple (re_var 0)))))) (rss_one (rs_ret re_bl)) rss_nil) (rss_one (rs_ret (re_and (re_cmp (prim_eq ct.room) (re_cb prim_len T.b_len PySem.boot_len (rs_cons (re_var 0) rs_nil)) (re_cb prim_len T.b_len PySem.boot_len (rs_cons (re_var 1) rs_nil))) (re_one (re_cb (prim_all ct.calm) T.b_all PyProof.Rows.boot_all (rs_cons (re_comp ct (blkOk_by (N := ["got", "due", "k"]) (own := [("k", 2)]) (sc := (defScope (topS 28))) (by decide +kernel)) (ri_range1 T.b_range (re_cb prim_len T.b_len PySem.boot_len (rs_cons (re_var 1) rs_nil))) (fun _ _ _ _ _ ct => (rg_name 2 (out_wipe (by decide)) ct.nd)) (fun _ _ _ _ _ ct => rts_nil) (fun _ _ _ _ _ ct => (re_call ct.tk (ct.room.mono hk) O T.at__law_same.g T.at__law_same.F.kp T.at__law_same.b (vs_cons (re_ix prim_ix (re_var 0) (re_var 2)) (vs_cons (re_ix prim_ix (re_var 1) (re_var 2)) vs_nil))))) rs_nil)))))))))))
theorem ok__law_same (T : Txt P w K mg base fs fds xD xI xfd) : FnOk P w K mg base (L2.CX P w) 7 (fs 28) (fds 28) ["got", "due"] (spF K mg 2 (s__law_same 6)) := ok__law_same_rec T 6
theorem sc__law_times : FnScope ["p", "one", "other"] ["p", "one", "other"] (defScope (topS 31)) := ⟨rfl, rfl, rfl, by decide +kernel, rfl, by decide +kernel, by decide +kernel⟩
theorem ok__law_times (T : Txt P w K mg base fs fds xD xI xfd) : FnOk P w K mg base (L2.CX P w) 2 (fs 31) (fds 31) ["p", "one", "other"] (spF K mg 3 s__law_times) :=
  okF (N := ["p", "one", "other"]) (ps := ["p", "one", "other"]) (k := 1) T.at__law_times.F sc__law_times (m := m__law_times) (fun _ _ _ _ _ _ ct => (rss_one (rs_ret (re_call ct.tk (ct.room.mono (by decide)) (ok__law_num T) T.at__law_num.g T.at__law_num.F.kp T.at__law_num.b (vs_cons (re_var 0) (vs_cons (re_bin prim_mulX (re_ix prim_ix (re_var 1) re_int) (re_ix prim_ix (re_var 2) re_int)) (vs_cons (re_bin prim_mulX (re_ix prim_ix (re_var 1) re_int) (re_ix prim_ix (re_var 2) re_int)) vs_nil)))))))
theorem sc_is_number : FnScope ["p", "value"] ["p", "value"] (defScope (topS 20)) := ⟨rfl, rfl, rfl, by decide +kernel, rfl, by decide +kernel, by decide +kernel⟩
theorem ok_is_number (T : Txt P w K mg base fs fds xD xI xfd) : FnOk P w K mg base (L2.CX P w) 5 (fs 20) (fds 20) ["p", "value"] (spF K mg 2 s_is_number) :=
  okF (N := ["p", "value"]) (ps := ["p", "value"]) (k := 4) T.at_is_number.F sc_is_number (m := m_is_number) (fun _ _ _ _ _ _ ct => (rss_cons (rs_expr (re_call ct.tk (ct.room.mono (by decide)) (ok_check_field T) T.at_check_field.g T.at_check_field.F.kp T.at_check_field.b (vs_cons (re_var 0) vs_nil))) (rss_one (rs_ret (re_call ct.tk (ct.room.mono (by decide)) (ok_is_number_of T) T.at_is_number_of.g T.at_is_number_of.F.kp T.at_is_number_of.b (vs_cons (re_var 0) (vs_cons (re_var 1) vs_nil)))))))
theorem sc_law : FnScope ["script", "pot", "turn", "p", "rows", "k", "one", "other", "due", "quotient", "whole", "bad", "which", "field", "odd"] ["script"] (defScope (topS 34)) := ⟨rfl, rfl, rfl, by decide +kernel, rfl, by decide +kernel, by decide +kernel⟩
theorem ok_law (T : Txt P w K mg base fs fds xD xI xfd) : FnOk P w K mg base (L2.CX P w) 8 (fs 34) (fds 34) ["script"] (spL K 15 m_law) :=
  okL (N := ["script", "pot", "turn", "p", "rows", "k", "one", "other", "due", "quotient", "whole", "bad", "which", "field", "odd"]) (k := 7) T.at_law.F sc_law (by decide) (m := m_law) (fun _ _ _ _ _ _ ct => (rss_cons (rs_set 1 (by decide) ct.nd (re_bin prim_add (re_lst (vs_cons re_int (vs_cons re_int (vs_cons re_int vs_nil)))) (re_scr 0 T.b_list))) (rss_cons (rs_for ct (ri_range1 T.b_range re_int) (rg_name 2 (out_take (by decide)) ct.nd) (rss_cons (rs_set 3 (by decide) ct.nd (re_callR 1 ct.tk (ct.room.mono (by decide)) (ok__law_field T) T.at__law_field.g T.at__law_field.F.kp T.at__law_field.b vs_nil)) (rss_cons (rs_setLc 4 (by decide) ct (blkOk_by (N := ["script", "pot", "turn", "p", "rows", "k", "one", "other", "due", "quotient", "whole", "bad", "which", "field", "odd"]) (own := [("k", 5)]) (sc := (defScope (topS 34))) (by decide +kernel)) (ri_range1 T.b_range re_int) (fun _ _ _ _ _ ct => (rg_name 5 (out_wipe (by decide)) ct.nd)) (fun _ _ _ _ _ ct => rts_nil) (fun _ _ _ _ _ ct => (re_call ct.tk (ct.room.mono (by decide)) (ok__law_num T) T.at__law_num.g T.at__law_num.F.kp T.at__law_num.b (vs_cons (re_var 3) (vs_cons (re_bin prim_sub (re_callR 1 ct.tk (ct.room.mono (by decide)) (ok__law_take T) T.at__law_take.g T.at__law_take.F.kp T.at__law_take.b (vs_cons re_int vs_nil)) re_int) (vs_cons (re_if (rt_cmp (prim_ne ct.room) (re_var 3) re_int) re_int (re_bin prim_add re_int (re_callR 1 ct.tk (ct.room.mono (by decide)) (ok__law_take T) T.at__law_take.g T.at__law_take.F.kp T.at__law_take.b (vs_cons re_int vs_nil)))) vs_nil))))) (sw_true rfl rfl rfl (by decide +kernel))) (rss_cons (rs_asg (re_var 4) (rg_tup 2 ct.calm (rgs_cons (rg_name 6 (out_take (by decide)) ct.nd) (rgs_cons (rg_name 7 (out_take (by decide)) ct.nd) rgs_nil)))) (rss_cons (rs_set 8 (by decide) ct.nd (re_lst (vs_cons (re_call ct.tk (ct.room.mono (by decide)) (ok__law_plus T) T.at__law_plus.g T.at__law_plus.F.kp T.at__law_plus.b (vs_cons (re_var 3) (vs_cons (re_var 6) (vs_cons (re_var 7) vs_nil)))) (vs_cons (re_call ct.tk (ct.room.mono (by decide)) (ok__law_times T) T.at__law_times.g T.at__law_times.F.kp T.at__law_times.b (vs_cons (re_var 3) (vs_cons (re_var 6) (vs_cons (re_var 7) vs_nil)))) vs_nil)))) (rss_cons (rs_if (rt_not (rt_tru (re_call ct.tk (ct.room.mono (by decide)) (ok__law_same T) T.at__law_same.g T.at__law_same.F.kp T.at__law_same.b (vs_cons (re_lst (vs_cons (re_call ct.tk (ct.room.mono (by decide)) (ok_plus T) T.at_plus.g T.at_plus.F.kp T.at_plus.b (vs_cons (re_var 3) (vs_cons (re_var 6) (vs_cons (re_var 7) vs_nil)))) (vs_cons (re_callK ct.tk (ct.room.mono (by decide)) (ok_plus T) T.at_plus.g T.at_plus.F.kp (Fun_kwb (ks := ["second_number", "number", "p"]) (pm := [2, 1, 0]) T.at_plus.F fun _ _ _ _ _ _ us hl => match us, hl with | [_, _, _], _ => rfl) (ks_cons (re_var 7) (ks_cons (re_var 6) (ks_cons (re_var 3) ks_nil)))) vs_nil))) (vs_cons (re_lst (vs_cons (re_ix prim_ix (re_var 8) re_int) (vs_cons (re_ix prim_ix (re_var 8) re_int) vs_nil))) vs_nil))))) (rss_one (rs_ret re_bl)) rss_nil) (rss_cons (rs_if (rt_not (rt_tru (re_call ct.tk (ct.room.mono (by decide)) (ok__law_same T) T.at__law_same.g T.at__law_same.F.kp T.at__law_same.b (vs_cons (re_lst (vs_cons (re_call ct.tk (ct.room.mono (by decide)) (ok_times T) T.at_times.g T.at_times.F.kp T.at_times.b (vs_cons (re_var 3) (vs_cons (re_var 6) (vs_cons (re_var 7) vs_nil)))) (vs_cons (re_callK ct.tk (ct.room.mono (by decide)) (ok_times T) T.at_times.g T.at_times.F.kp (Fun_kwb (ks := ["second_number", "number", "p"]) (pm := [2, 1, 0]) T.at_times.F fun _ _ _ _ _ _ us hl => match us, hl with | [_, _, _], _ => rfl) (ks_cons (re_var 7) (ks_cons (re_var 6) (ks_cons (re_var 3) ks_nil)))) vs_nil))) (vs_cons (re_lst (vs_cons (re_ix prim_ix (re_var 8) re_int) (vs_cons (re_ix prim_ix (re_var 8) re_int) vs_nil))) vs_nil))))) (rss_one (rs_ret re_bl)) rss_nil) (rss_cons (rs_if (rt_cmp (prim_ne ct.room) (re_ix prim_ix (re_var 7) re_int) re_int) (rss_cons (rs_set 9 (by decide) ct.nd (re_call ct.tk (ct.room.mono (by decide)) (ok__law_num T) T.at__law_num.g T.at__law_num.F.kp T.at__law_num.b (vs_cons (re_var 3) (vs_cons (re_bin prim_mulX (re_ix prim_ix (re_var 6) re_int) (re_ix prim_ix (re_var 7) re_int)) (vs_cons (re_bin prim_mulX (re_ix prim_ix (re_var 6) re_int) (re_ix prim_ix (re_var 7) re_int)) vs_nil))))) (rss_one (rs_if (rt_not (rt_tru (re_call ct.tk (ct.room.mono (by decide)) (ok__law_same T) T.at__law_same.g T.at__law_same.F.kp T.at__law_same.b (vs_cons (re_lst (vs_cons (re_call ct.tk (ct.room.mono (by decide)) (ok_over T) T.at_over.g T.at_over.F.kp T.at_over.b (vs_cons (re_var 3) (vs_cons (re_var 6) (vs_cons (re_var 7) vs_nil)))) (vs_cons (re_callK ct.tk (ct.room.mono (by decide)) (ok_over T) T.at_over.g T.at_over.F.kp (Fun_kwb (ks := ["second_number", "number", "p"]) (pm := [2, 1, 0]) T.at_over.F fun _ _ _ _ _ _ us hl => match us, hl with | [_, _, _], _ => rfl) (ks_cons (re_var 7) (ks_cons (re_var 6) (ks_cons (re_var 3) ks_nil)))) (vs_cons (re_call ct.tk (ct.room.mono (by decide)) (ok_over T) T.at_over.g T.at_over.F.kp T.at_over.b (vs_cons (re_var 3) (vs_cons (re_ix prim_ix (re_var 8) re_int) (vs_cons (re_var 7) vs_nil)))) vs_nil)))) (vs_cons (re_lst (vs_cons (re_var 9) (vs_cons (re_var 9) (vs_cons (re_var 6) vs_nil)))) vs_nil))))) (rss_one (rs_ret re_bl)) rss_nil))) rss_nil) (rss_cons (rs_if (rt_not (rt_tru (re_call ct.tk (ct.room.mono (by decide)) (ok__law_same T) T.at__law_same.g T.at__law_same.F.kp T.at__law_same.b (vs_cons (re_call ct.tk (ct.room.mono (by decide)) (ok__law_asked T) T.at__law_asked.g T.at__law_asked.F.kp T.at__law_asked.b (vs_cons re_int (vs_cons (re_var 3) (vs_cons (re_var 6) (vs_cons (re_tup (vs_cons re_int (vs_cons re_int vs_nil))) vs_nil))))) (vs_cons (re_lst (vs_cons re_bl (vs_cons re_bl (vs_cons re_bl (vs_cons (re_tup (vs_cons re_int (vs_cons re_int vs_nil))) vs_nil))))) vs_nil))))) (rss_one (rs_ret re_bl)) rss_nil) (rss_cons (rs_set 5 (by decide) ct.nd (re_bin prim_sub (re_callR 1 ct.tk (ct.room.mono (by decide)) (ok__law_take T) T.at__law_take.g T.at__law_take.F.kp T.at__law_take.b (vs_cons (re_bin prim_pow re_int re_int) vs_nil)) (re_bin prim_mulX re_int (re_bin prim_pow re_int re_int)))) (rss_cons (rs_set 10 (by decide) ct.nd (re_if (rt_cmp (prim_ne ct.room) (re_var 3) re_int) (re_tup (vs_cons (re_bin prim_mod (re_ct prim_int T.b_int PyProof.Rows.boot_int (rs_cons (re_var 5) rs_nil)) (re_var 3)) (vs_cons re_int vs_nil))) (re_tup (vs_cons (re_var 5) (vs_cons re_int vs_nil))))) (rss_cons (rs_if (rt_not (rt_tru (re_call ct.tk (ct.room.mono (by decide)) (ok__law_same T) T.at__law_same.g T.at__law_same.F.kp T.at__law_same.b (vs_cons (re_lst (vs_cons (re_call ct.tk (ct.room.mono (by decide)) (ok_number_of T) T.at_number_of.g T.at_number_of.F.kp T.at_number_of.b (vs_cons (re_var 3) (vs_cons (re_var 5) vs_nil))) (vs_cons (re_callK ct.tk (ct.room.mono (by decide)) (ok_number_of T) T.at_number_of.g T.at_number_of.F.kp (Fun_kwb (ks := ["k", "p"]) (pm := [1, 0]) T.at_number_of.F fun _ _ _ _ _ _ us hl => match us, hl with | [_, _], _ => rfl) (ks_cons (re_var 5) (ks_cons (re_var 3) ks_nil))) vs_nil))) (vs_cons (re_lst (vs_cons (re_var 10) (vs_cons (re_var 10) vs_nil))) vs_nil))))) (rss_one (rs_ret re_bl)) rss_nil) (rss_cons (rs_set 11 (by decide) ct.nd (re_ix prim_ix (re_lst (vs_cons re_non (vs_cons (re_tup (vs_cons re_int vs_nil)) (vs_cons (re_lst (vs_cons re_int (vs_cons re_int vs_nil))) (vs_cons (re_tup (vs_cons re_int (vs_cons re_int vs_nil))) (vs_cons (re_tup (vs_cons re_int (vs_cons re_int vs_nil))) (vs_cons (re_tup (vs_cons re_int (vs_cons (re_un prim_neg re_int) vs_nil))) (vs_cons (re_tup (vs_cons re_bl (vs_cons re_int vs_nil))) (vs_cons (re_tup (vs_cons (re_str [49]) (vs_cons re_int vs_nil))) (vs_cons (re_if (rt_cmp (prim_ne ct.room) (re_var 3) re_int) (re_tup (vs_cons (re_var 3) (vs_cons re_int vs_nil))) (re_tup (vs_cons re_int (vs_cons re_int vs_nil)))) (vs_cons (re_if (rt_cmp (prim_ne ct.room) (re_var 3) re_int) (re_tup (vs_cons (re_un prim_neg re_int) (vs_cons re_int vs_nil))) (re_tup (vs_cons re_int (vs_cons re_int vs_nil)))) (vs_cons re_int vs_nil)))))))))))) (re_callR 1 ct.tk (ct.room.mono (by decide)) (ok__law_take T) T.at__law_take.g T.at__law_take.F.kp T.at__law_take.b (vs_cons re_int vs_nil)))) (rss_cons (rs_if (rt_not (rt_tru (re_call ct.tk (ct.room.mono (by decide)) (ok__law_same T) T.at__law_same.g T.at__law_same.F.kp T.at__law_same.b (vs_cons (re_lst (vs_cons (re_call ct.tk (ct.room.mono (by decide)) (ok_is_number T) T.at_is_number.g T.at_is_number.F.kp T.at_is_number.b (vs_cons (re_var 3) (vs_cons (re_var 6) vs_nil))) (vs_cons (re_callK ct.tk (ct.room.mono (by decide)) (ok_is_number T) T.at_is_number.g T.at_is_number.F.kp (Fun_kwb (ks := ["value", "p"]) (pm := [1, 0]) T.at_is_number.F fun _ _ _ _ _ _ us hl => match us, hl with | [_, _], _ => rfl) (ks_cons (re_var 7) (ks_cons (re_var 3) ks_nil))) (vs_cons (re_call ct.tk (ct.room.mono (by decide)) (ok_is_number T) T.at_is_number.g T.at_is_number.F.kp T.at_is_number.b (vs_cons (re_var 3) (vs_cons (re_var 11) vs_nil))) vs_nil)))) (vs_cons (re_lst (vs_cons re_bl (vs_cons re_bl (vs_cons re_bl vs_nil)))) vs_nil))))) (rss_one (rs_ret re_bl)) rss_nil) (rss_cons (rs_set 12 (by decide) ct.nd (re_callR 1 ct.tk (ct.room.mono (by decide)) (ok__law_take T) T.at__law_take.g T.at__law_take.F.kp T.at__law_take.b (vs_cons re_int vs_nil))) (rss_cons (rs_if (rt_not (rt_tru (re_call ct.tk (ct.room.mono (by decide)) (ok__law_same T) T.at__law_same.g T.at__law_same.F.kp T.at__law_same.b (vs_cons (re_lst (vs_cons (re_call ct.tk (ct.room.mono (by decide)) (ok__law_asked T) T.at__law_asked.g T.at__law_asked.F.kp T.at__law_asked.b (vs_cons (re_var 12) (vs_cons (re_var 3) (vs_cons (re_var 11) (vs_cons (re_var 11) vs_nil))))) (vs_cons (re_call ct.tk (ct.room.mono (by decide)) (ok__law_asked T) T.at__law_asked.g T.at__law_asked.F.kp T.at__law_asked.b (vs_cons (re_var 12) (vs_cons (re_var 3) (vs_cons (re_var 6) (vs_cons (re_var 11) vs_nil))))) vs_nil))) (vs_cons (re_bin prim_mulX (re_lst (vs_cons (re_lst (vs_cons re_bl (vs_cons re_bl (vs_cons re_bl (vs_cons (re_var 11) vs_nil))))) vs_nil)) re_int) vs_nil))))) (rss_one (rs_ret re_bl)) rss_nil) (rss_cons (rs_par2 13 14 (by decide) ct.calm ct.nd (re_ix prim_ix (re_lst (vs_cons re_int (vs_cons re_int (vs_cons re_int (vs_cons re_int (vs_cons re_int (vs_cons (re_un prim_neg re_int) (vs_cons re_non (vs_cons re_bl (vs_cons (re_str [50]) (vs_cons (re_tup (vs_cons re_int vs_nil)) vs_nil))))))))))) (re_callR 1 ct.tk (ct.room.mono (by decide)) (ok__law_take T) T.at__law_take.g T.at__law_take.F.kp T.at__law_take.b (vs_cons re_int vs_nil))) (re_ix prim_ix (re_lst (vs_cons re_non (vs_cons re_bl (vs_cons (re_str [49]) (vs_cons (re_tup (vs_cons re_int vs_nil)) (vs_cons (re_tup (vs_cons re_int (vs_cons re_int vs_nil))) vs_nil)))))) (re_callR 1 ct.tk (ct.room.mono (by decide)) (ok__law_take T) T.at__law_take.g T.at__law_take.F.kp T.at__law_take.b (vs_cons re_int vs_nil)))) (rss_cons (rs_if (rt_not (rt_tru (re_call ct.tk (ct.room.mono (by decide)) (ok__law_same T) T.at__law_same.g T.at__law_same.F.kp T.at__law_same.b (vs_cons (re_call ct.tk (ct.room.mono (by decide)) (ok__law_asked T) T.at__law_asked.g T.at__law_asked.F.kp T.at__law_asked.b (vs_cons (re_var 12) (vs_cons (re_var 13) (vs_cons (re_var 11) (vs_cons (re_var 11) vs_nil))))) (vs_cons (re_lst (vs_cons re_bl (vs_cons re_bl (vs_cons re_bl (vs_cons (re_var 13) vs_nil))))) vs_nil))))) (rss_one (rs_ret re_bl)) rss_nil) (rss_one (rs_if (rt_not (rt_tru (re_call ct.tk (ct.room.mono (by decide)) (ok__law_same T) T.at__law_same.g T.at__law_same.F.kp T.at__law_same.b (vs_cons (re_lst (vs_cons (re_call ct.tk (ct.room.mono (by decide)) (ok__law_asked T) T.at__law_asked.g T.at__law_asked.F.kp T.at__law_asked.b (vs_cons re_int (vs_cons (re_var 13) (vs_cons re_int (vs_cons re_int vs_nil))))) (vs_cons (re_call ct.tk (ct.room.mono (by decide)) (ok__law_asked T) T.at__law_asked.g T.at__law_asked.F.kp T.at__law_asked.b (vs_cons re_int (vs_cons (re_var 3) (vs_cons (re_var 14) (vs_cons re_int vs_nil))))) vs_nil))) (vs_cons (re_lst (vs_cons (re_lst (vs_cons re_bl (vs_cons re_bl (vs_cons re_bl (vs_cons (re_var 13) vs_nil))))) (vs_cons (re_lst (vs_cons re_bl (vs_cons re_bl (vs_cons re_bl (vs_cons (re_var 14) vs_nil))))) vs_nil))) vs_nil))))) (rss_one (rs_ret re_bl)) rss_nil)))))))))))))))))))) (rss_one (rs_ret re_bl)))))
end
theorem all_mk {P : Program} {w : World} {K : PySem.W.Frag} {h : Heap} {mg : Str → Option Value} {fa : Addr} (X : K.In h) (G : h.Ns mainGlobals mg) (hfa : mg "law" = some (.ref fa))
    {f7 f8 f9 f10 f14 f25 f11 f15 f16 f21 f12 f13 f19 f24 f17 f22 f18 f23 f33 f27 f32 f29 f30 f28 f31 f20 f34 : Addr}
    (a7 : PySem.W.nsIn K mainGlobals "is_integer" = some (some (.ref f7))) {oc7 : Value} {od7 an7 : Option Addr} {sl7 : Array (Option Value)} {kV7 dc7 pm7 cd7 ct7 : Value}
    (l7 : K.lookup f7 = some ⟨oc7, od7, .func (PySem.W.fnOf "is_integer" "is_integer" (defArgs (topS 7)) (defBody (topS 7)) (defScope (topS 7)) .none kV7 dc7 pm7 an7 cd7 ct7), sl7⟩) (c7 : PySem.W.codeIn K cd7 "is_integer" = true) (k7 : PySem.W.keepIn K (.ref f7) = true)
    (a8 : PySem.W.nsIn K mainGlobals "is_natural" = some (some (.ref f8))) {oc8 : Value} {od8 an8 : Option Addr} {sl8 : Array (Option Value)} {kV8 dc8 pm8 cd8 ct8 : Value}
    (l8 : K.lookup f8 = some ⟨oc8, od8, .func (PySem.W.fnOf "is_natural" "is_natural" (defArgs (topS 8)) (defBody (topS 8)) (defScope (topS 8)) .none kV8 dc8 pm8 an8 cd8 ct8), sl8⟩) (c8 : PySem.W.codeIn K cd8 "is_natural" = true) (k8 : PySem.W.keepIn K (.ref f8) = true)
    (a9 : PySem.W.nsIn K mainGlobals "is_field" = some (some (.ref f9))) {oc9 : Value} {od9 an9 : Option Addr} {sl9 : Array (Option Value)} {kV9 dc9 pm9 cd9 ct9 : Value}
    (l9 : K.lookup f9 = some ⟨oc9, od9, .func (PySem.W.fnOf "is_field" "is_field" (defArgs (topS 9)) (defBody (topS 9)) (defScope (topS 9)) .none kV9 dc9 pm9 an9 cd9 ct9), sl9⟩) (c9 : PySem.W.codeIn K cd9 "is_field" = true) (k9 : PySem.W.keepIn K (.ref f9) = true)
    (a10 : PySem.W.nsIn K mainGlobals "check_field" = some (some (.ref f10))) {oc10 : Value} {od10 an10 : Option Addr} {sl10 : Array (Option Value)} {kV10 dc10 pm10 cd10 ct10 : Value}
    (l10 : K.lookup f10 = some ⟨oc10, od10, .func (PySem.W.fnOf "check_field" "check_field" (defArgs (topS 10)) (defBody (topS 10)) (defScope (topS 10)) .none kV10 dc10 pm10 an10 cd10 ct10), sl10⟩) (c10 : PySem.W.codeIn K cd10 "check_field" = true) (k10 : PySem.W.keepIn K (.ref f10) = true)
    (a14 : PySem.W.nsIn K mainGlobals "number_by" = some (some (.ref f14))) {oc14 : Value} {od14 an14 : Option Addr} {sl14 : Array (Option Value)} {kV14 dc14 pm14 cd14 ct14 : Value}
    (l14 : K.lookup f14 = some ⟨oc14, od14, .func (PySem.W.fnOf "number_by" "number_by" (defArgs (topS 14)) (defBody (topS 14)) (defScope (topS 14)) .none kV14 dc14 pm14 an14 cd14 ct14), sl14⟩) (c14 : PySem.W.codeIn K cd14 "number_by" = true) (k14 : PySem.W.keepIn K (.ref f14) = true)
    (a25 : PySem.W.nsIn K mainGlobals "number_of" = some (some (.ref f25))) {oc25 : Value} {od25 an25 : Option Addr} {sl25 : Array (Option Value)} {kV25 dc25 pm25 cd25 ct25 : Value}
    (l25 : K.lookup f25 = some ⟨oc25, od25, .func (PySem.W.fnOf "number_of" "number_of" (defArgs (topS 25)) (defBody (topS 25)) (defScope (topS 25)) .none kV25 dc25 pm25 an25 cd25 ct25), sl25⟩) (c25 : PySem.W.codeIn K cd25 "number_of" = true) (k25 : PySem.W.keepIn K (.ref f25) = true)
    (a11 : PySem.W.nsIn K mainGlobals "greatest_divisor" = some (some (.ref f11))) {oc11 : Value} {od11 an11 : Option Addr} {sl11 : Array (Option Value)} {kV11 dc11 pm11 cd11 ct11 : Value}
    (l11 : K.lookup f11 = some ⟨oc11, od11, .func (PySem.W.fnOf "greatest_divisor" "greatest_divisor" (defArgs (topS 11)) (defBody (topS 11)) (defScope (topS 11)) .none kV11 dc11 pm11 an11 cd11 ct11), sl11⟩) (c11 : PySem.W.codeIn K cd11 "greatest_divisor" = true) (k11 : PySem.W.keepIn K (.ref f11) = true)
    (a15 : PySem.W.nsIn K mainGlobals "is_number_of" = some (some (.ref f15))) {oc15 : Value} {od15 an15 : Option Addr} {sl15 : Array (Option Value)} {kV15 dc15 pm15 cd15 ct15 : Value}
    (l15 : K.lookup f15 = some ⟨oc15, od15, .func (PySem.W.fnOf "is_number_of" "is_number_of" (defArgs (topS 15)) (defBody (topS 15)) (defScope (topS 15)) .none kV15 dc15 pm15 an15 cd15 ct15), sl15⟩) (c15 : PySem.W.codeIn K cd15 "is_number_of" = true) (k15 : PySem.W.keepIn K (.ref f15) = true)
    (a16 : PySem.W.nsIn K mainGlobals "check_number" = some (some (.ref f16))) {oc16 : Value} {od16 an16 : Option Addr} {sl16 : Array (Option Value)} {kV16 dc16 pm16 cd16 ct16 : Value}
    (l16 : K.lookup f16 = some ⟨oc16, od16, .func (PySem.W.fnOf "check_number" "check_number" (defArgs (topS 16)) (defBody (topS 16)) (defScope (topS 16)) .none kV16 dc16 pm16 an16 cd16 ct16), sl16⟩) (c16 : PySem.W.codeIn K cd16 "check_number" = true) (k16 : PySem.W.keepIn K (.ref f16) = true)
    (a21 : PySem.W.nsIn K mainGlobals "check_two_numbers" = some (some (.ref f21))) {oc21 : Value} {od21 an21 : Option Addr} {sl21 : Array (Option Value)} {kV21 dc21 pm21 cd21 ct21 : Value}
    (l21 : K.lookup f21 = some ⟨oc21, od21, .func (PySem.W.fnOf "check_two_numbers" "check_two_numbers" (defArgs (topS 21)) (defBody (topS 21)) (defScope (topS 21)) .none kV21 dc21 pm21 an21 cd21 ct21), sl21⟩) (c21 : PySem.W.codeIn K cd21 "check_two_numbers" = true) (k21 : PySem.W.keepIn K (.ref f21) = true)
    (a12 : PySem.W.nsIn K mainGlobals "undone" = some (some (.ref f12))) {oc12 : Value} {od12 an12 : Option Addr} {sl12 : Array (Option Value)} {kV12 dc12 pm12 cd12 ct12 : Value}
    (l12 : K.lookup f12 = some ⟨oc12, od12, .func (PySem.W.fnOf "undone" "undone" (defArgs (topS 12)) (defBody (topS 12)) (defScope (topS 12)) .none kV12 dc12 pm12 an12 cd12 ct12), sl12⟩) (c12 : PySem.W.codeIn K cd12 "undone" = true) (k12 : PySem.W.keepIn K (.ref f12) = true)
    (a13 : PySem.W.nsIn K mainGlobals "lowest" = some (some (.ref f13))) {oc13 : Value} {od13 an13 : Option Addr} {sl13 : Array (Option Value)} {kV13 dc13 pm13 cd13 ct13 : Value}
    (l13 : K.lookup f13 = some ⟨oc13, od13, .func (PySem.W.fnOf "lowest" "lowest" (defArgs (topS 13)) (defBody (topS 13)) (defScope (topS 13)) .none kV13 dc13 pm13 an13 cd13 ct13), sl13⟩) (c13 : PySem.W.codeIn K cd13 "lowest" = true) (k13 : PySem.W.keepIn K (.ref f13) = true)
    (a19 : PySem.W.nsIn K mainGlobals "over_of" = some (some (.ref f19))) {oc19 : Value} {od19 an19 : Option Addr} {sl19 : Array (Option Value)} {kV19 dc19 pm19 cd19 ct19 : Value}
    (l19 : K.lookup f19 = some ⟨oc19, od19, .func (PySem.W.fnOf "over_of" "over_of" (defArgs (topS 19)) (defBody (topS 19)) (defScope (topS 19)) .none kV19 dc19 pm19 an19 cd19 ct19), sl19⟩) (c19 : PySem.W.codeIn K cd19 "over_of" = true) (k19 : PySem.W.keepIn K (.ref f19) = true)
    (a24 : PySem.W.nsIn K mainGlobals "over" = some (some (.ref f24))) {oc24 : Value} {od24 an24 : Option Addr} {sl24 : Array (Option Value)} {kV24 dc24 pm24 cd24 ct24 : Value}
    (l24 : K.lookup f24 = some ⟨oc24, od24, .func (PySem.W.fnOf "over" "over" (defArgs (topS 24)) (defBody (topS 24)) (defScope (topS 24)) .none kV24 dc24 pm24 an24 cd24 ct24), sl24⟩) (c24 : PySem.W.codeIn K cd24 "over" = true) (k24 : PySem.W.keepIn K (.ref f24) = true)
    (a17 : PySem.W.nsIn K mainGlobals "plus_of" = some (some (.ref f17))) {oc17 : Value} {od17 an17 : Option Addr} {sl17 : Array (Option Value)} {kV17 dc17 pm17 cd17 ct17 : Value}
    (l17 : K.lookup f17 = some ⟨oc17, od17, .func (PySem.W.fnOf "plus_of" "plus_of" (defArgs (topS 17)) (defBody (topS 17)) (defScope (topS 17)) .none kV17 dc17 pm17 an17 cd17 ct17), sl17⟩) (c17 : PySem.W.codeIn K cd17 "plus_of" = true) (k17 : PySem.W.keepIn K (.ref f17) = true)
    (a22 : PySem.W.nsIn K mainGlobals "plus" = some (some (.ref f22))) {oc22 : Value} {od22 an22 : Option Addr} {sl22 : Array (Option Value)} {kV22 dc22 pm22 cd22 ct22 : Value}
    (l22 : K.lookup f22 = some ⟨oc22, od22, .func (PySem.W.fnOf "plus" "plus" (defArgs (topS 22)) (defBody (topS 22)) (defScope (topS 22)) .none kV22 dc22 pm22 an22 cd22 ct22), sl22⟩) (c22 : PySem.W.codeIn K cd22 "plus" = true) (k22 : PySem.W.keepIn K (.ref f22) = true)
    (a18 : PySem.W.nsIn K mainGlobals "times_of" = some (some (.ref f18))) {oc18 : Value} {od18 an18 : Option Addr} {sl18 : Array (Option Value)} {kV18 dc18 pm18 cd18 ct18 : Value}
    (l18 : K.lookup f18 = some ⟨oc18, od18, .func (PySem.W.fnOf "times_of" "times_of" (defArgs (topS 18)) (defBody (topS 18)) (defScope (topS 18)) .none kV18 dc18 pm18 an18 cd18 ct18), sl18⟩) (c18 : PySem.W.codeIn K cd18 "times_of" = true) (k18 : PySem.W.keepIn K (.ref f18) = true)
    (a23 : PySem.W.nsIn K mainGlobals "times" = some (some (.ref f23))) {oc23 : Value} {od23 an23 : Option Addr} {sl23 : Array (Option Value)} {kV23 dc23 pm23 cd23 ct23 : Value}
    (l23 : K.lookup f23 = some ⟨oc23, od23, .func (PySem.W.fnOf "times" "times" (defArgs (topS 23)) (defBody (topS 23)) (defScope (topS 23)) .none kV23 dc23 pm23 an23 cd23 ct23), sl23⟩) (c23 : PySem.W.codeIn K cd23 "times" = true) (k23 : PySem.W.keepIn K (.ref f23) = true)
    (a33 : PySem.W.nsIn K mainGlobals "_law_asked" = some (some (.ref f33))) {oc33 : Value} {od33 an33 : Option Addr} {sl33 : Array (Option Value)} {kV33 dc33 pm33 cd33 ct33 : Value}
    (l33 : K.lookup f33 = some ⟨oc33, od33, .func (PySem.W.fnOf "_law_asked" "_law_asked" (defArgs (topS 33)) (defBody (topS 33)) (defScope (topS 33)) .none kV33 dc33 pm33 an33 cd33 ct33), sl33⟩) (c33 : PySem.W.codeIn K cd33 "_law_asked" = true) (k33 : PySem.W.keepIn K (.ref f33) = true)
    (a27 : PySem.W.nsIn K mainGlobals "_law_take" = some (some (.ref f27))) {oc27 : Value} {od27 an27 : Option Addr} {sl27 : Array (Option Value)} {kV27 dc27 pm27 cd27 ct27 : Value}
    (l27 : K.lookup f27 = some ⟨oc27, od27, .func (PySem.W.fnOf "_law_take" "_law_take" (defArgs (topS 27)) (defBody (topS 27)) (defScope (topS 27)) .none kV27 dc27 pm27 an27 cd27 ct27), sl27⟩) (c27 : PySem.W.codeIn K cd27 "_law_take" = true) (k27 : PySem.W.keepIn K (.ref f27) = true)
    (a32 : PySem.W.nsIn K mainGlobals "_law_field" = some (some (.ref f32))) {oc32 : Value} {od32 an32 : Option Addr} {sl32 : Array (Option Value)} {kV32 dc32 pm32 cd32 ct32 : Value}
    (l32 : K.lookup f32 = some ⟨oc32, od32, .func (PySem.W.fnOf "_law_field" "_law_field" (defArgs (topS 32)) (defBody (topS 32)) (defScope (topS 32)) .none kV32 dc32 pm32 an32 cd32 ct32), sl32⟩) (c32 : PySem.W.codeIn K cd32 "_law_field" = true) (k32 : PySem.W.keepIn K (.ref f32) = true)
    (a29 : PySem.W.nsIn K mainGlobals "_law_num" = some (some (.ref f29))) {oc29 : Value} {od29 an29 : Option Addr} {sl29 : Array (Option Value)} {kV29 dc29 pm29 cd29 ct29 : Value}
    (l29 : K.lookup f29 = some ⟨oc29, od29, .func (PySem.W.fnOf "_law_num" "_law_num" (defArgs (topS 29)) (defBody (topS 29)) (defScope (topS 29)) .none kV29 dc29 pm29 an29 cd29 ct29), sl29⟩) (c29 : PySem.W.codeIn K cd29 "_law_num" = true) (k29 : PySem.W.keepIn K (.ref f29) = true)
    (a30 : PySem.W.nsIn K mainGlobals "_law_plus" = some (some (.ref f30))) {oc30 : Value} {od30 an30 : Option Addr} {sl30 : Array (Option Value)} {kV30 dc30 pm30 cd30 ct30 : Value}
    (l30 : K.lookup f30 = some ⟨oc30, od30, .func (PySem.W.fnOf "_law_plus" "_law_plus" (defArgs (topS 30)) (defBody (topS 30)) (defScope (topS 30)) .none kV30 dc30 pm30 an30 cd30 ct30), sl30⟩) (c30 : PySem.W.codeIn K cd30 "_law_plus" = true) (k30 : PySem.W.keepIn K (.ref f30) = true)
    (a28 : PySem.W.nsIn K mainGlobals "_law_same" = some (some (.ref f28))) {oc28 : Value} {od28 an28 : Option Addr} {sl28 : Array (Option Value)} {kV28 dc28 pm28 cd28 ct28 : Value}
    (l28 : K.lookup f28 = some ⟨oc28, od28, .func (PySem.W.fnOf "_law_same" "_law_same" (defArgs (topS 28)) (defBody (topS 28)) (defScope (topS 28)) .none kV28 dc28 pm28 an28 cd28 ct28), sl28⟩) (c28 : PySem.W.codeIn K cd28 "_law_same" = true) (k28 : PySem.W.keepIn K (.ref f28) = true)
    (a31 : PySem.W.nsIn K mainGlobals "_law_times" = some (some (.ref f31))) {oc31 : Value} {od31 an31 : Option Addr} {sl31 : Array (Option Value)} {kV31 dc31 pm31 cd31 ct31 : Value}
    (l31 : K.lookup f31 = some ⟨oc31, od31, .func (PySem.W.fnOf "_law_times" "_law_times" (defArgs (topS 31)) (defBody (topS 31)) (defScope (topS 31)) .none kV31 dc31 pm31 an31 cd31 ct31), sl31⟩) (c31 : PySem.W.codeIn K cd31 "_law_times" = true) (k31 : PySem.W.keepIn K (.ref f31) = true)
    (a20 : PySem.W.nsIn K mainGlobals "is_number" = some (some (.ref f20))) {oc20 : Value} {od20 an20 : Option Addr} {sl20 : Array (Option Value)} {kV20 dc20 pm20 cd20 ct20 : Value}
    (l20 : K.lookup f20 = some ⟨oc20, od20, .func (PySem.W.fnOf "is_number" "is_number" (defArgs (topS 20)) (defBody (topS 20)) (defScope (topS 20)) .none kV20 dc20 pm20 an20 cd20 ct20), sl20⟩) (c20 : PySem.W.codeIn K cd20 "is_number" = true) (k20 : PySem.W.keepIn K (.ref f20) = true)
    (a34 : PySem.W.nsIn K mainGlobals "law" = some (some (.ref f34))) {oc34 : Value} {od34 an34 : Option Addr} {sl34 : Array (Option Value)} {kV34 dc34 pm34 cd34 ct34 : Value}
    (l34 : K.lookup f34 = some ⟨oc34, od34, .func (PySem.W.fnOf "law" "law" (defArgs (topS 34)) (defBody (topS 34)) (defScope (topS 34)) .none kV34 dc34 pm34 an34 cd34 ct34), sl34⟩) (c34 : PySem.W.codeIn K cd34 "law" = true) (k34 : PySem.W.keepIn K (.ref f34) = true)
    {t_LARGEST : Tok} (g_LARGEST : PySem.W.nsIn K mainGlobals "LARGEST" = some (some (Value.int 99 t_LARGEST)))
    (z_abs : PySem.W.nsIn K mainGlobals "abs" = some none)
    (z_all : PySem.W.nsIn K mainGlobals "all" = some none)
    (z_bool : PySem.W.nsIn K mainGlobals "bool" = some none)
    (z_int : PySem.W.nsIn K mainGlobals "int" = some none)
    (z_isinstance : PySem.W.nsIn K mainGlobals "isinstance" = some none)
    (z_len : PySem.W.nsIn K mainGlobals "len" = some none)
    (z_list : PySem.W.nsIn K mainGlobals "list" = some none)
    (z_range : PySem.W.nsIn K mainGlobals "range" = some none)
    (z_str : PySem.W.nsIn K mainGlobals "str" = some none)
    (z_tuple : PySem.W.nsIn K mainGlobals "tuple" = some none)
    {X_OverlapsError : Addr} (xa_OverlapsError : PySem.W.nsIn K mainGlobals "OverlapsError" = some (some (.ref X_OverlapsError))) (xn_OverlapsError : clsNm K X_OverlapsError = some "OverlapsError")
    {X_InvalidField : Addr} (xa_InvalidField : PySem.W.nsIn K mainGlobals "InvalidField" = some (some (.ref X_InvalidField))) (xn_InvalidField : clsNm K X_InvalidField = some "InvalidField")
    {X_InvalidInteger : Addr} (xa_InvalidInteger : PySem.W.nsIn K mainGlobals "InvalidInteger" = some (some (.ref X_InvalidInteger))) (xn_InvalidInteger : clsNm K X_InvalidInteger = some "InvalidInteger")
    {X_InvalidNumber : Addr} (xa_InvalidNumber : PySem.W.nsIn K mainGlobals "InvalidNumber" = some (some (.ref X_InvalidNumber))) (xn_InvalidNumber : clsNm K X_InvalidNumber = some "InvalidNumber")
    {xI : Addr} (xi : PySem.W.findIn K (.ref X_OverlapsError) "__init__" = some (some (.ref xI))) {xoc xkV xdc xpm xct : Value} {xod xan : Option Addr} {xsl : Array (Option Value)} {xcda xcc : Addr}
    (xl : K.lookup xI = some ⟨xoc, xod, .func (PySem.W.ksFn "__init__" "OverlapsError.__init__" (defArgs (clsInit (topS 1))) (defBody (clsInit (topS 1))) (defScope (clsInit (topS 1))) .none xkV xdc xpm xan (.ref xcda) xct xcc), xsl⟩) (xcode : PySem.W.codeIn K (.ref xcda) "OverlapsError.__init__" = true) {xccl : Value} {xcdd : Option Addr} {xvs : Array Value} {xccs : Array (Option Value)} {xfile : Str} {xtf : Tok}
    (xfl : K.lookup xcda = some ⟨xccl, xcdd, .fields xvs, xccs⟩) (xv2 : xvs[2]? = some (.str xfile xtf)) (xff : ((P.main.file : Str) == xfile) = true) {xcl : Value} {xcld : Option Addr} {xcsl : Array (Option Value)}
    (xcell : K.lookup xcc = some ⟨xcl, xcld, .cell (some (.ref X_OverlapsError)), xcsl⟩) (xcls : (PySem.W.clsIn K X_OverlapsError).isSome = true) (xany : PySem.W.nsIn K cStatics "thirdparty.any" = some none) (xtop : (P.main.scope.names.lookup ("super" : Str)).isSome = false)
    (xsup : PySem.W.nsIn K mainGlobals "super" = some none) (xtI : PySem.W.typeIn K (.ref xI) = some (.type "function")) (xsp : PySem.W.specialIn K (.builtin "object.__class__") "__get__" = some (some (.builtin "getset_descriptor.__get__"))) (xtk : PySem.W.takesIn K (.builtin "object.__class__") = some true)
    (x1 : xnB K [("OverlapsError", X_OverlapsError), ("InvalidField", X_InvalidField), ("InvalidInteger", X_InvalidInteger), ("InvalidNumber", X_InvalidNumber)] = true) (x2 : (List.all [("OverlapsError", X_OverlapsError), ("InvalidField", X_InvalidField), ("InvalidInteger", X_InvalidInteger), ("InvalidNumber", X_InvalidNumber)] fun p => xcB K X_OverlapsError xI p.2) = true) (x3 : xpB K [("OverlapsError", X_OverlapsError), ("InvalidField", X_InvalidField), ("InvalidInteger", X_InvalidInteger), ("InvalidNumber", X_InvalidNumber)] = true)
    : ∃ fd : FuncData, (∀ (s : Shared) (v : Value), BindsTo s fd ⟨[v], []⟩ [("script", v)]) ∧ ∀ base : Heap, K.In base → base.Ns mainGlobals mg → FnOk P w K mg base (L2.CX P w) 8 fa fd ["script"] (spL K 15 m_law) := by
  have e := hfa.symm.trans (PySem.W.mg_of X G a34)
  cases e
  have A7 := FnAt.mk' (st := topS 7) (ps := ["value"]) l7 c7 k7 (PySem.W.mg_of X G a7) fun _ _ _ _ _ _ us hl => match us, hl with | [_], _ => rfl
  have A8 := FnAt.mk' (st := topS 8) (ps := ["value"]) l8 c8 k8 (PySem.W.mg_of X G a8) fun _ _ _ _ _ _ us hl => match us, hl with | [_], _ => rfl
  have A9 := FnAt.mk' (st := topS 9) (ps := ["value"]) l9 c9 k9 (PySem.W.mg_of X G a9) fun _ _ _ _ _ _ us hl => match us, hl with | [_], _ => rfl
  have A10 := FnAt.mk' (st := topS 10) (ps := ["p"]) l10 c10 k10 (PySem.W.mg_of X G a10) fun _ _ _ _ _ _ us hl => match us, hl with | [_], _ => rfl
  have A14 := FnAt.mk' (st := topS 14) (ps := ["p", "k"]) l14 c14 k14 (PySem.W.mg_of X G a14) fun _ _ _ _ _ _ us hl => match us, hl with | [_, _], _ => rfl
  have A25 := FnAt.mk' (st := topS 25) (ps := ["p", "k"]) l25 c25 k25 (PySem.W.mg_of X G a25) fun _ _ _ _ _ _ us hl => match us, hl with | [_, _], _ => rfl
  have A11 := FnAt.mk' (st := topS 11) (ps := ["one", "other"]) l11 c11 k11 (PySem.W.mg_of X G a11) fun _ _ _ _ _ _ us hl => match us, hl with | [_, _], _ => rfl
  have A15 := FnAt.mk' (st := topS 15) (ps := ["p", "value"]) l15 c15 k15 (PySem.W.mg_of X G a15) fun _ _ _ _ _ _ us hl => match us, hl with | [_, _], _ => rfl
  have A16 := FnAt.mk' (st := topS 16) (ps := ["p", "number"]) l16 c16 k16 (PySem.W.mg_of X G a16) fun _ _ _ _ _ _ us hl => match us, hl with | [_, _], _ => rfl
  have A21 := FnAt.mk' (st := topS 21) (ps := ["p", "number", "second_number"]) l21 c21 k21 (PySem.W.mg_of X G a21) fun _ _ _ _ _ _ us hl => match us, hl with | [_, _, _], _ => rfl
  have A12 := FnAt.mk' (st := topS 12) (ps := ["a", "p"]) l12 c12 k12 (PySem.W.mg_of X G a12) fun _ _ _ _ _ _ us hl => match us, hl with | [_, _], _ => rfl
  have A13 := FnAt.mk' (st := topS 13) (ps := ["p", "a", "b"]) l13 c13 k13 (PySem.W.mg_of X G a13) fun _ _ _ _ _ _ us hl => match us, hl with | [_, _, _], _ => rfl
  have A19 := FnAt.mk' (st := topS 19) (ps := ["p", "one", "other"]) l19 c19 k19 (PySem.W.mg_of X G a19) fun _ _ _ _ _ _ us hl => match us, hl with | [_, _, _], _ => rfl
  have A24 := FnAt.mk' (st := topS 24) (ps := ["p", "number", "second_number"]) l24 c24 k24 (PySem.W.mg_of X G a24) fun _ _ _ _ _ _ us hl => match us, hl with | [_, _, _], _ => rfl
  have A17 := FnAt.mk' (st := topS 17) (ps := ["p", "one", "other"]) l17 c17 k17 (PySem.W.mg_of X G a17) fun _ _ _ _ _ _ us hl => match us, hl with | [_, _, _], _ => rfl
  have A22 := FnAt.mk' (st := topS 22) (ps := ["p", "number", "second_number"]) l22 c22 k22 (PySem.W.mg_of X G a22) fun _ _ _ _ _ _ us hl => match us, hl with | [_, _, _], _ => rfl
  have A18 := FnAt.mk' (st := topS 18) (ps := ["p", "one", "other"]) l18 c18 k18 (PySem.W.mg_of X G a18) fun _ _ _ _ _ _ us hl => match us, hl with | [_, _, _], _ => rfl
  have A23 := FnAt.mk' (st := topS 23) (ps := ["p", "number", "second_number"]) l23 c23 k23 (PySem.W.mg_of X G a23) fun _ _ _ _ _ _ us hl => match us, hl with | [_, _, _], _ => rfl
  have A33 := FnAt.mk' (st := topS 33) (ps := ["which", "p", "one", "other"]) l33 c33 k33 (PySem.W.mg_of X G a33) fun _ _ _ _ _ _ us hl => match us, hl with | [_, _, _, _], _ => rfl
  have A27 := FnAt.mk' (st := topS 27) (ps := ["pot", "many"]) l27 c27 k27 (PySem.W.mg_of X G a27) fun _ _ _ _ _ _ us hl => match us, hl with | [_, _], _ => rfl
  have A32 := FnAt.mk' (st := topS 32) (ps := ["pot"]) l32 c32 k32 (PySem.W.mg_of X G a32) fun _ _ _ _ _ _ us hl => match us, hl with | [_], _ => rfl
  have A29 := FnAt.mk' (st := topS 29) (ps := ["p", "a", "b"]) l29 c29 k29 (PySem.W.mg_of X G a29) fun _ _ _ _ _ _ us hl => match us, hl with | [_, _, _], _ => rfl
  have A30 := FnAt.mk' (st := topS 30) (ps := ["p", "one", "other"]) l30 c30 k30 (PySem.W.mg_of X G a30) fun _ _ _ _ _ _ us hl => match us, hl with | [_, _, _], _ => rfl
  have A28 := FnAt.mk' (st := topS 28) (ps := ["got", "due"]) l28 c28 k28 (PySem.W.mg_of X G a28) fun _ _ _ _ _ _ us hl => match us, hl with | [_, _], _ => rfl
  have A31 := FnAt.mk' (st := topS 31) (ps := ["p", "one", "other"]) l31 c31 k31 (PySem.W.mg_of X G a31) fun _ _ _ _ _ _ us hl => match us, hl with | [_, _, _], _ => rfl
  have A20 := FnAt.mk' (st := topS 20) (ps := ["p", "value"]) l20 c20 k20 (PySem.W.mg_of X G a20) fun _ _ _ _ _ _ us hl => match us, hl with | [_, _], _ => rfl
  have A34 := FnAt.mk' (st := topS 34) (ps := ["script"]) l34 c34 k34 (PySem.W.mg_of X G a34) fun _ _ _ _ _ _ us hl => match us, hl with | [_], _ => rfl
  have xk : ∀ base : Heap, XK P w K mg base X_OverlapsError xI (PySem.W.ksFn "__init__" "OverlapsError.__init__" (defArgs (clsInit (topS 1))) (defBody (clsInit (topS 1))) (defScope (clsInit (topS 1))) .none xkV xdc xpm xan (.ref xcda) xct xcc) xNames := fun base => xk_of [("OverlapsError", X_OverlapsError), ("InvalidField", X_InvalidField), ("InvalidInteger", X_InvalidInteger), ("InvalidNumber", X_InvalidNumber)]
    (init_ok (k := 0) (pl := _) ⟨⟨_, _, _, xl⟩, xcode, ⟨_, _, _, _, _, _, xfl, xv2, xff⟩, ⟨_, _, _, xcell⟩, cls_any xcls, xany, xtop⟩ ⟨fun _ => rfl, fun _ => rfl, fun _ => rfl⟩ (PySem.W.mg_none_of X G xsup) (by decide) rfl rfl rfl rfl ⟨_, rfl, rfl⟩)
    (Binds.all fun us hl => match us, hl with | [_, _], _ => rfl) (fun _ _ _ => .of_eq rfl) xtI xsp xtk x1 x2 x3
  have T : ∀ base : Heap, Txt P w K mg base (pick 0 [(7, f7), (8, f8), (9, f9), (10, f10), (14, f14), (25, f25), (11, f11), (15, f15), (16, f16), (21, f21), (12, f12), (13, f13), (19, f19), (24, f24), (17, f17), (22, f22), (18, f18), (23, f23), (33, f33), (27, f27), (32, f32), (29, f29), (30, f30), (28, f28), (31, f31), (20, f20), (34, fa)]) (pick (PySem.W.fnOf "law" "law" (defArgs (topS 34)) (defBody (topS 34)) (defScope (topS 34)) .none kV34 dc34 pm34 an34 cd34 ct34) [(7, PySem.W.fnOf "is_integer" "is_integer" (defArgs (topS 7)) (defBody (topS 7)) (defScope (topS 7)) .none kV7 dc7 pm7 an7 cd7 ct7), (8, PySem.W.fnOf "is_natural" "is_natural" (defArgs (topS 8)) (defBody (topS 8)) (defScope (topS 8)) .none kV8 dc8 pm8 an8 cd8 ct8), (9, PySem.W.fnOf "is_field" "is_field" (defArgs (topS 9)) (defBody (topS 9)) (defScope (topS 9)) .none kV9 dc9 pm9 an9 cd9 ct9), (10, PySem.W.fnOf "check_field" "check_field" (defArgs (topS 10)) (defBody (topS 10)) (defScope (topS 10)) .none kV10 dc10 pm10 an10 cd10 ct10), (14, PySem.W.fnOf "number_by" "number_by" (defArgs (topS 14)) (defBody (topS 14)) (defScope (topS 14)) .none kV14 dc14 pm14 an14 cd14 ct14), (25, PySem.W.fnOf "number_of" "number_of" (defArgs (topS 25)) (defBody (topS 25)) (defScope (topS 25)) .none kV25 dc25 pm25 an25 cd25 ct25), (11, PySem.W.fnOf "greatest_divisor" "greatest_divisor" (defArgs (topS 11)) (defBody (topS 11)) (defScope (topS 11)) .none kV11 dc11 pm11 an11 cd11 ct11), (15, PySem.W.fnOf "is_number_of" "is_number_of" (defArgs (topS 15)) (defBody (topS 15)) (defScope (topS 15)) .none kV15 dc15 pm15 an15 cd15 ct15), (16, PySem.W.fnOf "check_number" "check_number" (defArgs (topS 16)) (defBody (topS 16)) (defScope (topS 16)) .none kV16 dc16 pm16 an16 cd16 ct16), (21, PySem.W.fnOf "check_two_numbers" "check_two_numbers" (defArgs (topS 21)) (defBody (topS 21)) (defScope (topS 21)) .none kV21 dc21 pm21 an21 cd21 ct21), (12, PySem.W.fnOf "undone" "undone" (defArgs (topS 12)) (defBody (topS 12)) (defScope (topS 12)) .none kV12 dc12 pm12 an12 cd12 ct12), (13, PySem.W.fnOf "lowest" "lowest" (defArgs (topS 13)) (defBody (topS 13)) (defScope (topS 13)) .none kV13 dc13 pm13 an13 cd13 ct13), (19, PySem.W.fnOf "over_of" "over_of" (defArgs (topS 19)) (defBody (topS 19)) (defScope (topS 19)) .none kV19 dc19 pm19 an19 cd19 ct19), (24, PySem.W.fnOf "over" "over" (defArgs (topS 24)) (defBody (topS 24)) (defScope (topS 24)) .none kV24 dc24 pm24 an24 cd24 ct24), (17, PySem.W.fnOf "plus_of" "plus_of" (defArgs (topS 17)) (defBody (topS 17)) (defScope (topS 17)) .none kV17 dc17 pm17 an17 cd17 ct17), (22, PySem.W.fnOf "plus" "plus" (defArgs (topS 22)) (defBody (topS 22)) (defScope (topS 22)) .none kV22 dc22 pm22 an22 cd22 ct22), (18, PySem.W.fnOf "times_of" "times_of" (defArgs (topS 18)) (defBody (topS 18)) (defScope (topS 18)) .none kV18 dc18 pm18 an18 cd18 ct18), (23, PySem.W.fnOf "times" "times" (defArgs (topS 23)) (defBody (topS 23)) (defScope (topS 23)) .none kV23 dc23 pm23 an23 cd23 ct23), (33, PySem.W.fnOf "_law_asked" "_law_asked" (defArgs (topS 33)) (defBody (topS 33)) (defScope (topS 33)) .none kV33 dc33 pm33 an33 cd33 ct33), (27, PySem.W.fnOf "_law_take" "_law_take" (defArgs (topS 27)) (defBody (topS 27)) (defScope (topS 27)) .none kV27 dc27 pm27 an27 cd27 ct27), (32, PySem.W.fnOf "_law_field" "_law_field" (defArgs (topS 32)) (defBody (topS 32)) (defScope (topS 32)) .none kV32 dc32 pm32 an32 cd32 ct32), (29, PySem.W.fnOf "_law_num" "_law_num" (defArgs (topS 29)) (defBody (topS 29)) (defScope (topS 29)) .none kV29 dc29 pm29 an29 cd29 ct29), (30, PySem.W.fnOf "_law_plus" "_law_plus" (defArgs (topS 30)) (defBody (topS 30)) (defScope (topS 30)) .none kV30 dc30 pm30 an30 cd30 ct30), (28, PySem.W.fnOf "_law_same" "_law_same" (defArgs (topS 28)) (defBody (topS 28)) (defScope (topS 28)) .none kV28 dc28 pm28 an28 cd28 ct28), (31, PySem.W.fnOf "_law_times" "_law_times" (defArgs (topS 31)) (defBody (topS 31)) (defScope (topS 31)) .none kV31 dc31 pm31 an31 cd31 ct31), (20, PySem.W.fnOf "is_number" "is_number" (defArgs (topS 20)) (defBody (topS 20)) (defScope (topS 20)) .none kV20 dc20 pm20 an20 cd20 ct20), (34, PySem.W.fnOf "law" "law" (defArgs (topS 34)) (defBody (topS 34)) (defScope (topS 34)) .none kV34 dc34 pm34 an34 cd34 ct34)]) X_OverlapsError xI _ := fun base => by
    refine ⟨A7, A8, A9, A10, A14, A25, A11, A15, A16, A21, A12, A13, A19, A24, A17, A22, A18, A23, A33, A27, A32, A29, A30, A28, A31, A20, A34, ⟨_, PySem.W.mg_of X G g_LARGEST⟩, PySem.W.mg_none_of X G z_abs, PySem.W.mg_none_of X G z_all, PySem.W.mg_none_of X G z_bool, PySem.W.mg_none_of X G z_int, PySem.W.mg_none_of X G z_isinstance, PySem.W.mg_none_of X G z_len, PySem.W.mg_none_of X G z_list, PySem.W.mg_none_of X G z_range, PySem.W.mg_none_of X G z_str, PySem.W.mg_none_of X G z_tuple, xk base, ⟨_, PySem.W.mg_of X G xa_OverlapsError, xn_OverlapsError⟩, ⟨_, PySem.W.mg_of X G xa_InvalidField, xn_InvalidField⟩, ⟨_, PySem.W.mg_of X G xa_InvalidInteger, xn_InvalidInteger⟩, ⟨_, PySem.W.mg_of X G xa_InvalidNumber, xn_InvalidNumber⟩⟩
  exact ⟨_, fun s v => .of_eq rfl, fun base _ _ => ok_law (T base)⟩
end Fw
open PySem PySem.W PyProof.Rows
set_option pp.maxSteps 400 in
set_option maxHeartbeats 0 in
theorem PySem.Challenge.cw_wholeoverlaps_k01_numbers_of_fields_holds : PySem.Challenge.rw_wholeoverlaps_k01_numbers_of_fields.Holds := by
  w_on; o_law; k_head; (case hw => w_witness2)
  k_fill
  refine L2.walk_of (l := PySem.Challenge.rw_wholeoverlaps_k01_numbers_of_fields) (n := 63) (k := 8) (x := "script") (CX := fun w => L2.CX PySem.Challenge.rw_wholeoverlaps_k01_numbers_of_fields.prog w) (sp := fun w => Fw.spL _ 15 Fw.m_law) rfl (by decide) rfl ⟨rfl, by decide, by decide⟩ (fun w h Y => PySem.W.kIn_of Y) ?F (fun _ H a ns hl _ hS => Fw.spL_of hS (Fw.law_true ns hl)) (fun _ _ _ _ _ h => Fw.cx_false h)
  case F =>
    intro w mg fa h KX G hmg
    refine' Fw.all_mk KX G hmg ?a7 ?l7 ?c7 ?k7 ?a8 ?l8 ?c8 ?k8 ?a9 ?l9 ?c9 ?k9 ?a10 ?l10 ?c10 ?k10 ?a14 ?l14 ?c14 ?k14 ?a25 ?l25 ?c25 ?k25 ?a11 ?l11 ?c11 ?k11 ?a15 ?l15 ?c15 ?k15 ?a16 ?l16 ?c16 ?k16 ?a21 ?l21 ?c21 ?k21 ?a12 ?l12 ?c12 ?k12 ?a13 ?l13 ?c13 ?k13 ?a19 ?l19 ?c19 ?k19 ?a24 ?l24 ?c24 ?k24 ?a17 ?l17 ?c17 ?k17 ?a22 ?l22 ?c22 ?k22 ?a18 ?l18 ?c18 ?k18 ?a23 ?l23 ?c23 ?k23 ?a33 ?l33 ?c33 ?k33 ?a27 ?l27 ?c27 ?k27 ?a32 ?l32 ?c32 ?k32 ?a29 ?l29 ?c29 ?k29 ?a30 ?l30 ?c30 ?k30 ?a28 ?l28 ?c28 ?k28 ?a31 ?l31 ?c31 ?k31 ?a20 ?l20 ?c20 ?k20 ?a34 ?l34 ?c34 ?k34 ?g_LARGEST ?z_abs ?z_all ?z_bool ?z_int ?z_isinstance ?z_len ?z_list ?z_range ?z_str ?z_tuple ?xa_OverlapsError ?xn_OverlapsError ?xa_InvalidField ?xn_InvalidField ?xa_InvalidInteger ?xn_InvalidInteger ?xa_InvalidNumber ?xn_InvalidNumber ?xi ?xl ?xcode ?xfl ?xv2 ?xff ?xcell ?xcls ?xany ?xtop ?xsup ?xtI ?xsp ?xtk ?x1 ?x2 ?x3
    (case a7 => k_is); (case l7 => k_is); (case c7 => k_is); (case k7 => k_is); (case a8 => k_is); (case l8 => k_is); (case c8 => k_is); (case k8 => k_is); (case a9 => k_is); (case l9 => k_is); (case c9 => k_is); (case k9 => k_is); (case a10 => k_is); (case l10 => k_is); (case c10 => k_is); (case k10 => k_is); (case a14 => k_is); (case l14 => k_is); (case c14 => k_is); (case k14 => k_is); (case a25 => k_is); (case l25 => k_is); (case c25 => k_is); (case k25 => k_is); (case a11 => k_is); (case l11 => k_is); (case c11 => k_is); (case k11 => k_is); (case a15 => k_is); (case l15 => k_is); (case c15 => k_is); (case k15 => k_is); (case a16 => k_is); (case l16 => k_is); (case c16 => k_is); (case k16 => k_is); (case a21 => k_is); (case l21 => k_is); (case c21 => k_is); (case k21 => k_is); (case a12 => k_is); (case l12 => k_is); (case c12 => k_is); (case k12 => k_is); (case a13 => k_is); (case l13 => k_is); (case c13 => k_is); (case k13 => k_is); (case a19 => k_is); (case l19 => k_is); (case c19 => k_is); (case k19 => k_is); (case a24 => k_is); (case l24 => k_is); (case c24 => k_is); (case k24 => k_is); (case a17 => k_is); (case l17 => k_is); (case c17 => k_is); (case k17 => k_is); (case a22 => k_is); (case l22 => k_is); (case c22 => k_is); (case k22 => k_is); (case a18 => k_is); (case l18 => k_is); (case c18 => k_is); (case k18 => k_is); (case a23 => k_is); (case l23 => k_is); (case c23 => k_is); (case k23 => k_is); (case a33 => k_is); (case l33 => k_is); (case c33 => k_is); (case k33 => k_is); (case a27 => k_is); (case l27 => k_is); (case c27 => k_is); (case k27 => k_is); (case a32 => k_is); (case l32 => k_is); (case c32 => k_is); (case k32 => k_is); (case a29 => k_is); (case l29 => k_is); (case c29 => k_is); (case k29 => k_is); (case a30 => k_is); (case l30 => k_is); (case c30 => k_is); (case k30 => k_is); (case a28 => k_is); (case l28 => k_is); (case c28 => k_is); (case k28 => k_is); (case a31 => k_is); (case l31 => k_is); (case c31 => k_is); (case k31 => k_is); (case a20 => k_is); (case l20 => k_is); (case c20 => k_is); (case k20 => k_is); (case a34 => k_is); (case l34 => k_is); (case c34 => k_is); (case k34 => k_is); (case g_LARGEST => k_is); (case z_abs => k_is); (case z_all => k_is); (case z_bool => k_is); (case z_int => k_is); (case z_isinstance => k_is); (case z_len => k_is); (case z_list => k_is); (case z_range => k_is); (case z_str => k_is); (case z_tuple => k_is); (case xa_OverlapsError => k_is); (case xn_OverlapsError => kernel_rfl); (case xa_InvalidField => k_is); (case xn_InvalidField => kernel_rfl); (case xa_InvalidInteger => k_is); (case xn_InvalidInteger => kernel_rfl); (case xa_InvalidNumber => k_is); (case xn_InvalidNumber => kernel_rfl); (case xi => k_is); (case xl => k_is); (case xcode => k_is); (case xfl => k_is); (case xv2 => rfl); (case xff => decide +kernel); (case xcell => k_is); (case xcls => kernel_rfl); (case xany => k_is); (case xtop => rfl); (case xsup => k_is); (case xtI => k_is); (case xsp => k_is); (case xtk => k_is); (case x1 => kernel_rfl); (case x2 => kernel_rfl); (case x3 => kernel_rfl)
