import PyProof.Rows.All
import Wide.All
import OpenK.AllK
import Wide.FinOn
import HandS.ForMost
import HandS.ForExc
import HandS.CallSlots
import HandS.ExcInit
import HandS.ExcField
import HandS.ExcIs
import HandS.ExcValue
import KE.KExcSuper
import HandS.Flow
import HandS.TryOnly
import HandS.Style
import HandS.Wide
import HandS.IsInst
import HandS.Replace
import KE.DataCmp
import HandS.RaiseMore
import HandS.TupMul
import HandS.Zip
import KE.GoesEnum
import HandS.More
import KE.SortKeyHeap
import PyProof.CollectStr
import HandS.SetFor
import HandS.SetKeys
import KE.DataMinMax
import PySem.Challenge.RW_wholeoverlaps_k03_words_of_settings
set_option Elab.async false
set_option linter.all false
set_option maxRecDepth 100000
set_option maxHeartbeats 4000000
/-! Fw1: values as plain data, environments, outcomes; what they say of the abstract heap. -/
namespace Fw
open PySem PySem.Spec PyProof.Rows L2
abbrev St := L2.St

abbrev Wd := List Nat
/-- a text by its signs -/
def st (x : Wd) : Str := ⟨x.toArray⟩
theorem st_toList (x : Wd) : (st x).cps.toList = x := by simp [st]
theorem st_len (x : Wd) : (st x).length = x.length := by simp [st, Str.length]
theorem st_of (x : Str) : st x.cps.toList = x := by cases x; simp [st]
theorem st_inj {x y : Wd} (h : st x = st y) : x = y := by rw [← st_toList x, h, st_toList]
theorem st_append (x y : Wd) : st x ++ st y = st (x ++ y) := by
  have h : (st x ++ st y).cps.toList = x ++ y := by
    have := TL.tl_append (st x) (st y)
    simpa [TL.tl, st_toList] using this
  rw [← st_of (st x ++ st y), h]

/-- a dict's key: an integer or a text -/
inductive Ky where
  | i (n : Int) | s (x : Wd)
deriving DecidableEq
def Ky.key : Ky → Key
  | .i n => Sum.inl n
  | .s x => Sum.inr (st x)
theorem Ky.inj {a b : Ky} (h : a.key = b.key) : a = b := by
  cases a with
  | i n =>
    cases b with
    | i m => rw [Sum.inl.inj h]
    | s y => cases h
  | s x =>
    cases b with
    | i m => cases h
    | s y => rw [st_inj (Sum.inr.inj h)]
/-- plain data -/
inductive Dt where
  | non | bl (b : Bool) | int (i : Int) | str (x : Wd) | tup (xs : List Dt) | lst (xs : List Dt) | exo (c : Str) (d : Dt) | dic (ks : List Ky) (xs : List Dt)
/-- what one holds for one's own: a list, a dict with texts for keys -/
inductive Cn where
  | l (ds : List Dt) | d (ks : List Ky) (ds : List Dt)
def Cn.ds : Cn → List Dt
  | .l ds => ds
  | .d _ ds => ds
def Cn.frz : Cn → Dt
  | .l ds => .lst ds
  | .d ks ds => .dic ks ds
def dKof (ks : List Ky) (xs : List V) : HO := .dK ((ks.zip xs).map fun p => (p.1.key, p.2))
/-- the thing in the heap -/
def Cn.ho : Cn → List V → HO
  | .l _, xs => .lst xs
  | .d ks _, xs => dKof ks xs

/-- an exception of the class at C, its dict at dx -/
def xo (a C dx : Addr) : HO := .ext fun h => ∃ oe vs, h.get? a = some oe ∧ oe.cls = .ref C ∧ oe.dict = some dx ∧ oe.data = .fields vs
/-- the class's name -/
def clsNm (K : PySem.W.Frag) (C : Addr) : Option Str := (PySem.W.clsIn K C).map (·.name)

mutual
def Rep (K : PySem.W.Frag) (F : Hp) : Dt → V → Prop
  | .non, v => v = .non
  | .bl b, v => v = .bl b
  | .int i, v => v = .int i
  | .str x, v => v = .str (st x)
  | .tup ds, v => ∃ a xs, v = .ref a ∧ SqT K F a xs ∧ Reps K F ds xs
  | .lst ds, v => ∃ a xs, v = .ref a ∧ F a = some (.lst xs) ∧ Reps K F ds xs
  | .exo c d, v => ∃ a C dx vv, v = .ref a ∧ clsNm K C = some c ∧ F a = some (xo a C dx) ∧ F dx = some (.xd [("value", vv)]) ∧ Rep K F d vv
  | .dic ks ds, v => ∃ a xs, v = .ref a ∧ F a = some (dKof ks xs) ∧ (ks.length = ds.length ∧ ks.Nodup) ∧ Reps K F ds xs
def Reps (K : PySem.W.Frag) (F : Hp) : List Dt → List V → Prop
  | [], xs => xs = []
  | d :: ds, xs => ∃ v r, xs = v :: r ∧ Rep K F d v ∧ Reps K F ds r
end

theorem Same.seqT {K : PySem.W.Frag} {H H' : Hp} {a : Addr} {xs : List V} (e : Same H H') (h : SqT K H a xs) : SqT K H' a xs := by
  rcases h with (h | ⟨o, h⟩) | h
  · exact .inl (.inl (e _ _ h))
  · exact .inl (.inr ⟨o, e _ _ h⟩)
  · exact .inr h

mutual
theorem Rep.mono {K : PySem.W.Frag} {F F' : Hp} (s : Same F F') : ∀ (d : Dt) (v : V), Rep K F d v → Rep K F' d v
  | .non, v, h => h
  | .bl _, v, h => h
  | .int _, v, h => h
  | .str _, v, h => h
  | .tup ds, v, ⟨a, xs, e, q, r⟩ => ⟨a, xs, e, Same.seqT s q, Reps.mono s ds xs r⟩
  | .lst ds, v, ⟨a, xs, e, q, r⟩ => ⟨a, xs, e, s _ _ q, Reps.mono s ds xs r⟩
  | .exo c d, v, ⟨a, C, dx, vv, e, n, q, q2, r⟩ => ⟨a, C, dx, vv, e, n, s _ _ q, s _ _ q2, Rep.mono s d vv r⟩
  | .dic ks ds, v, ⟨a, xs, e, q, w, r⟩ => ⟨a, xs, e, s _ _ q, w, Reps.mono s ds xs r⟩
theorem Reps.mono {K : PySem.W.Frag} {F F' : Hp} (s : Same F F') : ∀ (ds : List Dt) (xs : List V), Reps K F ds xs → Reps K F' ds xs
  | [], xs, h => h
  | d :: ds, xs, ⟨v, r, e, q, t⟩ => ⟨v, r, e, Rep.mono s d v q, Reps.mono s ds r t⟩
end

section
variable {K : PySem.W.Frag} {F F' H H' : Hp}
theorem Reps.length : ∀ {ds : List Dt} {xs : List V}, Reps K F ds xs → ds.length = xs.length
  | [], xs, h => by have h : xs = [] := h; subst h; rfl
  | d :: ds, xs, ⟨v, r, e, q, t⟩ => by rw [e, List.length_cons, List.length_cons, Reps.length t]
theorem Reps.get : ∀ {ds : List Dt} {xs : List V} {i : Nat} {d : Dt}, Reps K F ds xs → ds[i]? = some d → ∃ v, xs[i]? = some v ∧ Rep K F d v
  | [], xs, i, d, h, e => by simp at e
  | d :: ds, xs, 0, d', ⟨v, r, e, q, t⟩, h => by
    simp at h; subst h; subst e
    exact ⟨v, rfl, q⟩
  | d :: ds, xs, i + 1, d', ⟨v, r, e, q, t⟩, h => by
    subst e
    simpa using Reps.get (i := i) t (by simpa using h)
theorem Reps.get' : ∀ {ds : List Dt} {xs : List V} {i : Nat} {v : V}, Reps K F ds xs → xs[i]? = some v → ∃ d, ds[i]? = some d ∧ Rep K F d v
  | [], xs, i, d, h, e => by have h : xs = [] := h; subst h; simp at e
  | d :: ds, xs, 0, v', ⟨v, r, e, q, t⟩, h => by
    subst e; simp at h; subst h
    exact ⟨d, rfl, q⟩
  | d :: ds, xs, i + 1, v', ⟨v, r, e, q, t⟩, h => by
    subst e
    simpa using Reps.get' (i := i) t (by simpa using h)
theorem Reps.append : ∀ {ds es : List Dt} {xs ys : List V}, Reps K F ds xs → Reps K F es ys → Reps K F (ds ++ es) (xs ++ ys)
  | [], es, xs, ys, h, g => by have h : xs = [] := h; subst h; exact g
  | d :: ds, es, xs, ys, ⟨v, r, e, q, t⟩, g => by subst e; exact ⟨v, r ++ ys, rfl, q, Reps.append t g⟩
theorem Reps.nil : Reps K F [] [] := rfl
theorem Reps.cons {d : Dt} {ds : List Dt} {v : V} {r : List V} (q : Rep K F d v) (t : Reps K F ds r) : Reps K F (d :: ds) (v :: r) := ⟨v, r, rfl, q, t⟩
theorem Reps.one {d : Dt} {v : V} (q : Rep K F d v) : Reps K F [d] [v] := .cons q .nil
theorem Reps.take : ∀ {ds : List Dt} {xs : List V} (n : Nat), Reps K F ds xs → Reps K F (ds.take n) (xs.take n)
  | _, _, 0, _ => rfl
  | [], xs, n + 1, h => by have h : xs = [] := h; subst h; rfl
  | d :: ds, xs, n + 1, ⟨v, r, e, q, t⟩ => by subst e; exact ⟨v, r.take n, rfl, q, Reps.take n t⟩
theorem Reps.drop : ∀ {ds : List Dt} {xs : List V} (n : Nat), Reps K F ds xs → Reps K F (ds.drop n) (xs.drop n)
  | _, _, 0, h => h
  | [], xs, n + 1, h => by have h : xs = [] := h; subst h; rfl
  | d :: ds, xs, n + 1, ⟨v, r, e, q, t⟩ => by subst e; exact Reps.drop n t
theorem Reps.set : ∀ {ds : List Dt} {xs : List V} (i : Nat) {d : Dt} {v : V}, Rep K F d v → Reps K F ds xs → Reps K F (ds.set i d) (xs.set i v)
  | [], xs, i, d, v, _, h => by have h : xs = [] := h; subst h; rfl
  | d :: ds, xs, 0, d', v', q', ⟨v, r, e, q, t⟩ => by subst e; exact ⟨v', r, rfl, q', t⟩
  | d :: ds, xs, i + 1, d', v', q', ⟨v, r, e, q, t⟩ => by subst e; exact ⟨v, r.set i v', rfl, q, Reps.set i q' t⟩
theorem Reps.ints : ∀ (ns : List Int), Reps K F (ns.map Dt.int) (ns.map V.int)
  | [] => rfl
  | n :: ns => ⟨.int n, ns.map V.int, rfl, rfl, Reps.ints ns⟩
theorem Reps.of_all : ∀ {ds : List Dt} {xs : List V}, ds.length = xs.length → (∀ (i : Nat) d v, ds[i]? = some d → xs[i]? = some v → Rep K F d v) → Reps K F ds xs
  | [], [], _, _ => rfl
  | d :: ds, v :: xs, hl, h => ⟨v, xs, rfl, h 0 d v rfl rfl, Reps.of_all (by simpa using hl) fun i d' v' e1 e2 => h (i + 1) d' v' (by simpa using e1) (by simpa using e2)⟩
  | [], _ :: _, hl, _ => by simp at hl
  | _ :: _, [], hl, _ => by simp at hl
end

def RepC (K : PySem.W.Frag) (F : Hp) : Cn → List V → Prop
  | .l ds, xs => Reps K F ds xs
  | .d ks ds, xs => (ks.length = ds.length ∧ ks.Nodup) ∧ Reps K F ds xs
theorem RepC.mono {K : PySem.W.Frag} {F F' : Hp} (s : Same F F') {c : Cn} {xs : List V} (h : RepC K F c xs) : RepC K F' c xs := by
  cases c with
  | l ds => exact Reps.mono s _ _ h
  | d ks ds => exact ⟨h.1, Reps.mono s _ _ h.2⟩
instance : Coe (List Dt) Cn := ⟨Cn.l⟩
/-- a slot: nothing told, a value for good, a list of one's own -/
inductive Sl where
  | un | val (d : Dt) | own (c : Cn) | scr (ns : List Int)
abbrev En := List Sl

def SlOk (K : PySem.W.Frag) (F H : Hp) : Sl → Option V → Prop
  | .un, _ => True
  | .val d, o => ∃ v, o = some v ∧ Rep K F d v
  | .own c, o => ∃ a xs, o = some (.ref a) ∧ H a = some (c.ho xs) ∧ F a = none ∧ RepC K F c xs
  | .scr ns, o => ∃ a, o = some (.ref a) ∧ SqL K F a (ns.map V.int)

/-- the addresses of one's own lists -/
def Own (en : En) (σ : St) (a : Addr) : Prop := ∃ (i : Nat) (c : Cn), en[i]? = some (.own c) ∧ σ[i]? = some (some (.ref a))

structure Rel (K : PySem.W.Frag) (F H : Hp) (en : En) (σ : St) : Prop where
  sub : Same F H
  len : en.length = σ.length
  ok : ∀ (i : Nat) s o, en[i]? = some s → σ[i]? = some o → SlOk K F H s o
  ne : ∀ (i j : Nat) ds es a, en[i]? = some (.own ds) → en[j]? = some (.own es) → σ[i]? = some (some (.ref a)) → σ[j]? = some (some (.ref a)) → i = j

structure Post (F H : Hp) (A : Addr → Prop) (F' H' : Hp) (A' : Addr → Prop) : Prop where
  sub : Same F F'
  keep : ∀ b o, H b = some o → ¬ A b → H' b = some o
  there : ∀ b, H' b = none → H b = none
  frz : ∀ b o, F' b = some o → F b = some o ∨ H b = none ∨ A b
  own : ∀ b, A' b → A b ∨ H b = none

section
variable {K : PySem.W.Frag} {F F' F'' H H' H'' : Hp} {A A' A'' : Addr → Prop} {en en' : En} {σ σ' : St}
theorem Post.refl : Post F H A F H A := ⟨Same.refl _, fun _ _ h _ => h, fun _ h => h, fun _ _ h => .inl h, fun _ h => .inl h⟩
theorem Post.trans (p : Post F H A F' H' A') (q : Post F' H' A' F'' H'' A'') : Post F H A F'' H'' A'' := by
  refine ⟨p.sub.trans q.sub, fun b o h n => ?_, fun b h => p.there b (q.there b h), fun b o h => ?_, fun b h => ?_⟩
  · refine q.keep b o (p.keep b o h n) fun z => ?_
    rcases p.own b z with z | z
    · exact n z
    · rw [h] at z; cases z
  · rcases q.frz b o h with z | z | z
    · exact p.frz b o z
    · exact .inr (.inl (p.there b z))
    · rcases p.own b z with z | z
      · exact .inr (.inr z)
      · exact .inr (.inl z)
  · rcases q.own b h with z | z
    · exact p.own b z
    · exact .inr (p.there b z)

/-- new things alone -/
structure Grow (F H F' H' : Hp) : Prop where
  sub : Same F F'
  keep : Same H H'
  in' : Same F' H'
  frz : ∀ b o, F' b = some o → F b = some o ∨ H b = none
theorem Grow.refl (s : Same F H) : Grow F H F H := ⟨Same.refl _, Same.refl _, s, fun _ _ h => .inl h⟩
theorem Grow.trans (p : Grow F H F' H') (q : Grow F' H' F'' H'') : Grow F H F'' H'' := ⟨p.sub.trans q.sub, p.keep.trans q.keep, q.in', fun b o h => by
  rcases q.frz b o h with z | z
  · exact p.frz b o z
  · exact .inr (p.keep.free z)⟩
theorem Grow.post (g : Grow F H F' H') : Post F H A F' H' A := ⟨g.sub, fun b o h _ => g.keep b o h, fun b h => g.keep.free h, fun b o h => (g.frz b o h).imp id .inl, fun _ h => .inl h⟩
theorem SlOk.grow {s : Sl} {o : Option V} (g : Grow F H F' H') (h : SlOk K F H s o) : SlOk K F' H' s o := by
  cases s with
  | un => trivial
  | val d => obtain ⟨v, e, r⟩ := h; exact ⟨v, e, Rep.mono g.sub _ _ r⟩
  | scr ns => obtain ⟨a, e, r⟩ := h; exact ⟨a, e, g.sub.seq r⟩
  | own ds =>
    obtain ⟨a, xs, e, h1, h2, r⟩ := h
    refine ⟨a, xs, e, g.keep _ _ h1, ?_, r.mono g.sub⟩
    cases q : F' a with
    | none => rfl
    | some u =>
      rcases g.frz a u q with z | z
      · rw [h2] at z; cases z
      · rw [h1] at z; cases z
theorem Rel.grow (g : Grow F H F' H') (r : Rel K F H en σ) : Rel K F' H' en σ := ⟨g.in', r.len, fun i s o h1 h2 => (r.ok i s o h1 h2).grow g, r.ne⟩
end
theorem same_new {H : Hp} {p : Addr} {o : HO} (h : H p = none) : Same H (upd H p o) := fun b x e => by
  rw [upd_ne (ne_of_none e h)]
  exact e
theorem same_upd2 {F H : Hp} {p : Addr} {o : HO} (s : Same F H) : Same (upd F p o) (upd H p o) := fun b x e => by
  by_cases hb : b = p
  · subst hb; rw [upd_same] at e ⊢; exact e
  · rw [upd_ne hb] at e ⊢; exact s _ _ e
/-- a new tracked thing, for good -/
theorem grow_frz {F H : Hp} {p : Addr} {o : HO} (s : Same F H) (n : H p = none) : Grow F H (upd F p o) (upd H p o) :=
  ⟨same_new (s.free n), same_new n, same_upd2 s, fun b u e => by
    by_cases hb : b = p
    · subst hb; exact .inr n
    · rw [upd_ne hb] at e; exact .inl e⟩
/-- a new tracked thing, one's own -/
theorem grow_own {F H : Hp} {p : Addr} {o : HO} (s : Same F H) (n : H p = none) : Grow F H F (upd H p o) :=
  ⟨Same.refl _, same_new n, s.trans (same_new n), fun b u e => .inl e⟩

/-- an expression's outcome -/
inductive Out (α : Type) where
  | ok (a : α) (en : En) | exc (c : Str) (d : Dt) (en : En) | stuck
abbrev M (α : Type) := En → Out α
/-- what an expression hands on: data, what stands in a slot, a new list -/
inductive Res where
  | dat (d : Dt) | slt (i : Nat) | new (c : Cn)
def ResOk (K : PySem.W.Frag) (F H : Hp) (en : En) (σ : St) (v : V) : Res → Prop
  | .dat d => Rep K F d v
  | .slt i => σ[i]? = some (some v)
  | .new c => ∃ a xs, v = .ref a ∧ H a = some (c.ho xs) ∧ F a = none ∧ ¬ Own en σ a ∧ RepC K F c xs

/-- a new list is newer than H -/
def Fresh (H : Hp) (v : V) : Res → Prop
  | .new _ => ∀ a, v = .ref a → H a = none
  | _ => True

/-- an exception's own class, its dict -/
def ExcOk (K : PySem.W.Frag) (mg : Str → Option Value) (F H : Hp) (cls : Value) (dx : Option Addr) (c : Str) (d : Dt) : Prop :=
  ∃ C dd v, clsNm K C = some c ∧ cls = .ref C ∧ dx = some dd ∧ F dd = some (.xd [("value", v)]) ∧ Rep K F d v

/-- what is wanted behind an outcome -/
def OutOk {α : Type} (K : PySem.W.Frag) (mg : Str → Option Value) (W : WX) (F H : Hp) (en : En) (σ : St) (o : Out α) (P : Hp → Hp → En → α → Prop) : Prop :=
  match o with
  | .ok r en' => ∀ F' H', Rel K F' H' en' σ → Post F H (Own en σ) F' H' (Own en' σ) → P F' H' en' r
  | .exc c d en' => ∀ cls dx F' H', Rel K F' H' en' σ → Post F H (Own en σ) F' H' (Own en' σ) → ExcOk K mg F' H' cls dx c d → W cls dx σ H'
  | .stuck => False
def tE (K : PySem.W.Frag) (mg : Str → Option Value) (W : WX) (m : M Res) : TE := fun σ H Q => ∃ F en, Rel K F H en σ ∧
  OutOk K mg W F H en σ (m en) fun F' H' en' r => ∀ v, ResOk K F' H' en' σ v r → Fresh H v r → Q v H'
def tV (K : PySem.W.Frag) (mg : Str → Option Value) (W : WX) (m : M Dt) : TE := fun σ H Q => ∃ F en, Rel K F H en σ ∧
  OutOk K mg W F H en σ (m en) fun F' H' en' d => ∀ v, Rep K F' d v → Q v H'
def tT (K : PySem.W.Frag) (mg : Str → Option Value) (W : WX) (m : M Bool) : TT := fun σ H Q => ∃ F en, Rel K F H en σ ∧
  OutOk K mg W F H en σ (m en) fun F' H' en' b => Q b H'
def tVs (K : PySem.W.Frag) (mg : Str → Option Value) (W : WX) (m : M (List Dt)) : TA := fun σ H Q => ∃ F en, Rel K F H en σ ∧
  OutOk K mg W F H en σ (m en) fun F' H' en' ds => ∀ vs, Reps K F' ds vs → Q vs H'
def RsOk (K : PySem.W.Frag) (F H : Hp) (en : En) (σ : St) : List Res → List V → Prop
  | [], vs => vs = []
  | r :: rs, vs => ∃ v t, vs = v :: t ∧ (∀ ds, r ≠ .new ds) ∧ ResOk K F H en σ v r ∧ RsOk K F H en σ rs t
def tOs (K : PySem.W.Frag) (mg : Str → Option Value) (W : WX) (m : M (List Res)) : TA := fun σ H Q => ∃ F en, Rel K F H en σ ∧
  OutOk K mg W F H en σ (m en) fun F' H' en' rs => ∀ vs, RsOk K F' H' en' σ rs vs → Q vs H'

/-- one outcome behind another -/
theorem OutOk.bind {β : Type} {K : PySem.W.Frag} {mg : Str → Option Value} {W : WX} {F H F1 H1 : Hp} {en en1 : En} {σ : St} {o : Out β} {P : Hp → Hp → En → β → Prop}
    (p : Post F H (Own en σ) F1 H1 (Own en1 σ)) (h : OutOk K mg W F H en σ o P) : OutOk K mg W F1 H1 en1 σ o P := by
  cases o with
  | ok r en' => exact fun F' H' r' p' => h F' H' r' (p.trans p')
  | exc c d en' => exact fun cls dx F' H' r' p' x => h cls dx F' H' r' (p.trans p') x
  | stuck => exact h
theorem OutOk.imp {α : Type} {K : PySem.W.Frag} {mg : Str → Option Value} {W : WX} {F H : Hp} {en : En} {σ : St} {o : Out α} {P P' : Hp → Hp → En → α → Prop}
    (h : OutOk K mg W F H en σ o P) (i : ∀ F' H' en' r, Rel K F' H' en' σ → P F' H' en' r → P' F' H' en' r) : OutOk K mg W F H en σ o P' := by
  cases o with
  | ok r en' => exact fun F' H' r' p' => i _ _ _ _ r' (h F' H' r' p')
  | exc c d en' => exact h
  | stuck => exact h

/-! ### freezing -/
section
variable {K : PySem.W.Frag} {F F' H H' : Hp} {en en' : En} {σ : St} {a : Addr} {xs : List V} {ho : HO} {c : Cn}
theorem same_frz (s : Same F H) (h : H a = some ho) : Same (upd F a ho) H := fun b o e => by
  by_cases hb : b = a
  · subst hb; rw [upd_same] at e; rw [h]; exact e
  · rw [upd_ne hb] at e; exact s _ _ e
/-- a list that is not in a slot of one's own stays for good -/
theorem freeze_new (r : Rel K F H en σ) (h : H a = some ho) (n : F a = none) (no : ¬ Own en σ a) : Rel K (upd F a ho) H en σ := by
  refine ⟨same_frz r.sub h, r.len, fun i s o h1 h2 => ?_, r.ne⟩
  have q := r.ok i s o h1 h2
  cases s with
  | un => trivial
  | val d => obtain ⟨v, e, q⟩ := q; exact ⟨v, e, Rep.mono (same_new n) _ _ q⟩
  | scr ns => obtain ⟨b, e, q⟩ := q; exact ⟨b, e, (same_new n).seq q⟩
  | own es =>
    obtain ⟨b, ys, e, h3, h4, q⟩ := q
    refine ⟨b, ys, e, h3, ?_, q.mono (same_new n)⟩
    rw [upd_ne ?_]
    · exact h4
    · rintro rfl
      exact no ⟨i, es, h1, by rw [h2, e]⟩
theorem rep_frozen (n : F a = none) (q : RepC K F c xs) : Rep K (upd F a (c.ho xs)) c.frz (.ref a) := by
  cases c with
  | l ds => exact ⟨a, xs, rfl, upd_same, Reps.mono (same_new n) _ _ q⟩
  | d ks ds => exact ⟨a, xs, rfl, upd_same, q.1, Reps.mono (same_new n) _ _ q.2⟩
theorem post_freeze {A A' : Addr → Prop} (n : F a = none) (hA : A a) (hs : ∀ b, A' b → A b) : Post F H A (upd F a ho) H A' :=
  ⟨same_new n, fun _ _ h _ => h, fun _ h => h, fun b o e => by
    by_cases hb : b = a
    · subst hb; exact .inr (.inr hA)
    · rw [upd_ne hb] at e; exact .inl e, fun b h => .inl (hs b h)⟩
/-- a slot of one's own stays for good -/
theorem freeze_slot {i : Nat} (r : Rel K F H en σ) (hi : en[i]? = some (.own c)) {v : V} (hv : σ[i]? = some (some v)) :
    ∃ F', Rel K F' H (en.set i (.val c.frz)) σ ∧ Post F H (Own en σ) F' H (Own (en.set i (.val c.frz)) σ) ∧ Rep K F' c.frz v := by
  obtain ⟨a, xs, e, h1, h2, q⟩ := r.ok i _ _ hi hv
  cases e
  have hlt : i < en.length := (List.getElem?_eq_some_iff.mp hi).1
  have hown : ∀ b, Own (en.set i (.val c.frz)) σ b → Own en σ b := by
    rintro b ⟨j, es, e1, e2⟩
    by_cases hj : j = i
    · subst hj; rw [List.getElem?_set_self hlt] at e1; cases e1
    · rw [List.getElem?_set_ne (Ne.symm hj)] at e1; exact ⟨j, es, e1, e2⟩
  refine ⟨upd F a (c.ho xs), ⟨same_frz r.sub h1, by rw [List.length_set]; exact r.len, fun j s o e1 e2 => ?_, fun j k es fs b e1 e2 e3 e4 => ?_⟩, post_freeze h2 ⟨i, c, hi, hv⟩ hown, rep_frozen h2 q⟩
  · by_cases hj : j = i
    · subst hj
      rw [List.getElem?_set_self hlt] at e1; cases e1
      rw [hv] at e2; cases e2
      exact ⟨_, rfl, rep_frozen h2 q⟩
    · rw [List.getElem?_set_ne (Ne.symm hj)] at e1
      have p := r.ok j s o e1 e2
      cases s with
      | un => trivial
      | val d => obtain ⟨v, e, p⟩ := p; exact ⟨v, e, Rep.mono (same_new h2) _ _ p⟩
      | scr ns => obtain ⟨b, e, p⟩ := p; exact ⟨b, e, (same_new h2).seq p⟩
      | own es =>
        obtain ⟨b, ys, e, h3, h4, p⟩ := p
        refine ⟨b, ys, e, h3, ?_, p.mono (same_new h2)⟩
        rw [upd_ne ?_]
        · exact h4
        · rintro rfl
          exact hj (r.ne j i _ _ _ e1 hi (by rw [e2, e]) hv)
  · by_cases hj : j = i
    · subst hj; rw [List.getElem?_set_self hlt] at e1; cases e1
    · by_cases hk : k = i
      · subst hk; rw [List.getElem?_set_self hlt] at e2; cases e2
      · rw [List.getElem?_set_ne (Ne.symm hj)] at e1
        rw [List.getElem?_set_ne (Ne.symm hk)] at e2
        exact r.ne j k es fs b e1 e2 e3 e4
end

def Out.bind {α β : Type} (o : Out α) (f : α → En → Out β) : Out β :=
  match o with
  | .ok a en => f a en
  | .exc c d en => .exc c d en
  | .stuck => .stuck
/-- as data: a slot of one's own is kept for good -/
def toV (r : Res) (en : En) : Out Dt :=
  match r with
  | .dat d => .ok d en
  | .new c => .ok c.frz en
  | .slt i => match en[i]? with
    | some (.val d) => .ok d en
    | some (.own c) => .ok c.frz (en.set i (.val c.frz))
    | _ => .stuck
/-- as an operand: a new list is kept for good -/
def toO (r : Res) (en : En) : Out Res :=
  match r with
  | .new c => .ok (.dat c.frz) en
  | r => .ok r en
/-- what an operand is worth, looked at -/
def vw (en : En) (r : Res) : Option Dt :=
  match r with
  | .dat d => some d
  | .new c => some c.frz
  | .slt i => match en[i]? with
    | some (.val d) => some d
    | some (.own c) => some c.frz
    | _ => none
/-- data that is looked at: a list may be one's own -/
def Vw (K : PySem.W.Frag) (F H : Hp) (d : Dt) (v : V) : Prop :=
  match d with
  | .lst ds => ∃ a xs, v = .ref a ∧ H a = some (.lst xs) ∧ Reps K F ds xs
  | .dic ks ds => ∃ a xs, v = .ref a ∧ H a = some (dKof ks xs) ∧ (ks.length = ds.length ∧ ks.Nodup) ∧ Reps K F ds xs
  | d => Rep K F d v
theorem Vw.of {K : PySem.W.Frag} {F H : Hp} {d : Dt} {v : V} (s : Same F H) (h : Rep K F d v) : Vw K F H d v := by
  cases d with
  | lst ds => obtain ⟨a, xs, e, q, r⟩ := h; exact ⟨a, xs, e, s _ _ q, r⟩
  | dic ks ds => obtain ⟨a, xs, e, q, w, r⟩ := h; exact ⟨a, xs, e, s _ _ q, w, r⟩
  | _ => exact h

theorem Vw.frz {K : PySem.W.Frag} {F H : Hp} {c : Cn} {a : Addr} {xs : List V} (h : H a = some (c.ho xs)) (r : RepC K F c xs) : Vw K F H c.frz (.ref a) := by
  cases c with
  | l ds => exact ⟨a, xs, rfl, h, r⟩
  | d ks ds => exact ⟨a, xs, rfl, h, r.1, r.2⟩
section
variable {K : PySem.W.Frag} {mg : Str → Option Value} {W : WX} {F F' H H' : Hp} {en en' : En} {σ : St} {v : V}
theorem ResOk.vw {r : Res} {d : Dt} (R : Rel K F H en σ) (h : ResOk K F H en σ v r) (e : vw en r = some d) : Vw K F H d v := by
  cases r with
  | dat d' => cases e; exact Vw.of R.sub h
  | new c => cases e; obtain ⟨a, xs, e, h1, _, _, q⟩ := h; rw [e]; exact Vw.frz h1 q
  | slt i =>
    have h : σ[i]? = some (some v) := h
    unfold Fw.vw at e
    cases q : en[i]? with
    | none => simp only [q] at e; cases e
    | some s =>
      have p := R.ok i s _ q h
      cases s with
      | un => simp only [q] at e; cases e
      | scr ns => simp only [q] at e; cases e
      | val d' => simp only [q] at e; cases e; obtain ⟨v', e, p⟩ := p; cases e; exact Vw.of R.sub p
      | own c => simp only [q] at e; cases e; obtain ⟨a, xs, e, h1, _, p⟩ := p; cases e; exact Vw.frz h1 p
theorem toV_ok {F1 H1 : Hp} {en1 : En} {r : Res} {P : Hp → Hp → En → Dt → Prop} (p : Post F H (Own en σ) F1 H1 (Own en1 σ)) (R : Rel K F1 H1 en1 σ) (h : ResOk K F1 H1 en1 σ v r) (fr : Fresh H v r)
    (hp : OutOk K mg W F H en σ (toV r en1) P) : ∃ F' en' d, Rel K F' H1 en' σ ∧ Post F H (Own en σ) F' H1 (Own en' σ) ∧ Rep K F' d v ∧ P F' H1 en' d := by
  cases r with
  | dat d => exact ⟨F1, en1, d, R, p, h, hp F1 H1 R p⟩
  | new ds =>
    obtain ⟨a, xs, e, h1, h2, h3, q⟩ := h
    subst e
    have R' := freeze_new R h1 h2 h3
    have p' : Post F H (Own en σ) (upd F1 a (ds.ho xs)) H1 (Own en1 σ) := ⟨p.sub.trans (same_new h2), p.keep, p.there, fun b o e => by
      by_cases hb : b = a
      · subst hb; exact .inr (.inl (fr _ rfl))
      · rw [upd_ne hb] at e; exact p.frz b o e, p.own⟩
    exact ⟨_, en1, ds.frz, R', p', rep_frozen h2 q, hp _ _ R' p'⟩
  | slt i =>
    have h : σ[i]? = some (some v) := h
    unfold Fw.toV at hp
    cases q : en1[i]? with
    | none => simp only [q] at hp; exact hp.elim
    | some s =>
      have pp := R.ok i s _ q h
      cases s with
      | un => simp only [q] at hp; exact hp.elim
      | scr ns => simp only [q] at hp; exact hp.elim
      | val d' => simp only [q] at hp; obtain ⟨v', e, pp⟩ := pp; cases e; exact ⟨F1, en1, d', R, p, pp, hp F1 H1 R p⟩
      | own ds =>
        simp only [q] at hp
        obtain ⟨F', R', p', r'⟩ := freeze_slot R q h
        exact ⟨F', _, _, R', p.trans p', r', hp F' H1 R' (p.trans p')⟩
/-- as an operand -/
theorem toO_ok {F1 H1 : Hp} {en1 : En} {r : Res} {P : Hp → Hp → En → Res → Prop} (p : Post F H (Own en σ) F1 H1 (Own en1 σ)) (R : Rel K F1 H1 en1 σ) (h : ResOk K F1 H1 en1 σ v r) (fr : Fresh H v r)
    (hp : OutOk K mg W F H en σ (toO r en1) P) : ∃ F' r', Rel K F' H1 en1 σ ∧ Post F H (Own en σ) F' H1 (Own en1 σ) ∧ (∀ ds, r' ≠ .new ds) ∧ ResOk K F' H1 en1 σ v r' ∧ P F' H1 en1 r' := by
  cases r with
  | dat d => exact ⟨F1, _, R, p, (fun _ z => by cases z), h, hp F1 H1 R p⟩
  | slt i => exact ⟨F1, _, R, p, (fun _ z => by cases z), h, hp F1 H1 R p⟩
  | new ds =>
    obtain ⟨a, xs, e, h1, h2, h3, q⟩ := h
    subst e
    have R' := freeze_new R h1 h2 h3
    have p' : Post F H (Own en σ) (upd F1 a (ds.ho xs)) H1 (Own en1 σ) := ⟨p.sub.trans (same_new h2), p.keep, p.there, fun b o e => by
      by_cases hb : b = a
      · subst hb; exact .inr (.inl (fr _ rfl))
      · rw [upd_ne hb] at e; exact p.frz b o e, p.own⟩
    exact ⟨_, .dat ds.frz, R', p', (fun _ z => by cases z), rep_frozen h2 q, hp _ _ R' p'⟩
/-- an operand stays one -/
theorem ResOk.keep {F1 H1 : Hp} {en1 : En} {r : Res} (s : Same F F1) (n : ∀ ds, r ≠ .new ds) (h : ResOk K F H en σ v r) : ResOk K F1 H1 en1 σ v r := by
  cases r with
  | dat d => exact Rep.mono s _ _ h
  | slt i => exact h
  | new ds => exact absurd rfl (n ds)
theorem OutOk.ofBind {α β : Type} {o : Out α} {f : α → En → Out β} {P : Hp → Hp → En → β → Prop} (h : OutOk K mg W F H en σ (o.bind f) P) :
    OutOk K mg W F H en σ o fun F1 H1 en1 a => Rel K F1 H1 en1 σ ∧ Post F H (Own en σ) F1 H1 (Own en1 σ) ∧ OutOk K mg W F H en σ (f a en1) P := by
  cases o with
  | ok a en1 => exact fun F1 H1 R p => ⟨R, p, h⟩
  | exc c d en1 => exact h
  | stuck => exact h
end
end Fw

/-! Fw2: expressions as functions of the environment. -/
namespace Fw
open PySem PySem.Spec PyProof.Rows L2

theorem PE.imp {X : Cx} {e : Expr} {t t' : TE} (h : PE X e t) (i : ∀ σ H Q, t' σ H Q → t σ H Q) : PE X e t' := ⟨fun pins s σ H Q I q => h.run pins s σ H Q I (i σ H Q q)⟩
theorem PT.imp {X : Cx} {e : Expr} {t t' : TT} (h : PT X e t) (i : ∀ σ H Q, t' σ H Q → t σ H Q) : PT X e t' := ⟨fun pins s σ H Q I q => h.run pins s σ H Q I (i σ H Q q)⟩
theorem PA.imp {X : Cx} {e : List Expr} {t t' : TA} (h : PA X e t) (i : ∀ σ H Q, t' σ H Q → t σ H Q) : PA X e t' := ⟨fun pos pins s σ H Q I q => h.run pos pins s σ H Q I (i σ H Q q)⟩

/-- a new thing by a built-in's rule -/
def PrOk (K : PySem.W.Frag) (H F' H' : Hp) (v : V) : Res → Prop
  | .dat d => Rep K F' d v
  | .new c => ∃ a xs, v = .ref a ∧ H a = none ∧ H' a = some (c.ho xs) ∧ F' a = none ∧ RepC K F' c xs
  | .slt _ => False
section
variable {K : PySem.W.Frag} {mg : Str → Option Value} {W : WX} {F F' H H' : Hp} {en en' : En} {σ : St} {v : V}
theorem Rel.own_there {a : Addr} (R : Rel K F H en σ) (h : Own en σ a) : ∃ o, H a = some o ∧ F a = none := by
  obtain ⟨i, ds, e1, e2⟩ := h
  obtain ⟨b, xs, e, h1, h2, _⟩ := R.ok i _ _ e1 e2
  cases e
  exact ⟨_, h1, h2⟩
theorem PrOk.res {c : Res} (R : Rel K F H en σ) (h : PrOk K H F' H' v c) : ResOk K F' H' en σ v c ∧ Fresh H v c := by
  cases c with
  | dat d => exact ⟨h, trivial⟩
  | new ds =>
    obtain ⟨a, xs, e, n, h1, h2, q⟩ := h
    refine ⟨⟨a, xs, e, h1, h2, fun z => ?_, q⟩, fun b eb => ?_⟩
    · obtain ⟨ys, y, _⟩ := R.own_there z
      rw [n] at y; cases y
    · rw [e] at eb; cases eb; exact n
  | slt i => exact h.elim
/-- an outcome that is a built-in's result -/
def lift (en : En) (c : Option Res) : Out Res := match c with
  | some r => .ok r en
  | none => .stuck
theorem lift_ok {c : Option Res} {Q : VK} {H0 : Hp} (p : ∀ b, H b = none → H0 b = none) (R : Rel K F H en σ)
    (hp : OutOk K mg W F H en σ (lift en c) fun F' H' en' r => ∀ v, ResOk K F' H' en' σ v r → Fresh H0 v r → Q v H') :
    ∃ r, c = some r ∧ ∀ F' H' v, Grow F H F' H' → PrOk K H F' H' v r → Q v H' := by
  cases c with
  | none => exact hp.elim
  | some r =>
    refine ⟨r, rfl, fun F' H' v g q => ?_⟩
    obtain ⟨q1, q2⟩ := q.res R
    refine hp F' H' (R.grow g) g.post v q1 ?_
    cases r with
    | new ds => exact fun a e => p a (q2 a e)
    | _ => trivial
end

/-! ### operands -/
def eOpd (m : M Res) : M Res := fun en => (m en).bind toO
def eVal (m : M Res) : M Dt := fun en => (m en).bind toV
def eNil : M (List Res) := fun en => .ok [] en
def eCons (m : M Res) (ms : M (List Res)) : M (List Res) := fun en => (eOpd m en).bind fun r en1 => (ms en1).bind fun rs en2 => .ok (r :: rs) en2
def vNil : M (List Dt) := fun en => .ok [] en
def vCons (m : M Res) (ms : M (List Dt)) : M (List Dt) := fun en => (eVal m en).bind fun r en1 => (ms en1).bind fun rs en2 => .ok (r :: rs) en2
def vws (en : En) : List Res → Option (List Dt)
  | [] => some []
  | r :: rs => match vw en r, vws en rs with
    | some d, some ds => some (d :: ds)
    | _, _ => none

section
variable {X : Cx} {W : WX} {e a b : Expr} {es : List Expr} {m ma mb : M Res} {ms : M (List Res)} {pos : Pos}
theorem rv_of (h : PE X e (tE X.K X.mg W m)) : PE X e (tV X.K X.mg W (eVal m)) := PE.imp h fun σ H Q ⟨F, en, R, h⟩ =>
  ⟨F, en, R, (OutOk.ofBind h).imp fun F1 H1 en1 r _ ⟨R1, p1, hp⟩ v hv fr => by
    obtain ⟨F', en', d, _, _, rep, q⟩ := toV_ok p1 R1 hv fr hp
    exact q v rep⟩

/-- an operand, then what follows -/
theorem opd {K : PySem.W.Frag} {mg : Str → Option Value} {F H : Hp} {en : En} {σ : St} {β : Type} {k : Res → En → Out β} {P : Hp → Hp → En → β → Prop} (h : OutOk K mg W F H en σ ((eOpd m en).bind k) P) :
    OutOk K mg W F H en σ (m en) fun F1 H1 en1 r0 => ∀ v, ResOk K F1 H1 en1 σ v r0 → Fresh H v r0 →
      ∃ F2 r, Rel K F2 H1 en1 σ ∧ Post F H (Own en σ) F2 H1 (Own en1 σ) ∧ (∀ ds, r ≠ .new ds) ∧ ResOk K F2 H1 en1 σ v r ∧ OutOk K mg W F2 H1 en1 σ (k r en1) P :=
  (OutOk.ofBind (OutOk.ofBind h)).imp fun F1 H1 en1 r0 _ ⟨R1, p1, hp⟩ v hv fr => by
    obtain ⟨F2, r, R2, p2, n, hv2, _, _, q⟩ := toO_ok p1 R1 hv fr hp
    exact ⟨F2, r, R2, p2, n, hv2, q.bind p2⟩
/-- a value, then what follows -/
theorem vald {K : PySem.W.Frag} {mg : Str → Option Value} {F H : Hp} {en : En} {σ : St} {β : Type} {k : Dt → En → Out β} {P : Hp → Hp → En → β → Prop} (h : OutOk K mg W F H en σ ((eVal m en).bind k) P) :
    OutOk K mg W F H en σ (m en) fun F1 H1 en1 r0 => ∀ v, ResOk K F1 H1 en1 σ v r0 → Fresh H v r0 →
      ∃ F2 en2 d, Rel K F2 H1 en2 σ ∧ Post F H (Own en σ) F2 H1 (Own en2 σ) ∧ Rep K F2 d v ∧ OutOk K mg W F2 H1 en2 σ (k d en2) P :=
  (OutOk.ofBind (OutOk.ofBind h)).imp fun F1 H1 en1 r0 _ ⟨R1, p1, hp⟩ v hv fr => by
    obtain ⟨F2, en2, d, R2, p2, hv2, _, _, q⟩ := toV_ok p1 R1 hv fr hp
    exact ⟨F2, en2, d, R2, p2, hv2, q.bind p2⟩
theorem rs_nil : PA X [] (tOs X.K X.mg W eNil) := PA.imp pa_nil fun σ H Q ⟨F, en, R, h⟩ => h F H R .refl [] rfl
theorem rs_cons (h1 : PE X e (tE X.K X.mg W m)) (h2 : PA X es (tOs X.K X.mg W ms)) (hs : starEach (e :: es) X.env = (false, eval e X.env) :: starEach es X.env := by rfl) : PA X (e :: es) (tOs X.K X.mg W (eCons m ms)) :=
  PA.imp (pa_cons h1 h2 hs) fun σ H Q ⟨F, en, R, h⟩ => ⟨F, en, R, (opd h).imp fun F1 H1 en1 r0 _ q v hv fr => by
    obtain ⟨F2, r, R2, p2, n, hv2, q⟩ := q v hv fr
    refine ⟨F2, en1, R2, (OutOk.ofBind q).imp fun F3 H3 en3 rs R3 ⟨_, p3, q3⟩ vs hvs => ?_⟩
    exact q3 F3 H3 R3 p3 (v :: vs) ⟨v, vs, rfl, n, hv2.keep p3.sub n, hvs⟩⟩
theorem vs_nil : PA X [] (tVs X.K X.mg W vNil) := PA.imp pa_nil fun σ H Q ⟨F, en, R, h⟩ => h F H R .refl [] rfl
theorem vs_cons {ms : M (List Dt)} (h1 : PE X e (tE X.K X.mg W m)) (h2 : PA X es (tVs X.K X.mg W ms)) (hs : starEach (e :: es) X.env = (false, eval e X.env) :: starEach es X.env := by rfl) : PA X (e :: es) (tVs X.K X.mg W (vCons m ms)) :=
  PA.imp (pa_cons h1 h2 hs) fun σ H Q ⟨F, en, R, h⟩ => ⟨F, en, R, (vald h).imp fun F1 H1 en1 r0 _ q v hv fr => by
    obtain ⟨F2, en2, d, R2, p2, hv2, q⟩ := q v hv fr
    refine ⟨F2, en2, R2, (OutOk.ofBind q).imp fun F3 H3 en3 rs R3 ⟨_, p3, q3⟩ vs hvs => ?_⟩
    exact q3 F3 H3 R3 p3 (v :: vs) ⟨v, vs, rfl, Rep.mono p3.sub _ _ hv2, hvs⟩⟩

/-! ### displays, names, constants -/
def eTup (ms : M (List Dt)) : M Res := fun en => (ms en).bind fun ds en1 => if ds.length ≤ sizeLine then .ok (.dat (.tup ds)) en1 else .stuck
def eLst (ms : M (List Dt)) : M Res := fun en => (ms en).bind fun ds en1 => if ds.length ≤ sizeLine then .ok (.new ds) en1 else .stuck
theorem re_tup {x1} {ms : M (List Dt)} (h : PA X es (tVs X.K X.mg W ms)) : PE X (.Tuple es x1 pos) (tE X.K X.mg W (eTup ms)) :=
  PE.imp (pe_tup h) fun σ H Q ⟨F, en, R, h⟩ => ⟨F, en, R, (OutOk.ofBind h).imp fun F1 H1 en1 ds _ ⟨R1, p1, q⟩ vs hvs => by
    by_cases hz : ds.length ≤ sizeLine
    · rw [if_pos hz] at q
      refine ⟨by rw [← hvs.length]; exact hz, fun p np => ?_⟩
      have g : Grow F1 H1 (upd F1 p (.tup vs)) (upd H1 p (.tup vs)) := grow_frz R1.sub np
      exact q _ _ (R1.grow g) (p1.trans g.post) _ ⟨p, vs, rfl, .inl (.inl upd_same), Reps.mono g.sub _ _ hvs⟩ trivial
    · rw [if_neg hz] at q; exact q.elim⟩
theorem re_lst {ms : M (List Dt)} (h : PA X es (tVs X.K X.mg W ms)) : PE X (.List es pos) (tE X.K X.mg W (eLst ms)) :=
  PE.imp (pe_lst h) fun σ H Q ⟨F, en, R, h⟩ => ⟨F, en, R, (OutOk.ofBind h).imp fun F1 H1 en1 ds _ ⟨R1, p1, q⟩ vs hvs => by
    by_cases hz : ds.length ≤ sizeLine
    · rw [if_pos hz] at q
      refine ⟨by rw [← hvs.length]; exact hz, fun p np => ?_⟩
      have g : Grow F1 H1 F1 (upd H1 p (.lst vs)) := grow_own R1.sub np
      refine q _ _ (R1.grow g) (p1.trans g.post) _ ⟨p, vs, rfl, upd_same, R1.sub.free np, fun z => ?_, hvs⟩ fun a e => ?_
      · obtain ⟨_, y, _⟩ := R1.own_there z
        rw [np] at y; cases y
      · cases e; exact p1.there _ np
    · rw [if_neg hz] at q; exact q.elim⟩
def eVar (i : Nat) : M Res := fun en => match en[i]? with
  | some .un => .stuck
  | none => .stuck
  | _ => .ok (.slt i) en
def eDat (d : Dt) : M Res := fun en => .ok (.dat d) en
theorem re_var (i : Nat) {x : Str} (hN : X.N[i]? = some x := by rfl) (hv : Vis X.env.scope x := by first | exact Or.inl rfl | exact Or.inr (Or.inl rfl) | exact Or.inr (Or.inr rfl)) (hd : (x == ("__debug__" : Str)) = false := by decide)
    (hcd : (x == ("__classdict__" : Str)) = false := by decide) : PE X (.Name x pos) (tE X.K X.mg W (eVar i)) :=
  PE.imp (pe_var (i := i) hN hv hd hcd) fun σ H Q ⟨F, en, R, h⟩ => by
    unfold eVar at h
    cases q : en[i]? with
    | none => simp only [q] at h; exact h.elim
    | some s =>
      have hi : i < σ.length := by rw [← R.len]; exact (List.getElem?_eq_some_iff.mp q).1
      obtain ⟨o, ho⟩ : ∃ o, σ[i]? = some o := ⟨σ[i], List.getElem?_eq_getElem hi⟩
      have p := R.ok i s o q ho
      have fin : ∀ v, o = some v → OutOk X.K X.mg W F H en σ (.ok (.slt i) en) (fun F' H' en' r => ∀ v, ResOk X.K F' H' en' σ v r → Fresh H v r → Q v H') → tVar i σ H Q := fun v e h => by
        subst e
        exact ⟨v, ho, h F H R .refl v ho trivial⟩
      cases s with
      | un => simp only [q] at h; exact h.elim
      | val d => simp only [q] at h; obtain ⟨v, e, _⟩ := p; exact fin v e h
      | own ds => simp only [q] at h; obtain ⟨a, xs, e, _⟩ := p; exact fin _ e h
      | scr ns => simp only [q] at h; obtain ⟨a, e, _⟩ := p; exact fin _ e h
theorem re_dat {d : Dt} {v : V} (h : PE X e (tC v)) (hr : ∀ K F, Rep K F d v) : PE X e (tE X.K X.mg W (eDat d)) :=
  PE.imp h fun σ H Q ⟨F, en, R, h⟩ => h F H R .refl v (hr _ _) trivial
theorem re_int {i j} : PE X (.Constant (.int i) j pos) (tE X.K X.mg W (eDat (.int i))) := re_dat pe_int fun _ _ => rfl
theorem re_bl {i j} : PE X (.Constant (.bool i) j pos) (tE X.K X.mg W (eDat (.bl i))) := re_dat pe_bl fun _ _ => rfl
theorem re_non {j} : PE X (.Constant .none j pos) (tE X.K X.mg W (eDat .non)) := re_dat pe_non fun _ _ => rfl
theorem re_str (x : Wd) {z : Str} {j} (hz : z = st x := by rfl) : PE X (.Constant (.str z) j pos) (tE X.K X.mg W (eDat (.str x))) := re_dat pe_str fun _ _ => by
  show V.str z = V.str (st x)
  rw [hz]
/-- a module's text or number -/
theorem re_gdat {x : Str} {d : Dt} {v : V} {u : Value} (hg : Gl X x) (hm : X.mg x = some u) (r : RelV v u) (hr : ∀ K F, Rep K F d v) (hd : (x == ("__debug__" : Str)) = false := by decide) : PE X (.Name x pos) (tE X.K X.mg W (eDat d)) :=
  re_dat (pe_glob hg hm r hd) hr

/-! ### built-in operations -/
def VwAll (K : PySem.W.Frag) (F H : Hp) : List Dt → List V → Prop
  | [], vs => vs = []
  | d :: ds, vs => ∃ v t, vs = v :: t ∧ Vw K F H d v ∧ VwAll K F H ds t
def Prim1 (X : Cx) (op : Value → Sem Value) (f : Dt → Option Res) : Prop := ∃ r : V → Hp → VK → Prop, UnR X op r ∧ ∀ F H (a : Dt) (x : V) (c : Res) (Q : VK), Same F H → Vw X.K F H a x → f a = some c →
  (∀ F' H' v, Grow F H F' H' → PrOk X.K H F' H' v c → Q v H') → r x H Q
def Prim2R (X : Cx) (R : (R2) → Prop) (f : Dt → Dt → Option Res) : Prop := ∃ r : R2, R r ∧ ∀ F H (a b : Dt) (x y : V) (c : Res) (Q : VK), Same F H → Vw X.K F H a x → Vw X.K F H b y → f a b = some c →
  (∀ F' H' v, Grow F H F' H' → PrOk X.K H F' H' v c → Q v H') → r x y H Q
abbrev Prim2 (X : Cx) (op : Value → Value → Sem Value) (f : Dt → Dt → Option Res) : Prop := Prim2R X (OpR X op) f
abbrev PrimIx (X : Cx) (f : Dt → Dt → Option Res) : Prop := Prim2R X (IxR X) f
def PrimNR (X : Cx) (R : (List V → Hp → VK → Prop) → Prop) (f : List Dt → Option Res) : Prop := ∃ r, R r ∧ ∀ F H (ds : List Dt) (vs : List V) (c : Res) (Q : VK), Same F H → VwAll X.K F H ds vs → f ds = some c →
  (∀ F' H' v, Grow F H F' H' → PrOk X.K H F' H' v c → Q v H') → r vs H Q
def eUn (f : Dt → Option Res) (ma : M Res) : M Res := fun en => (eOpd ma en).bind fun ra en1 => lift en1 ((vw en1 ra).bind f)
def eBin (f : Dt → Dt → Option Res) (ma mb : M Res) : M Res := fun en => (eOpd ma en).bind fun ra en1 => (eOpd mb en1).bind fun rb en2 => lift en2 ((vw en2 ra).bind fun a => (vw en2 rb).bind fun b => f a b)
def eCB (f : List Dt → Option Res) (ms : M (List Res)) : M Res := fun en => (ms en).bind fun rs en1 => lift en1 ((vws en1 rs).bind f)
end
end Fw

/-! Fw3: operators, tests, calls. -/
namespace Fw
open PySem PySem.Spec PyProof.Rows L2

section
variable {X : Cx} {W : WX} {e a b : Expr} {es : List Expr} {m ma mb : M Res} {ms : M (List Res)} {pos : Pos}
theorem bin_core {f : Dt → Dt → Option Res} {r : R2} (hf : ∀ F H (a b : Dt) (x y : V) (c : Res) (Q : VK), Same F H → Vw X.K F H a x → Vw X.K F H b y → f a b = some c → (∀ F' H' v, Grow F H F' H' → PrOk X.K H F' H' v c → Q v H') → r x y H Q)
    {σ : St} {H : Hp} {Q : VK} (h : tE X.K X.mg W (eBin f ma mb) σ H Q) : tOp r (tE X.K X.mg W ma) (tE X.K X.mg W mb) σ H Q := by
  obtain ⟨F, en, R, h⟩ := h
  refine ⟨F, en, R, (opd h).imp fun F1 H1 en1 r0 _ q x hx fx => ?_⟩
  obtain ⟨F2, ra, R2, p2, n2, hx2, q⟩ := q x hx fx
  refine ⟨F2, en1, R2, (opd q).imp fun F3 H3 en3 r3 _ q y hy fy => ?_⟩
  obtain ⟨F4, rb, R4, p4, n4, hy4, q⟩ := q y hy fy
  obtain ⟨c, ec, fin⟩ := lift_ok (fun b hb => p2.there b (p4.there b hb)) R4 q
  cases e1 : vw en3 ra with
  | none => rw [e1] at ec; cases ec
  | some da =>
    cases e2 : vw en3 rb with
    | none => rw [e1, e2] at ec; cases ec
    | some db =>
      rw [e1, e2] at ec
      exact hf F4 H3 da db x y c Q R4.sub ((hx2.keep (en1 := en3) (H1 := H3) p4.sub n2).vw R4 e1) (hy4.vw R4 e2) ec fin
theorem re_bin {op : Operator} {f : Dt → Dt → Option Res} (hp : Prim2 X (binaryOp op) f) (ha : PE X a (tE X.K X.mg W ma)) (hb : PE X b (tE X.K X.mg W mb)) : PE X (.BinOp a op b pos) (tE X.K X.mg W (eBin f ma mb)) := by
  obtain ⟨r, ho, hf⟩ := hp
  exact PE.imp (pe_op ho ha hb) fun σ H Q h => bin_core hf h
theorem re_cmp {op : CmpOp} {f : Dt → Dt → Option Res} (hp : Prim2 X (compareOp op) f) (ha : PE X a (tE X.K X.mg W ma)) (hb : PE X b (tE X.K X.mg W mb)) (hm : behindInMarks op b = false := by rfl) :
    PE X (.Compare a [op] [b] pos) (tE X.K X.mg W (eBin f ma mb)) := by
  obtain ⟨r, ho, hf⟩ := hp
  exact PE.imp (pe_cmpR ho ha hb hm) fun σ H Q h => bin_core hf h
theorem re_ix {f : Dt → Dt → Option Res} (hp : PrimIx X f) (ha : PE X a (tE X.K X.mg W ma)) (hb : PE X b (tE X.K X.mg W mb)) (hs : PlainIx b := by exact fun _ _ => rfl) : PE X (.Subscript a b pos) (tE X.K X.mg W (eBin f ma mb)) := by
  obtain ⟨r, ho, hf⟩ := hp
  exact PE.imp (pe_ix ho ha hb hs) fun σ H Q h => bin_core hf h
theorem re_un {op : UnaryOp} {f : Dt → Option Res} (hp : Prim1 X (unaryOp op) f) (ha : PE X a (tE X.K X.mg W ma)) : PE X (.UnaryOp op a pos) (tE X.K X.mg W (eUn f ma)) := by
  obtain ⟨r, ho, hf⟩ := hp
  refine PE.imp (pe_un ho ha) fun σ H Q ⟨F, en, R, h⟩ => ⟨F, en, R, (opd h).imp fun F1 H1 en1 r0 _ q x hx fx => ?_⟩
  obtain ⟨F2, ra, R2, p2, n2, hx2, q⟩ := q x hx fx
  obtain ⟨c, ec, fin⟩ := lift_ok p2.there R2 q
  cases e1 : vw en1 ra with
  | none => rw [e1] at ec; cases ec
  | some da =>
    rw [e1] at ec
    exact hf F2 H1 da x c Q R2.sub (hx2.vw R2 e1) ec fin

/-! ### tests -/
def fTru : Dt → Option Bool
  | .non => some false
  | .bl b => some b
  | .int i => some (i != 0)
  | .str x => if x.length ≤ sizeLine then some ((x.length : Int) != 0) else none
  | .tup ds => some (!ds.isEmpty)
  | .lst ds => some (!ds.isEmpty)
  | .dic _ _ => none
  | .exo _ _ => none
def cLift (en : En) (c : Option Bool) : Out Bool := match c with
  | some b => .ok b en
  | none => .stuck
def asBl : Dt → Option Bool
  | .bl b => some b
  | _ => none
/-- by truth -/
def cTru (m : M Res) : M Bool := fun en => (eOpd m en).bind fun r en1 => cLift en1 ((vw en1 r).bind fTru)
/-- of a bool -/
def cBl (m : M Res) : M Bool := fun en => (eOpd m en).bind fun r en1 => cLift en1 ((vw en1 r).bind asBl)
theorem cLift_ok {K : PySem.W.Frag} {mg : Str → Option Value} {F H : Hp} {en : En} {σ : St} {c : Option Bool} {Q : Bool → Hp → Prop} (R : Rel K F H en σ)
    (h : OutOk K mg W F H en σ (cLift en c) fun F' H' en' b => Q b H') : ∃ b, c = some b ∧ Q b H := by
  cases c with
  | none => exact h.elim
  | some b => exact ⟨b, rfl, h F H R .refl⟩
theorem Vw.tru {K : PySem.W.Frag} {F H : Hp} {d : Dt} {v : V} {k : Bool} (s : Same F H) (h : Vw K F H d v) (e : fTru d = some k) : TruV K v H k := by
  cases d with
  | dic _ _ => cases e
  | non => cases h; cases e; rfl
  | exo _ _ => cases e
  | bl b => cases h; cases e; rfl
  | int i => cases h; cases e; rfl
  | str x =>
    cases h
    unfold fTru at e
    by_cases hz : x.length ≤ sizeLine
    · simp only [if_pos hz] at e
      cases e
      exact ⟨by rw [st_len]; exact hz, by rw [st_len]⟩
    · simp only [if_neg hz] at e; cases e
  | tup ds =>
    obtain ⟨a, xs, rfl, q, r⟩ := h
    cases e
    refine .inr (.inl ⟨xs, Same.seqT s q, ?_⟩)
    have := r.length
    cases ds <;> cases xs <;> simp_all
  | lst ds =>
    obtain ⟨a, xs, rfl, q, r⟩ := h
    cases e
    refine .inl ⟨xs, SqL.of q, ?_⟩
    have := r.length
    cases ds <;> cases xs <;> simp_all
theorem rt_tru (ha : PE X a (tE X.K X.mg W m)) (he : ∀ whole, isTrue a X.env whole = (do let v ← whole; standAt a.pos; holding [v] (truthy v)) := by exact fun _ => rfl) : PT X a (tT X.K X.mg W (cTru m)) :=
  PT.imp (pt_truth ha he) fun σ H Q ⟨F, en, R, h⟩ => ⟨F, en, R, (opd h).imp fun F1 H1 en1 r0 _ q x hx fx => by
    obtain ⟨F2, ra, R2, p2, n2, hx2, q⟩ := q x hx fx
    obtain ⟨b, eb, fin⟩ := cLift_ok R2 q
    cases e1 : vw en1 ra with
    | none => rw [e1] at eb; cases eb
    | some da =>
      rw [e1] at eb
      exact ⟨b, (hx2.vw R2 e1).tru R2.sub eb, fin⟩⟩
/-- a bool as an expression's value -/
theorem bl_core {σ : St} {H : Hp} {Q : Bool → Hp → Prop} (h : tT X.K X.mg W (cBl m) σ H Q) : tE X.K X.mg W m σ H fun x H' => ∃ k, x = .bl k ∧ Q k H' := by
  obtain ⟨F, en, R, h⟩ := h
  refine ⟨F, en, R, (opd h).imp fun F1 H1 en1 r0 _ q x hx fx => ?_⟩
  obtain ⟨F2, ra, R2, p2, n2, hx2, q⟩ := q x hx fx
  obtain ⟨b, eb, fin⟩ := cLift_ok R2 q
  cases e1 : vw en1 ra with
  | none => rw [e1] at eb; cases eb
  | some da =>
    rw [e1] at eb
    have vx := hx2.vw R2 e1
    cases da with
    | bl k => cases eb; exact ⟨b, vx, fin⟩
    | _ => cases eb
theorem rt_cmp {op : CmpOp} {f : Dt → Dt → Option Res} (hp : Prim2 X (compareOp op) f) (ha : PE X a (tE X.K X.mg W ma)) (hb : PE X b (tE X.K X.mg W mb)) (hm : behindInMarks op b = false := by rfl) :
    PT X (.Compare a [op] [b] pos) (tT X.K X.mg W (cBl (eBin f ma mb))) := by
  obtain ⟨r, ho, hf⟩ := hp
  exact PT.imp (pt_cmpR ho ha hb hm) fun σ H Q h => bin_core hf (bl_core h)
/-- a test of a test -/
theorem tT_bind {K : PySem.W.Frag} {mg : Str → Option Value} {σ : St} {H : Hp} {Q : Bool → Hp → Prop} {c : M Bool} {k : Bool → M Bool} (h : tT K mg W (fun en => (c en).bind fun b en1 => k b en1) σ H Q) :
    tT K mg W c σ H fun b H1 => tT K mg W (k b) σ H1 Q := by
  obtain ⟨F, en, R, h⟩ := h
  exact ⟨F, en, R, (OutOk.ofBind h).imp fun F1 H1 en1 b _ ⟨R1, p1, q⟩ => ⟨F1, en1, R1, q.bind p1⟩⟩
theorem tT_ok {K : PySem.W.Frag} {mg : Str → Option Value} {σ : St} {H : Hp} {Q : Bool → Hp → Prop} {b : Bool} (h : tT K mg W (fun en => .ok b en) σ H Q) : Q b H := by
  obtain ⟨F, en, R, h⟩ := h
  exact h F H R .refl
def cNot (c : M Bool) : M Bool := fun en => (c en).bind fun b en1 => .ok (!b) en1
def cAnd (c d : M Bool) : M Bool := fun en => (c en).bind fun b en1 => if b = true then d en1 else .ok false en1
def cOr (c d : M Bool) : M Bool := fun en => (c en).bind fun b en1 => if b = true then .ok true en1 else d en1
variable {c d : M Bool} {rest : List Expr}
theorem rt_not (ha : PT X a (tT X.K X.mg W c)) : PT X (.UnaryOp .Not a pos) (tT X.K X.mg W (cNot c)) :=
  PT.imp (pt_not ha) fun σ H Q ⟨F, en, R, h⟩ => ⟨F, en, R, (OutOk.ofBind h).imp fun F1 H1 en1 b _ ⟨R1, p1, q⟩ => q F1 H1 R1 p1⟩
structure PWt (X : Cx) (W : WX) (e : Expr) (c : M Bool) : Prop where
  w : PW X e (tT X.K X.mg W c)
theorem PW.imp {X : Cx} {e : Expr} {t t' : TT} (h : PW X e t) (i : ∀ σ H Q, t' σ H Q → t σ H Q) : PW X e t' := ⟨fun wh pins s σ H Q I q => h.run wh pins s σ H Q I (i σ H Q q)⟩
theorem rw_and1 (ha : PT X a (tT X.K X.mg W c)) : PWt X W (.BoolOp .And [a] pos) c := ⟨pw_and1 ha⟩
theorem rw_or1 (ha : PT X a (tT X.K X.mg W c)) : PWt X W (.BoolOp .Or [a] pos) c := ⟨pw_or1 ha⟩
theorem rw_and (ha : PT X a (tT X.K X.mg W c)) (hb : PWt X W (.BoolOp .And (b :: rest) pos) d) : PWt X W (.BoolOp .And (a :: b :: rest) pos) (cAnd c d) :=
  ⟨PW.imp (pw_and ha hb.w) fun σ H Q ⟨F, en, R, h⟩ => ⟨F, en, R, (OutOk.ofBind h).imp fun F1 H1 en1 b _ ⟨R1, p1, q⟩ => by
    cases b with
    | true => exact ⟨F1, en1, R1, q.bind p1⟩
    | false => exact q F1 H1 R1 p1⟩⟩
theorem rw_or (ha : PT X a (tT X.K X.mg W c)) (hb : PWt X W (.BoolOp .Or (b :: rest) pos) d) : PWt X W (.BoolOp .Or (a :: b :: rest) pos) (cOr c d) :=
  ⟨PW.imp (pw_or ha hb.w) fun σ H Q ⟨F, en, R, h⟩ => ⟨F, en, R, (OutOk.ofBind h).imp fun F1 H1 en1 b _ ⟨R1, p1, q⟩ => by
    cases b with
    | false => exact ⟨F1, en1, R1, q.bind p1⟩
    | true => exact q F1 H1 R1 p1⟩⟩
theorem rt_w (h : PWt X W e c) : PT X e (tT X.K X.mg W c) := h.w.pt
/-- .. as values (bools) -/
def eAnd (ma mb : M Res) : M Res := fun en => (cBl ma en).bind fun b en1 => if b = true then mb en1 else .ok (.dat (.bl false)) en1
def eOr (ma mb : M Res) : M Res := fun en => (cBl ma en).bind fun b en1 => if b = true then .ok (.dat (.bl true)) en1 else mb en1
def eNot (ma : M Res) : M Res := fun en => (cBl ma en).bind fun b en1 => .ok (.dat (.bl (!b))) en1
def eIf (c : M Bool) (ma mb : M Res) : M Res := fun en => (c en).bind fun b en1 => if b = true then ma en1 else mb en1
theorem bl_bind {σ : St} {H : Hp} {Q : VK} {k : Bool → M Res} (h : tE X.K X.mg W (fun en => (cBl m en).bind fun b en1 => k b en1) σ H Q) :
    tE X.K X.mg W m σ H fun x H1 => ∃ c, x = .bl c ∧ tE X.K X.mg W (k c) σ H1 Q := by
  obtain ⟨F, en, R, h⟩ := h
  refine bl_core ⟨F, en, R, (OutOk.ofBind h).imp fun F1 H1 en1 b _ ⟨R1, p1, q⟩ => ⟨F1, en1, R1, (q.bind p1).imp fun F' H' en' r R' g v hv fr => g v hv ?_⟩⟩
  cases r with
  | new ds => exact fun a e => p1.there a (fr a e)
  | _ => trivial
theorem tE_bl {σ : St} {H : Hp} {Q : VK} {b : Bool} (h : tE X.K X.mg W (fun en => .ok (.dat (.bl b)) en) σ H Q) : Q (.bl b) H := by
  obtain ⟨F, en, R, h⟩ := h
  exact h F H R .refl _ rfl trivial
theorem re_one {op} (h : PE X a (tE X.K X.mg W m)) : PE X (.BoolOp op [a] pos) (tE X.K X.mg W m) := pe_one h
theorem re_and (ha : PE X a (tE X.K X.mg W ma)) (hb : PE X (.BoolOp .And (b :: rest) pos) (tE X.K X.mg W mb)) : PE X (.BoolOp .And (a :: b :: rest) pos) (tE X.K X.mg W (eAnd ma mb)) :=
  PE.imp (pe_and ha hb) fun σ H Q h => by
    obtain ⟨F, en, R, q⟩ := bl_bind (k := fun b en1 => if b = true then mb en1 else .ok (.dat (.bl false)) en1) h
    refine ⟨F, en, R, q.imp fun F1 H1 en1 r R1 g v hv fr => ?_⟩
    obtain ⟨c, e, g⟩ := g v hv fr
    refine ⟨c, e, ?_⟩
    cases c with
    | true => exact g
    | false => exact tE_bl (X := X) g
theorem re_or (ha : PE X a (tE X.K X.mg W ma)) (hb : PE X (.BoolOp .Or (b :: rest) pos) (tE X.K X.mg W mb)) : PE X (.BoolOp .Or (a :: b :: rest) pos) (tE X.K X.mg W (eOr ma mb)) :=
  PE.imp (pe_or ha hb) fun σ H Q h => by
    obtain ⟨F, en, R, q⟩ := bl_bind (k := fun b en1 => if b = true then .ok (.dat (.bl true)) en1 else mb en1) h
    refine ⟨F, en, R, q.imp fun F1 H1 en1 r R1 g v hv fr => ?_⟩
    obtain ⟨c, e, g⟩ := g v hv fr
    refine ⟨c, e, ?_⟩
    cases c with
    | false => exact g
    | true => exact tE_bl (X := X) g
theorem re_not (ha : PE X a (tE X.K X.mg W ma)) : PE X (.UnaryOp .Not a pos) (tE X.K X.mg W (eNot ma)) :=
  PE.imp (pe_not ha) fun σ H Q h => by
    obtain ⟨F, en, R, q⟩ := bl_bind (k := fun b en1 => .ok (.dat (.bl (!b))) en1) h
    refine ⟨F, en, R, q.imp fun F1 H1 en1 r R1 g v hv fr => ?_⟩
    obtain ⟨c, e, g⟩ := g v hv fr
    exact ⟨c, e, tE_bl (X := X) g⟩
theorem re_if (hc : PT X e (tT X.K X.mg W c)) (ha : PE X a (tE X.K X.mg W ma)) (hb : PE X b (tE X.K X.mg W mb)) : PE X (.IfExp e a b pos) (tE X.K X.mg W (eIf c ma mb)) :=
  PE.imp (pe_ifExp hc ha hb) fun σ H Q ⟨F, en, R, h⟩ => ⟨F, en, R, (OutOk.ofBind h).imp fun F1 H1 en1 b _ ⟨R1, p1, q⟩ => by
    cases b with
    | true =>
      refine ⟨F1, en1, R1, (q.bind p1).imp fun F' H' en' r R' g v hv fr => g v hv ?_⟩
      cases r with
      | new ds => exact fun a e => p1.there a (fr a e)
      | _ => trivial
    | false =>
      refine ⟨F1, en1, R1, (q.bind p1).imp fun F' H' en' r R' g v hv fr => g v hv ?_⟩
      cases r with
      | new ds => exact fun a e => p1.there a (fr a e)
      | _ => trivial⟩
end
end Fw

/-! Fw4: statements, calls of defs. -/
namespace Fw
open PySem PySem.Spec PyProof.Rows L2

theorem PS.imp {X : Cx} {e : Stmt} {t t' : TS} (h : PS X e t) (i : ∀ D σ H, t' D σ H → t D σ H) : PS X e t' := ⟨fun pins s σ H D I q => h.run pins s σ H D I (i D σ H q)⟩
theorem PSs.imp {X : Cx} {e : List Stmt} {t t' : TS} (h : PSs X e t) (i : ∀ D σ H, t' D σ H → t D σ H) : PSs X e t' := ⟨fun pins s σ H D I q => h.run pins s σ H D I (i D σ H q)⟩

/-- a statement's outcome -/
inductive OutS where
  | nx (en : En) | ret (r : Res) (en : En) | brk (en : En) | cont (en : En) | exc (c : Str) (d : Dt) (en : En) | stuck
abbrev MS := En → OutS
/-- what is handed back: data, or a list that is nobody else's -/
def RetOk (K : PySem.W.Frag) (F0 H0 : Hp) (A : Addr → Prop) (F H : Hp) (en : En) (σ : St) (v : V) : Res → Prop
  | .dat d => Rep K F d v
  | .new c => ∃ a xs, v = .ref a ∧ H a = some (c.ho xs) ∧ F a = none ∧ ¬ Own en σ a ∧ (A a ∨ H0 a = none) ∧ RepC K F c xs
  | .slt _ => False
def SOk (K : PySem.W.Frag) (mg : Str → Option Value) (W : WX) (fx : Nat) (F H : Hp) (en : En) (σ : St) (D : Ends) (o : OutS) : Prop :=
  match o with
  | .nx en' => ∀ σ' F' H', Rel K F' H' en' σ' → Post F H (Own en σ) F' H' (Own en' σ') → σ'.take fx = σ.take fx → D.nx σ' H'
  | .brk en' => ∀ σ' F' H', Rel K F' H' en' σ' → Post F H (Own en σ) F' H' (Own en' σ') → σ'.take fx = σ.take fx → D.bk σ' H'
  | .cont en' => ∀ σ' F' H', Rel K F' H' en' σ' → Post F H (Own en σ) F' H' (Own en' σ') → σ'.take fx = σ.take fx → D.ct σ' H'
  | .ret r en' => ∀ v σ' F' H', Rel K F' H' en' σ' → Post F H (Own en σ) F' H' (Own en' σ') → σ'.take fx = σ.take fx → RetOk K F H (Own en σ) F' H' en' σ' v r → D.rt v H'
  | .exc c d en' => ∀ cls dx σ' F' H', Rel K F' H' en' σ' → Post F H (Own en σ) F' H' (Own en' σ') → σ'.take fx = σ.take fx → ExcOk K mg F' H' cls dx c d → W cls dx σ' H'
  | .stuck => False
def tS (K : PySem.W.Frag) (mg : Str → Option Value) (W : WX) (fx : Nat) (m : MS) : TS := fun D σ H => ∃ F en, Rel K F H en σ ∧ SOk K mg W fx F H en σ D (m en)

section
variable {K : PySem.W.Frag} {mg : Str → Option Value} {W : WX} {fx : Nat} {F F1 H H1 : Hp} {en en1 : En} {σ σ1 : St} {D : Ends}
/-- seen from an earlier start -/
theorem SOk.bind {o : OutS} (p : Post F H (Own en σ) F1 H1 (Own en1 σ1)) (ht : σ1.take fx = σ.take fx) (h : SOk K mg W fx F H en σ D o) : SOk K mg W fx F1 H1 en1 σ1 D o := by
  cases o with
  | nx en' => exact fun σ' F' H' r' p' t => h σ' F' H' r' (p.trans p') (t.trans ht)
  | brk en' => exact fun σ' F' H' r' p' t => h σ' F' H' r' (p.trans p') (t.trans ht)
  | cont en' => exact fun σ' F' H' r' p' t => h σ' F' H' r' (p.trans p') (t.trans ht)
  | ret r en' =>
    intro v σ' F' H' r' p' t q
    refine h v σ' F' H' r' (p.trans p') (t.trans ht) ?_
    cases r with
    | dat d => exact q
    | new ds =>
      obtain ⟨a, xs, e, h1, h2, h3, h4, q⟩ := q
      refine ⟨a, xs, e, h1, h2, h3, ?_, q⟩
      rcases h4 with z | z
      · exact p.own a z
      · exact .inr (p.there a z)
    | slt i => exact q
  | exc c d en' => exact fun cls dx σ' F' H' r' p' t x => h cls dx σ' F' H' r' (p.trans p') (t.trans ht) x
  | stuck => exact h

/-- one's own list is changed -/
theorem mut_slot {i : Nat} {ds es : Cn} {a : Addr} {ys : List V} (R : Rel K F H en σ) (hi : en[i]? = some (.own ds)) (hv : σ[i]? = some (some (.ref a))) (q : RepC K F es ys) :
    Rel K F (upd H a (es.ho ys)) (en.set i (.own es)) σ ∧ Post F H (Own en σ) F (upd H a (es.ho ys)) (Own (en.set i (.own es)) σ) := by
  obtain ⟨b, xs, e, h1, h2, _⟩ := R.ok i _ _ hi hv
  cases e
  have hlt : i < en.length := (List.getElem?_eq_some_iff.mp hi).1
  have own' : ∀ (j : Nat) (fs : Cn), (en.set i (.own es))[j]? = some (.own fs) → ∃ gs, en[j]? = some (.own gs) := fun j fs e => by
    by_cases hj : j = i
    · subst hj; exact ⟨_, hi⟩
    · rw [List.getElem?_set_ne (Ne.symm hj)] at e; exact ⟨_, e⟩
  have nF : ∀ b o, F b = some o → b ≠ a := fun b o e z => by subst z; rw [h2] at e; cases e
  refine ⟨⟨fun b o e => by rw [upd_ne (nF b o e)]; exact R.sub b o e, by rw [List.length_set]; exact R.len, fun j s o e1 e2 => ?_, fun j k fs gs b e1 e2 e3 e4 => ?_⟩,
    ⟨Same.refl _, fun b o e n => ?_, fun b e => ?_, fun b o e => .inl e, fun b ⟨j, fs, e1, e2⟩ => ?_⟩⟩
  · by_cases hj : j = i
    · subst hj
      rw [List.getElem?_set_self hlt] at e1; cases e1
      rw [hv] at e2; cases e2
      exact ⟨a, ys, rfl, upd_same, h2, q⟩
    · rw [List.getElem?_set_ne (Ne.symm hj)] at e1
      have p := R.ok j s o e1 e2
      cases s with
      | un => trivial
      | val d => exact p
      | scr ns => exact p
      | own fs =>
        obtain ⟨b, zs, e, h3, h4, p⟩ := p
        refine ⟨b, zs, e, ?_, h4, p⟩
        rw [upd_ne ?_]
        · exact h3
        · rintro rfl
          exact hj (R.ne j i _ _ _ e1 hi (by rw [e2, e]) hv)
  · obtain ⟨_, e1'⟩ := own' j fs e1
    obtain ⟨_, e2'⟩ := own' k gs e2
    exact R.ne j k _ _ b e1' e2' e3 e4
  · rw [upd_ne ?_]
    · exact e
    · rintro rfl; exact n ⟨i, ds, hi, hv⟩
  · by_cases hb : b = a
    · subst hb; rw [upd_same] at e; cases e
    · rw [upd_ne hb] at e; exact e
  · obtain ⟨_, e1'⟩ := own' j fs e1
    exact .inl ⟨j, _, e1', e2⟩
theorem own_set_val {i : Nat} {d : Dt} {b : Addr} {v : Option V} (h : Own (en.set i (.val d)) (σ.set i v) b) : Own en σ b := by
  obtain ⟨j, fs, e1, e2⟩ := h
  by_cases hj : j = i
  · subst hj
    rw [List.getElem?_set] at e1
    simp at e1
  · rw [List.getElem?_set_ne (Ne.symm hj)] at e1 e2
    exact ⟨j, fs, e1, e2⟩
/-- data is stored -/
theorem store_val {i : Nat} {d : Dt} {v : V} (R : Rel K F H en σ) (q : Rep K F d v) : Rel K F H (en.set i (.val d)) (σ.set i (some v)) ∧ Post F H (Own en σ) F H (Own (en.set i (.val d)) (σ.set i (some v))) := by
  refine ⟨⟨R.sub, by rw [List.length_set, List.length_set]; exact R.len, fun j s o e1 e2 => ?_, fun j k fs gs b e1 e2 e3 e4 => ?_⟩, ⟨Same.refl _, fun _ _ h _ => h, fun _ h => h, fun _ _ h => .inl h, fun b h => .inl (own_set_val h)⟩⟩
  · by_cases hj : j = i
    · subst hj
      rw [List.getElem?_set] at e1 e2
      simp only [if_pos trivial] at e1 e2
      split at e1
      · cases e1
        split at e2
        · cases e2; exact ⟨v, rfl, q⟩
        · cases e2
      · cases e1
    · rw [List.getElem?_set_ne (Ne.symm hj)] at e1 e2
      exact R.ok j s o e1 e2
  · by_cases hj : j = i
    · subst hj
      rw [List.getElem?_set] at e1
      simp at e1
    · by_cases hk : k = i
      · subst hk
        rw [List.getElem?_set] at e2
        simp at e2
      · rw [List.getElem?_set_ne (Ne.symm hj)] at e1 e3
        rw [List.getElem?_set_ne (Ne.symm hk)] at e2 e4
        exact R.ne j k fs gs b e1 e2 e3 e4
/-- a new list is stored -/
theorem store_own {i : Nat} {ds : Cn} {a : Addr} {xs : List V} {H0 : Hp} {F0 : Hp} {A0 : Addr → Prop} (p : Post F0 H0 A0 F H (Own en σ)) (R : Rel K F H en σ) (h1 : H a = some (ds.ho xs)) (h2 : F a = none) (h3 : ¬ Own en σ a) (n : H0 a = none) (q : RepC K F ds xs) :
    Rel K F H (en.set i (.own ds)) (σ.set i (some (.ref a))) ∧ Post F0 H0 A0 F H (Own (en.set i (.own ds)) (σ.set i (some (.ref a)))) := by
  have old : ∀ (j : Nat) (fs : Cn) (b : Addr), (en.set i (.own ds))[j]? = some (.own fs) → (σ.set i (some (.ref a)))[j]? = some (some (.ref b)) → (j = i ∧ b = a) ∨ (j ≠ i ∧ en[j]? = some (.own fs) ∧ σ[j]? = some (some (.ref b))) := fun j fs b e1 e2 => by
    by_cases hj : j = i
    · subst hj
      rw [List.getElem?_set] at e2
      simp only [if_pos trivial] at e2
      split at e2
      · cases e2; exact .inl ⟨rfl, rfl⟩
      · cases e2
    · rw [List.getElem?_set_ne (Ne.symm hj)] at e1 e2
      exact .inr ⟨hj, e1, e2⟩
  refine ⟨⟨R.sub, by rw [List.length_set, List.length_set]; exact R.len, fun j s o e1 e2 => ?_, fun j k fs gs b e1 e2 e3 e4 => ?_⟩, ⟨p.sub, p.keep, p.there, p.frz, fun b ⟨j, fs, e1, e2⟩ => ?_⟩⟩
  · by_cases hj : j = i
    · subst hj
      rw [List.getElem?_set] at e1 e2
      simp only [if_pos trivial] at e1 e2
      split at e1
      · cases e1
        split at e2
        · cases e2; exact ⟨a, xs, rfl, h1, h2, q⟩
        · cases e2
      · cases e1
    · rw [List.getElem?_set_ne (Ne.symm hj)] at e1 e2
      exact R.ok j s o e1 e2
  · rcases old j fs b e1 e3 with ⟨z1, z2⟩ | ⟨z1, z2, z3⟩ <;> rcases old k gs b e2 e4 with ⟨y1, y2⟩ | ⟨y1, y2, y3⟩
    · rw [z1, y1]
    · subst z2; exact absurd ⟨k, gs, y2, y3⟩ h3
    · subst y2; exact absurd ⟨j, fs, z2, z3⟩ h3
    · exact R.ne j k fs gs b z2 y2 z3 y3
  · rcases old j fs b e1 e2 with ⟨z1, z2⟩ | ⟨z1, z2, z3⟩
    · subst z2; exact .inr n
    · exact p.own b ⟨j, fs, z2, z3⟩
theorem take_set {α : Type} {l : List α} {i : Nat} {x : α} {fx : Nat} (h : fx ≤ i) : (l.set i x).take fx = l.take fx := by
  rw [List.take_set, List.set_eq_of_length_le]
  rw [List.length_take]; omega
end

/-! ### blocks -/
def OutS.seq (o : OutS) (m : MS) : OutS := match o with
  | .nx en => m en
  | o => o
def sSeq (m k : MS) : MS := fun en => (m en).seq k
def sSkip : MS := fun en => .nx en
def sRaiseStuck : MS := fun _ => .stuck
/-- behind an expression -/
def Out.then {α : Type} (o : Out α) (k : α → En → OutS) : OutS := match o with
  | .ok a en => k a en
  | .exc c d en => .exc c d en
  | .stuck => .stuck
section
variable {X : Cx} {W : WX} {fx : Nat} {e a b : Expr} {es : List Expr} {m : M Res} {ma mb : MS} {st' : Stmt} {rest : List Stmt} {pos : Pos} {c : M Bool}
theorem rss_nil : PSs X [] (tS X.K X.mg W fx sSkip) := PSs.imp pss_nil fun D σ H ⟨F, en, R, h⟩ => h σ F H R .refl rfl
theorem rss_cons (h1 : PS X st' (tS X.K X.mg W fx ma)) (h2 : PSs X rest (tS X.K X.mg W fx mb)) : PSs X (st' :: rest) (tS X.K X.mg W fx (sSeq ma mb)) :=
  PSs.imp (pss_cons h1 h2) fun D σ H ⟨F, en, R, h⟩ => by
    refine ⟨F, en, R, ?_⟩
    unfold sSeq at h
    cases q : ma en with
    | nx en' => rw [q] at h; exact fun σ' F' H' R' p' t' => ⟨F', en', R', h.bind p' t'⟩
    | brk en' => rw [q] at h; exact h
    | cont en' => rw [q] at h; exact h
    | ret r en' => rw [q] at h; exact h
    | exc c d en' => rw [q] at h; exact h
    | stuck => rw [q] at h; exact h
theorem rss_one (h1 : PS X st' (tS X.K X.mg W fx ma)) : PSs X [st'] (tS X.K X.mg W fx ma) := pss_one h1
/-- from a statement's outcome back to its expression's -/
theorem SOk.ofThen {α : Type} {K : PySem.W.Frag} {mg : Str → Option Value} {F H : Hp} {en : En} {σ : St} {D : Ends} {o : Out α} {k : α → En → OutS} (h : SOk K mg W fx F H en σ D (o.then k)) :
    OutOk K mg W F H en σ o fun F1 H1 en1 a => Rel K F1 H1 en1 σ ∧ Post F H (Own en σ) F1 H1 (Own en1 σ) ∧ SOk K mg W fx F H en σ D (k a en1) := by
  cases o with
  | ok a en1 => exact fun F1 H1 R p => ⟨R, p, h⟩
  | exc c d en1 => exact fun cls dx F1 H1 R p x => h cls dx σ F1 H1 R p rfl x
  | stuck => exact h
theorem rs_pass : PS X (.Pass pos) (tS X.K X.mg W fx sSkip) := PS.imp ps_pass fun D σ H ⟨F, en, R, h⟩ => h σ F H R .refl rfl
theorem rs_break : PS X (.Break pos) (tS X.K X.mg W fx fun en => .brk en) := PS.imp ps_break fun D σ H ⟨F, en, R, h⟩ => h σ F H R .refl rfl
theorem rs_continue : PS X (.Continue pos) (tS X.K X.mg W fx fun en => .cont en) := PS.imp ps_continue fun D σ H ⟨F, en, R, h⟩ => h σ F H R .refl rfl
theorem rs_doc {x j pos'} : PS X (.Expr (.Constant (.str x) j pos) pos') (tS X.K X.mg W fx sSkip) := PS.imp ps_doc fun D σ H ⟨F, en, R, h⟩ => h σ F H R .refl rfl
/-- code that is never come to -/
theorem rs_never : PS X st' (tS X.K X.mg W fx fun _ => .stuck) := PS.imp ps_never fun D σ H ⟨F, en, R, h⟩ => h
def sDrop (m : M Res) : MS := fun en => (m en).then fun _ en1 => .nx en1
theorem rs_expr (he : PE X e (tE X.K X.mg W m)) (hs : swapsWith e none pos.line X.env = pure false := by rfl) : PS X (.Expr e pos) (tS X.K X.mg W fx (sDrop m)) :=
  PS.imp (ps_expr he hs) fun D σ H ⟨F, en, R, h⟩ => ⟨F, en, R, h.ofThen.imp fun F1 H1 en1 r _ ⟨R1, p1, q⟩ v _ _ => q σ F1 H1 R1 p1 rfl⟩
def sIf (c : M Bool) (ma mb : MS) : MS := fun en => (c en).then fun b en1 => if b = true then ma en1 else mb en1
theorem rs_if {l r : List Stmt} (hc : PT X e (tT X.K X.mg W c)) (ha : PSs X l (tS X.K X.mg W fx ma)) (hb : PSs X r (tS X.K X.mg W fx mb)) : PS X (.If e l r pos) (tS X.K X.mg W fx (sIf c ma mb)) :=
  PS.imp (ps_if hc ha hb) fun D σ H ⟨F, en, R, h⟩ => ⟨F, en, R, h.ofThen.imp fun F1 H1 en1 b _ ⟨R1, p1, q⟩ => by
    cases b with
    | true => exact ⟨F1, en1, R1, q.bind p1 rfl⟩
    | false => exact ⟨F1, en1, R1, q.bind p1 rfl⟩⟩
/-- return e: a list of one's own goes along -/
def sRet (fx : Nat) (m : M Res) : MS := fun en => (m en).then fun r en1 => match r with
  | .dat d => .ret (.dat d) en1
  | .new ds => .ret (.new ds) en1
  | .slt i => match en1[i]? with
    | some (.val d) => .ret (.dat d) en1
    | some (.own ds) => if fx ≤ i then .ret (.new ds) (en1.set i .un) else .stuck
    | _ => .stuck
theorem drop_slot {K : PySem.W.Frag} {F H : Hp} {en : En} {σ : St} {i : Nat} {ds : Cn} {a : Addr} (R : Rel K F H en σ) (hi : en[i]? = some (.own ds)) (hv : σ[i]? = some (some (.ref a))) :
    Rel K F H (en.set i .un) σ ∧ (∀ b, Own (en.set i .un) σ b → Own en σ b) ∧ ¬ Own (en.set i .un) σ a := by
  have hlt : i < en.length := (List.getElem?_eq_some_iff.mp hi).1
  have old : ∀ (j : Nat) s, (en.set i .un)[j]? = some s → s ≠ .un → j ≠ i ∧ en[j]? = some s := fun j s e n => by
    by_cases hj : j = i
    · subst hj; rw [List.getElem?_set_self hlt] at e; cases e; exact absurd rfl n
    · rw [List.getElem?_set_ne (Ne.symm hj)] at e; exact ⟨hj, e⟩
  refine ⟨⟨R.sub, by rw [List.length_set]; exact R.len, fun j s o e1 e2 => ?_, fun j k fs gs b e1 e2 e3 e4 => R.ne j k fs gs b (old j _ e1 (by intro z; cases z)).2 (old k _ e2 (by intro z; cases z)).2 e3 e4⟩, fun b ⟨j, fs, e1, e2⟩ => ⟨j, fs, (old j _ e1 (by intro z; cases z)).2, e2⟩, fun ⟨j, fs, e1, e2⟩ => ?_⟩
  · cases s with
    | un => trivial
    | val d => exact R.ok j _ o (old j _ e1 (by intro z; cases z)).2 e2
    | own fs => exact R.ok j _ o (old j _ e1 (by intro z; cases z)).2 e2
    | scr ns => exact R.ok j _ o (old j _ e1 (by intro z; cases z)).2 e2
  · obtain ⟨n, e⟩ := old j _ e1 (by intro z; cases z)
    exact n (R.ne j i _ _ a e hi e2 hv)
theorem rs_ret (he : PE X e (tE X.K X.mg W m)) : PS X (.Return (some e) pos) (tS X.K X.mg W fx (sRet fx m)) :=
  PS.imp (ps_ret he) fun D σ H ⟨F, en, R, h⟩ => ⟨F, en, R, h.ofThen.imp fun F1 H1 en1 r _ ⟨R1, p1, q⟩ v hv fr => by
    cases r with
    | dat d => exact q v σ F1 H1 R1 p1 rfl hv
    | new ds =>
      obtain ⟨a, xs, e, h1, h2, h3, g⟩ := hv
      exact q v σ F1 H1 R1 p1 rfl ⟨a, xs, e, h1, h2, h3, .inr (fr a e), g⟩
    | slt i =>
      have hv : σ[i]? = some (some v) := hv
      cases z : en1[i]? with
      | none => simp only [z] at q; exact q.elim
      | some s =>
        have pp := R1.ok i s _ z hv
        cases s with
        | un => simp only [z] at q; exact q.elim
        | scr ns => simp only [z] at q; exact q.elim
        | val d => simp only [z] at q; obtain ⟨v', e, pp⟩ := pp; cases e; exact q v σ F1 H1 R1 p1 rfl pp
        | own ds =>
          simp only [z] at q
          split at q
          · obtain ⟨a, xs, e, h1, h2, pp⟩ := pp
            cases e
            obtain ⟨R2, o2, n2⟩ := drop_slot R1 z hv
            refine q _ σ F1 H1 R2 ⟨p1.sub, p1.keep, p1.there, p1.frz, fun b hb => p1.own b (o2 b hb)⟩ rfl ⟨a, xs, rfl, h1, h2, n2, p1.own a ⟨i, ds, z, hv⟩, pp⟩
          · exact q.elim⟩
theorem rs_retN : PS X (.Return none pos) (tS X.K X.mg W fx fun en => .ret (.dat .non) en) := PS.imp ps_retN fun D σ H ⟨F, en, R, h⟩ => h _ σ F H R .refl rfl rfl
/-- name = value -/
def putR (i : Nat) (r : Res) (en : En) : OutS := match r with
  | .dat d => .nx (en.set i (.val d))
  | .new ds => .nx (en.set i (.own ds))
  | .slt j => match en[j]? with
    | some (.val d) => .nx (en.set i (.val d))
    | some (.own ds) => .nx ((en.set j (.val ds.frz)).set i (.val ds.frz))
    | _ => .stuck
def sSet (i : Nat) (m : M Res) : MS := fun en => (m en).then (putR i)
theorem put_ok {K : PySem.W.Frag} {mg : Str → Option Value} {F H F1 H1 : Hp} {en en1 : En} {σ : St} {D : Ends} {i : Nat} {r : Res} {v : V} (hf : fx ≤ i) (R1 : Rel K F1 H1 en1 σ) (p1 : Post F H (Own en σ) F1 H1 (Own en1 σ))
    (q : SOk K mg W fx F H en σ D (putR i r en1)) (hv : ResOk K F1 H1 en1 σ v r) (fr : Fresh H v r) : D.nx (σ.set i (some v)) H1 := by
  cases r with
  | dat d =>
    obtain ⟨R2, p2⟩ := store_val (i := i) R1 hv
    exact q _ F1 H1 R2 (p1.trans p2) (take_set hf)
  | new ds =>
    obtain ⟨a, xs, e, h1, h2, h3, g⟩ := hv
    subst e
    obtain ⟨R2, p2⟩ := store_own (i := i) p1 R1 h1 h2 h3 (fr a rfl) g
    exact q _ F1 H1 R2 p2 (take_set hf)
  | slt j =>
    have hv : σ[j]? = some (some v) := hv
    unfold putR at q
    cases z : en1[j]? with
    | none => simp only [z] at q; exact q.elim
    | some s =>
      have pp := R1.ok j s _ z hv
      cases s with
      | un => simp only [z] at q; exact q.elim
      | scr ns => simp only [z] at q; exact q.elim
      | val d =>
        simp only [z] at q; obtain ⟨v', e, pp⟩ := pp; cases e
        obtain ⟨R2, p2⟩ := store_val (i := i) R1 pp
        exact q _ F1 H1 R2 (p1.trans p2) (take_set hf)
      | own ds =>
        simp only [z] at q
        obtain ⟨F2, R2, p2, pp⟩ := freeze_slot R1 z hv
        obtain ⟨R3, p3⟩ := store_val (i := i) R2 pp
        exact q _ F2 H1 R3 ((p1.trans p2).trans p3) (take_set hf)
theorem rs_set (i : Nat) {x : Str} {pos' : Pos} (hf : fx ≤ i) (hN : X.N.Nodup) (he : PE X e (tE X.K X.mg W m)) (hi : X.N[i]? = some x := by rfl) (hx : Loc X.env.scope x := by first | exact Or.inl rfl | exact Or.inr rfl)
    (hs : swapsWith e (some (.Name x pos')) pos.line X.env = pure false := by rfl) (hfn : X.fn x = true ∨ X.env.scope.names.lookup x = some .local := by first | exact .inl rfl | exact .inr rfl) :
    PS X (.Assign [.Name x pos'] e pos) (tS X.K X.mg W fx (sSet i m)) :=
  PS.imp (ps_set hN hi hx he hs hfn) fun D σ H ⟨F, en, R, h⟩ => ⟨F, en, R, h.ofThen.imp fun F1 H1 en1 r _ ⟨R1, p1, q⟩ v hv fr => put_ok hf R1 p1 q hv fr⟩
end
end Fw

/-! Fw5: defs by their functions. -/
namespace Fw
open PySem PySem.Spec PyProof.Rows L2

/-- what a def's call comes to -/
inductive FOut where
  | ret (r : Res) | exc (c : Str) (d : Dt) | stuck
abbrev FS := List Dt → FOut
def FOk (K : PySem.W.Frag) (mg : Str → Option Value) (F H : Hp) (o : FOut) (Q : VK) (E : XK) : Prop :=
  match o with
  | .ret r => ∀ v F' H', Grow F H F' H' → PrOk K H F' H' v r → Q v H'
  | .exc c d => ∀ cls dx F' H', Grow F H F' H' → ExcOk K mg F' H' cls dx c d → E cls dx H'
  | .stuck => False
def spF (K : PySem.W.Frag) (mg : Str → Option Value) (n : Nat) (sem : FS) : Sp := fun vs H Q E => ∃ F ds, Same F H ∧ Reps K F ds vs ∧ ds.length = n ∧ FOk K mg F H (sem ds) Q E
def OutS.fout : OutS → FOut
  | .nx _ => .ret (.dat .non)
  | .ret r _ => .ret r
  | .exc c d _ => .exc c d
  | _ => .stuck
def FOut.out (o : FOut) (en : En) : Out Res := match o with
  | .ret (.slt _) => .stuck
  | .ret r => .ok r en
  | .exc c d => .exc c d en
  | .stuck => .stuck
/-- a def's environment at its entry -/
def startE (n : Nat) (ds : List Dt) : En := ds.map .val ++ List.replicate (n - ds.length) .un
/-- a def by its body: n slots -/
def semF (n : Nat) (m : MS) : FS := fun ds => (m (startE n ds)).fout

section
variable {K : PySem.W.Frag} {mg : Str → Option Value} {F F' H H' : Hp} {en : En} {σ : St}
theorem startE_get {n : Nat} {ds : List Dt} {i : Nat} {s : Sl} (h : (startE n ds)[i]? = some s) : (∃ d, ds[i]? = some d ∧ s = .val d) ∨ s = .un := by
  unfold startE at h
  by_cases hi : i < ds.length
  · rw [List.getElem?_append_left (by simpa using hi), List.getElem?_map, List.getElem?_eq_getElem hi] at h
    cases h
    exact .inl ⟨_, List.getElem?_eq_getElem hi, rfl⟩
  · rw [List.getElem?_append_right (by simpa using hi), List.getElem?_replicate] at h
    split at h
    · cases h; exact .inr rfl
    · cases h
theorem start_rel {N : List Str} {ds : List Dt} {vs : List V} (s : Same F H) (r : Reps K F ds vs) : Rel K F H (startE N.length ds) (L2.start N vs) := by
  have hl := r.length
  refine ⟨s, ?_, fun i s o e1 e2 => ?_, fun i j ds' es' a e1 => ?_⟩
  · unfold startE L2.start
    simp [hl]
  · rcases startE_get e1 with ⟨d, e, rfl⟩ | rfl
    · obtain ⟨v, e', q⟩ := r.get e
      have hi : i < vs.length := (List.getElem?_eq_some_iff.mp e').1
      unfold L2.start at e2
      rw [List.getElem?_append_left (by simpa using hi), List.getElem?_map, e'] at e2
      cases e2
      exact ⟨v, rfl, q⟩
    · trivial
  · rcases startE_get e1 with ⟨d, e, z⟩ | z <;> cases z
theorem start_own {n : Nat} {ds : List Dt} {a : Addr} (h : Own (startE n ds) σ a) : False := by
  obtain ⟨i, es, e1, _⟩ := h
  rcases startE_get e1 with ⟨d, e, z⟩ | z <;> cases z
theorem Post.grow0 {A A' : Addr → Prop} (p : Post F H A F' H' A') (n : ∀ b, ¬ A b) (s : Same F' H') : Grow F H F' H' :=
  ⟨p.sub, fun b o h => p.keep b o h (n b), s, fun b o h => by
    rcases p.frz b o h with z | z | z
    · exact .inl z
    · exact .inr z
    · exact absurd z (n b)⟩
end

/-- what a body's derivation stands in -/
structure Ct (X : Cx) (W : WX) (k : Nat) : Prop where
  calm : X.calm = true
  nd : X.N.Nodup
  tk : Takes X W
  room : Room k X.A
  pass : PassesOwn (model X.prog X.w) X.A X.env X.xe

section
variable {P : Program} {w : World} {K : PySem.W.Frag} {mg : Str → Option Value} {base : Heap}
/-- a def by its body -/
theorem okF {x qual : Str} {st : Stmt} {f : Addr} {fd : FuncData} {N ps : List Str} {k : Nat} {m : MS} (F : Fun K x qual st f fd) (S : FnScope N ps (defScope st))
    (hbody : ∀ (cdv : Value) (A : Around) (outer : List Env) (s : Shared) (H : Hp) (E : XK),
      Ct (cxOf (L2.CX P w) P w K mg base N qual (defScope st) f cdv A outer s H E) (fun cls d _ H => E cls d H) k →
      PSs (cxOf (L2.CX P w) P w K mg base N qual (defScope st) f cdv A outer s H E) (defBody st) (tS K mg (fun cls d _ H => E cls d H) 0 m)) :
    FnOk P w K mg base (L2.CX P w) (k + 1) f fd ps (spF K mg ps.length (semF N.length m)) := by
  refine F.okX S (fun vs H Q E ⟨F0, ds, s, r, hl, _⟩ => r.length.symm.trans hl) fun cdv A outer s H vs Q E hr ⟨F0, ds, sm, r, hl, hq⟩ => ?_
  refine ⟨_, hbody cdv A outer s H E ⟨rfl, S.nd, takes_of rfl rfl rfl rfl, hr, passes_of rfl⟩, F0, startE N.length ds, start_rel sm r, ?_⟩
  unfold semF at hq
  cases e : m (startE N.length ds) with
  | nx en' =>
    rw [e] at hq
    exact fun σ' F' H' R' p' _ => hq _ F' H' (p'.grow0 (fun b z => start_own z) R'.sub) rfl
  | ret r en' =>
    rw [e] at hq
    intro v σ' F' H' R' p' _ q
    refine hq v F' H' (p'.grow0 (fun b z => start_own z) R'.sub) ?_
    cases r with
    | dat d => exact q
    | new es =>
      obtain ⟨a, xs, e, h1, h2, _, h4, q⟩ := q
      exact ⟨a, xs, e, h4.elim (fun z => (start_own z).elim) id, h1, h2, q⟩
    | slt i => exact q
  | brk en' => rw [e] at hq; exact hq.elim
  | cont en' => rw [e] at hq; exact hq.elim
  | exc c d en' =>
    rw [e] at hq
    exact fun cls dx σ' F' H' R' p' _ x => hq cls dx F' H' (p'.grow0 (fun b z => start_own z) R'.sub) x
  | stuck => rw [e] at hq; exact hq.elim
/-- a function in another form -/
theorem FnOk.sem {f : Addr} {fd : FuncData} {ps : List Str} {k n : Nat} {sem sem' : FS} (F : FnOk P w K mg base (L2.CX P w) k f fd ps (spF K mg n sem)) (h : ∀ ds, ds.length = n → sem' ds ≠ .stuck → sem ds = sem' ds) :
    FnOk P w K mg base (L2.CX P w) k f fd ps (spF K mg n sem') := F.imp fun vs H Q E ⟨F0, ds, s, r, hl, q⟩ => ⟨F0, ds, s, r, hl, by
  have n : sem' ds ≠ .stuck := fun z => by rw [z] at q; exact q
  rw [h ds hl n]; exact q⟩
end

/-! ### calls -/
section
variable {X : Cx} {W : WX} {k : Nat} {f : Addr} {fd : FuncData} {ps : List Str} {x : Str} {p pos : Pos} {e : Expr} {es : List Expr} {ms : M (List Dt)} {n : Nat} {sem : FS}
def eCall (n : Nat) (sem : FS) (ms : M (List Dt)) : M Res := fun en => (ms en).bind fun ds en1 => if ds.length = n then (sem ds).out en1 else .stuck
theorem call_core {σ : St} {H : Hp} {Q : VK} (h : tE X.K X.mg W (eCall n sem ms) σ H Q) : tVs X.K X.mg W ms σ H fun vs H1 => spF X.K X.mg n sem vs H1 Q (WE W σ) := by
  obtain ⟨F, en, R, h⟩ := h
  refine ⟨F, en, R, (OutOk.ofBind h).imp fun F1 H1 en1 ds _ ⟨R1, p1, q⟩ vs hvs => ?_⟩
  by_cases hn : ds.length = n
  · rw [if_pos hn] at q
    refine ⟨F1, ds, R1.sub, hvs, hn, ?_⟩
    cases z : sem ds with
    | ret r =>
      rw [z] at q
      intro v F' H' g pr
      obtain ⟨q1, q2⟩ := pr.res R1
      cases r with
      | slt i => exact pr.elim
      | dat d => exact q F' H' (R1.grow g) (p1.trans g.post) v q1 trivial
      | new ds => exact q F' H' (R1.grow g) (p1.trans g.post) v q1 fun a e => p1.there a (q2 a e)
    | exc c d =>
      rw [z] at q
      exact fun cls dx F' H' g x => q cls dx F' H' (R1.grow g) (p1.trans g.post) x
    | stuck => rw [z] at q; exact q
  · rw [if_neg hn] at q; exact q.elim
theorem re_call (tk : Takes X W) (hr : Room k X.A) (O : FnOk X.prog X.w X.K X.mg X.base (L2.CX X.prog X.w) k f fd ps (spF X.K X.mg n sem)) (hm : X.mg x = some (.ref f)) (hk : PySem.W.keepIn X.K (.ref f) = true) (hb : Binds X.K fd ps [])
    (ha : PA X (e :: es) (tVs X.K X.mg W ms)) (hg : Gl X x := by rfl) (hdb : (x == ("__debug__" : Str)) = false := by decide) (he : starEach (e :: es) X.env = (false, eval e X.env) :: starEach es X.env := by rfl) (hpl : (backTo pos (starEach es X.env)).any (·.1) = false := by rfl) :
    PE X (.Call (.Name x p) (e :: es) [] pos) (tE X.K X.mg W (eCall n sem ms)) :=
  PE.imp (pe_callS O hr hg hm hk hb (fun σ => passAt tk σ) ha hdb he hpl) fun σ H Q h => call_core h

/-! keywords alone -/
def pmL {α : Type} (pm : List Nat) (ws : List α) : List α := pm.filterMap fun i => ws[i]?
theorem reps_pm {K : PySem.W.Frag} {F : Hp} {ds : List Dt} {vs : List V} (r : Reps K F ds vs) : ∀ pm : List Nat, Reps K F (pmL pm ds) (pmL pm vs)
  | [] => rfl
  | i :: pm => by
    unfold pmL
    rw [List.filterMap_cons, List.filterMap_cons]
    cases e : ds[i]? with
    | none =>
      have e' : vs[i]? = none := by
        rw [List.getElem?_eq_none_iff] at e ⊢
        rw [← r.length]; exact e
      simp only [e']
      exact reps_pm r pm
    | some d =>
      obtain ⟨v, e', q⟩ := r.get e
      simp only [e']
      exact ⟨v, _, rfl, q, reps_pm r pm⟩
theorem vals_pm {vs : List V} {us : List Value} (r : Vals vs us) : ∀ pm : List Nat, Vals (pmL pm vs) (pmL pm us)
  | [] => .nil
  | i :: pm => by
    unfold pmL
    rw [List.filterMap_cons, List.filterMap_cons]
    cases e : vs[i]? with
    | none =>
      simp only [r.none_of e]
      exact vals_pm r pm
    | some d =>
      obtain ⟨v, e', q⟩ := r.get e
      simp only [e']
      exact .cons q (vals_pm r pm)
theorem pk_vs : ∀ {kws : List Keyword} {ms : M (List Dt)}, PA X (kws.map fun k => k.value) (tVs X.K X.mg W ms) → True := fun _ => trivial
theorem ks_nil : PK X [] (tVs X.K X.mg W vNil) := ⟨fun pos pins s σ H Q I ⟨F, en, R, h⟩ => pk_nil.run pos pins s σ H Q I (h F H R .refl [] rfl)⟩
theorem ks_cons {kws : List Keyword} {nm : Option Str} {kpos : Pos} {m : M Res} (ha : PE X e (tE X.K X.mg W m)) (hr : PK X kws (tVs X.K X.mg W ms)) : PK X (⟨nm, e, kpos⟩ :: kws) (tVs X.K X.mg W (vCons m ms)) :=
  ⟨fun pos pins s σ H Q I ⟨F, en, R, h⟩ => (pk_cons (nm := nm) (kpos := kpos) ha hr).run pos pins s σ H Q I ⟨F, en, R, (vald h).imp fun F1 H1 en1 r0 _ q v hv fr => by
    obtain ⟨F2, en2, d, R2, p2, hv2, q⟩ := q v hv fr
    refine ⟨F2, en2, R2, (OutOk.ofBind q).imp fun F3 H3 en3 rs R3 ⟨_, p3, q3⟩ vs hvs => ?_⟩
    exact q3 F3 H3 R3 p3 (v :: vs) ⟨v, vs, rfl, Rep.mono p3.sub _ _ hv2, hvs⟩⟩⟩
/-- how keywords alone bind -/
def KwB (fd : FuncData) (ps ks : List Str) (pm : List Nat) : Prop := ∀ (s : Shared) (ws : List Value), ws.length = ks.length → BindsTo s fd ⟨[], ks.zip ws⟩ (ps.zip (pmL pm ws))
theorem Fun_kwb {K : PySem.W.Frag} {x qual : Str} {st : Stmt} {f : Addr} {fd : FuncData} {ps ks : List Str} {pm : List Nat} (F : Fun K x qual st f fd)
    (h : ∀ (kV doc pmv : Value) (an : Option Addr) (cdv ct : Value) (ws : List Value), ws.length = ks.length → bindArgs (PySem.W.fnOf x qual (defArgs st) (defBody st) (defScope st) .none kV doc pmv an cdv ct) ⟨[], ks.zip ws⟩ = pure (ps.zip (pmL pm ws))) : KwB fd ps ks pm := by
  obtain ⟨oc, od, kV, doc, pmv, an, cdv, ct, osl, rfl, lk, hcd⟩ := F.ex
  exact fun s ws hl => .of_eq (h kV doc pmv an cdv ct ws hl)
def eCallK (n nk : Nat) (pm : List Nat) (sem : FS) (ms : M (List Dt)) : M Res := eCall n sem fun en => (ms en).bind fun ds en1 => if ds.length = nk then .ok (pmL pm ds) en1 else .stuck
theorem re_callK {kws : List Keyword} {ks : List Str} {pm : List Nat} (tk : Takes X W) (hr : Room k X.A) (O : FnOk X.prog X.w X.K X.mg X.base (L2.CX X.prog X.w) k f fd ps (spF X.K X.mg n sem)) (hm : X.mg x = some (.ref f)) (hk : PySem.W.keepIn X.K (.ref f) = true) (hb : KwB fd ps ks pm)
    (ha : PK X kws (tVs X.K X.mg W ms)) (hks : (backToKw pos (keywordEach kws X.env)).filterMap (·.1) = ks := by rfl) (hall : (backToKw pos (keywordEach kws X.env)).all (·.1.isSome) = true := by rfl) (hg : Gl X x := by rfl) (hdb : (x == ("__debug__" : Str)) = false := by decide)
    (hpl : ((backTo pos (starEach [] X.env)).any (·.1) || (backToKw pos (keywordEach kws X.env)).any (·.1.isNone)) = false := by rfl) :
    PE X (.Call (.Name x p) [] kws pos) (tE X.K X.mg W (eCallK n ks.length pm sem ms)) := by
  refine ⟨fun pins s σ H Q I h => ?_⟩
  refine wpAny_Call_Name_kw (ld_glob I hg hm ?_ hdb)
  obtain ⟨F, en, R, h⟩ := call_core (X := X) h
  refine PySem.W.callWith_KW0 (h₀ := X.base) I.ok.mod.kin hk hall (thn (ha.run pos pins s σ H (fun vs H1 => vs.length = ks.length ∧ spF X.K X.mg n sem (pmL pm vs) H1 Q (WE W σ)) I ⟨F, en, R, (OutOk.ofBind h).imp fun F1 H1 en1 ds _ ⟨R1, p1, q⟩ vs hvs => ?_⟩) fun us s1 ⟨vs, H1, I1, r, hl, q⟩ => ⟨I1.kIn, ?_⟩) hpl
  · by_cases hn : ds.length = ks.length
    · rw [if_pos hn] at q
      exact ⟨by rw [← hvs.length]; exact hn, q F1 H1 R1 p1 _ (reps_pm hvs pm)⟩
    · rw [if_neg hn] at q; exact q.elim
  · rw [hks]
    have r2 := vals_pm r pm
    refine wpAny_call (codeAny_mono (O.run X.A X.stack s1 H1 ⟨[], ks.zip us⟩ (pmL pm us) (pmL pm vs) Q (WE W σ) hr I1.env0 (hb s1 us (by rw [← r.length]; exact hl)) r2 q) fun r s' hq => ?_)
    cases r with
    | error e => exact passAt tk σ pins H1 s1 e s' I1 hq
    | ok fl =>
      cases fl with
      | ret u => exact I1.after hq
      | next => exact False.elim hq
      | brk => exact False.elim hq
      | cont => exact False.elim hq
end

/-! ### defs whose first parameter is a list that they change -/
inductive FOutR where
  | ret (r : Res) (cs : Cn) | stuck
abbrev FSR := Cn → List Dt → FOutR
def FOkR (K : PySem.W.Frag) (F H : Hp) (a : Addr) (o : FOutR) (Q : VK) : Prop :=
  match o with
  | .ret r cs => ∀ v F' H' xs, Post F H (· = a) F' H' (· = a) → Same F' H' → H' a = some (cs.ho xs) → F' a = none → RepC K F' cs xs → PrOk K H F' H' v r → Q v H'
  | .stuck => False
def spFR (K : PySem.W.Frag) (n : Nat) (sem : FSR) : Sp := fun vs H Q _ => ∃ F a xs cs ds vs', vs = .ref a :: vs' ∧ Same F H ∧ H a = some (cs.ho xs) ∧ F a = none ∧ RepC K F cs xs ∧ Reps K F ds vs' ∧ ds.length + 1 = n ∧ FOkR K F H a (sem cs ds) Q
def OutS.foutR : OutS → FOutR
  | .nx en => match (en[(0 : Nat)]? : Option Sl) with
    | some (.own cs) => .ret (.dat .non) cs
    | _ => .stuck
  | .ret r en => match (en[(0 : Nat)]? : Option Sl) with
    | some (.own cs) => .ret r cs
    | _ => .stuck
  | _ => .stuck
def startR (n : Nat) (cs : Cn) (ds : List Dt) : En := .own cs :: startE (n - 1) ds
def semR (n : Nat) (m : MS) : FSR := fun cs ds => (m (startR n cs ds)).foutR
section
variable {K : PySem.W.Frag} {mg : Str → Option Value} {F F' H H' : Hp} {en : En} {σ : St}
theorem startR_own {n : Nat} {cs : Cn} {ds : List Dt} {a b : Addr} (h : Own (startR n cs ds) (some (.ref a) :: σ) b) : b = a := by
  obtain ⟨i, es, e1, e2⟩ := h
  cases i with
  | zero =>
    have e2 : some (some (V.ref a)) = some (some (V.ref b)) := e2
    cases e2; rfl
  | succ i =>
    have e1 : (startE (n - 1) ds)[i]? = some (.own es) := e1
    rcases startE_get e1 with ⟨d, e, z⟩ | z <;> cases z
theorem startR_rel {N : List Str} {cs : Cn} {ds : List Dt} {vs xs : List V} {a : Addr} (s : Same F H) (h1 : H a = some (cs.ho xs)) (h2 : F a = none) (q : RepC K F cs xs) (r : Reps K F ds vs) (hN : N.length ≠ 0) :
    Rel K F H (startR N.length cs ds) (L2.start N (.ref a :: vs)) := by
  cases N with
  | nil => exact absurd rfl hN
  | cons y N =>
    have e : L2.start (y :: N) (.ref a :: vs) = some (.ref a) :: start N vs := by
      unfold L2.start
      simp
    rw [e]
    have R := start_rel (N := N) s r
    have e' : startR (y :: N).length cs ds = .own cs :: startE N.length ds := rfl
    rw [e']
    refine ⟨s, by rw [List.length_cons, List.length_cons, R.len], fun i s o e1 e2 => ?_, fun i j fs gs b e1 e2 e3 e4 => ?_⟩
    · cases i with
      | zero =>
        simp at e1 e2
        subst e1; subst e2
        exact ⟨a, xs, rfl, h1, h2, q⟩
      | succ i => exact R.ok i s o (by simpa using e1) (by simpa using e2)
    · have z : ∀ (i : Nat) (fs : Cn), (Sl.own cs :: startE N.length ds)[i]? = some (.own fs) → i = 0 := fun i fs e1 => by
        cases i with
        | zero => rfl
        | succ i =>
          have e1 : (startE N.length ds)[i]? = some (.own fs) := by simpa using e1
          rcases startE_get e1 with ⟨d, e, z⟩ | z <;> cases z
      rw [z i fs e1, z j gs e2]
/-- behind a def that changed one's own list -/
theorem mut_slot2 {i : Nat} {ds es : Cn} {a : Addr} {ys : List V} (R : Rel K F H en σ) (hi : en[i]? = some (.own ds)) (hv : σ[i]? = some (some (.ref a))) (p : Post F H (· = a) F' H' (· = a)) (s : Same F' H') (h1 : H' a = some (es.ho ys)) (h2 : F' a = none) (q : RepC K F' es ys) :
    Rel K F' H' (en.set i (.own es)) σ ∧ Post F H (Own en σ) F' H' (Own (en.set i (.own es)) σ) := by
  have hlt : i < en.length := (List.getElem?_eq_some_iff.mp hi).1
  have own' : ∀ (j : Nat) (fs : Cn), (en.set i (.own es))[j]? = some (.own fs) → ∃ gs, en[j]? = some (.own gs) := fun j fs e => by
    by_cases hj : j = i
    · subst hj; exact ⟨_, hi⟩
    · rw [List.getElem?_set_ne (Ne.symm hj)] at e; exact ⟨_, e⟩
  have hA : Own en σ a := ⟨i, ds, hi, hv⟩
  refine ⟨⟨s, by rw [List.length_set]; exact R.len, fun j t o e1 e2 => ?_, fun j k fs gs b e1 e2 e3 e4 => ?_⟩,
    ⟨p.sub, fun b o e n => p.keep b o e fun z => n (by rw [z]; exact hA), p.there, fun b o e => ?_, fun b ⟨j, fs, e1, e2⟩ => ?_⟩⟩
  · by_cases hj : j = i
    · subst hj
      rw [List.getElem?_set_self hlt] at e1; cases e1
      rw [hv] at e2; cases e2
      exact ⟨a, ys, rfl, h1, h2, q⟩
    · rw [List.getElem?_set_ne (Ne.symm hj)] at e1
      have pp := R.ok j t o e1 e2
      cases t with
      | un => trivial
      | val d => obtain ⟨v, e, pp⟩ := pp; exact ⟨v, e, Rep.mono p.sub _ _ pp⟩
      | scr ns => obtain ⟨b, e, pp⟩ := pp; exact ⟨b, e, p.sub.seq pp⟩
      | own fs =>
        obtain ⟨b, zs, e, h3, h4, pp⟩ := pp
        have nb : b ≠ a := by
          rintro rfl
          exact hj (R.ne j i _ _ _ e1 hi (by rw [e2, e]) hv)
        refine ⟨b, zs, e, p.keep b _ h3 nb, ?_, pp.mono p.sub⟩
        cases z : F' b with
        | none => rfl
        | some u =>
          rcases p.frz b u z with y | y | y
          · rw [h4] at y; cases y
          · rw [h3] at y; cases y
          · exact absurd y nb
  · obtain ⟨_, e1'⟩ := own' j fs e1
    obtain ⟨_, e2'⟩ := own' k gs e2
    exact R.ne j k _ _ b e1' e2' e3 e4
  · rcases p.frz b o e with z | z | z
    · exact .inl z
    · exact .inr (.inl z)
    · exact .inr (.inr (by rw [z]; exact hA))
  · obtain ⟨_, e1'⟩ := own' j fs e1
    exact .inl ⟨j, _, e1', e2⟩
end
section
variable {P : Program} {w : World} {K : PySem.W.Frag} {mg : Str → Option Value} {base : Heap}
theorem okR {x qual : Str} {st : Stmt} {f : Addr} {fd : FuncData} {N ps : List Str} {k : Nat} {m : MS} (F : Fun K x qual st f fd) (S : FnScope N ps (defScope st)) (hN : N.length ≠ 0)
    (hbody : ∀ (cdv : Value) (A : Around) (outer : List Env) (s : Shared) (H : Hp) (E : XK),
      Ct (cxOf (L2.CX P w) P w K mg base N qual (defScope st) f cdv A outer s H E) (fun cls d _ H => E cls d H) k →
      PSs (cxOf (L2.CX P w) P w K mg base N qual (defScope st) f cdv A outer s H E) (defBody st) (tS K mg (fun cls d _ H => E cls d H) 1 m)) :
    FnOk P w K mg base (L2.CX P w) (k + 1) f fd ps (spFR K ps.length (semR N.length m)) := by
  refine F.okX S (fun vs H Q E ⟨F0, a, xs, cs, ds, vs', e, _, _, _, _, r, hl, _⟩ => by rw [e, List.length_cons, ← r.length]; exact hl) fun cdv A outer s H vs Q E hr ⟨F0, a, xs, cs, ds, vs', e, sm, h1, h2, qc, r, hl, hq⟩ => ?_
  subst e
  refine ⟨_, hbody cdv A outer s H E ⟨rfl, S.nd, takes_of rfl rfl rfl rfl, hr, passes_of rfl⟩, F0, startR N.length cs ds, startR_rel sm h1 h2 qc r hN, ?_⟩
  obtain ⟨σt, eσ⟩ : ∃ σt, L2.start N (.ref a :: vs') = some (.ref a) :: σt := by
    cases N with
    | nil => exact absurd rfl hN
    | cons y N => exact ⟨_, by unfold L2.start; simp; rfl⟩
  have own0 : ∀ b, Own (startR N.length cs ds) (L2.start N (.ref a :: vs')) b → b = a := fun b z => by rw [eσ] at z; exact startR_own z
  have hA : Own (startR N.length cs ds) (L2.start N (.ref a :: vs')) a := ⟨0, cs, rfl, by rw [eσ]; rfl⟩
  have post : ∀ {F' H' : Hp} {A' : Addr → Prop}, Post F0 H (Own (startR N.length cs ds) (L2.start N (.ref a :: vs'))) F' H' A' → Post F0 H (· = a) F' H' (· = a) := fun {F' H' A'} p =>
    ⟨p.sub, fun b o e n => p.keep b o e fun z => n (own0 b z), p.there, fun b o e => by
      rcases p.frz b o e with z | z | z
      · exact .inl z
      · exact .inr (.inl z)
      · exact .inr (.inr (own0 b z)), fun b e => .inl e⟩
  have slot0 : ∀ {en' : En} {σ' : St} {F' H' : Hp} {cs' : Cn}, Rel K F' H' en' σ' → σ'.take 1 = (L2.start N (.ref a :: vs')).take 1 → en'[0]? = some (.own cs') → σ'[0]? = some (some (.ref a)) ∧ ∃ xs', H' a = some (cs'.ho xs') ∧ F' a = none ∧ RepC K F' cs' xs' := fun {en' σ' F' H' cs'} R' t e => by
    rw [eσ] at t
    have e0 : σ'[0]? = some (some (.ref a)) := by
      cases σ' with
      | nil => simp at t
      | cons y ys => simp at t; rw [t]; rfl
    obtain ⟨b, xs', eb, g1, g2, g3⟩ := R'.ok 0 _ _ e e0
    cases eb
    exact ⟨e0, xs', g1, g2, g3⟩
  unfold semR at hq
  cases e : m (startR N.length cs ds) with
  | nx en' =>
    rw [e] at hq
    unfold OutS.foutR at hq
    cases z : en'[0]? with
    | none => simp only [z] at hq; exact hq.elim
    | some sl =>
      cases sl with
      | own cs' =>
        simp only [z] at hq
        intro σ' F' H' R' p' t
        obtain ⟨_, xs', g1, g2, g3⟩ := slot0 R' t z
        exact hq _ F' H' xs' (post p') R'.sub g1 g2 g3 rfl
      | un => simp only [z] at hq; exact hq.elim
      | val d => simp only [z] at hq; exact hq.elim
      | scr ns => simp only [z] at hq; exact hq.elim
  | ret r en' =>
    rw [e] at hq
    unfold OutS.foutR at hq
    cases z : en'[0]? with
    | none => simp only [z] at hq; exact hq.elim
    | some sl =>
      cases sl with
      | own cs' =>
        simp only [z] at hq
        intro v σ' F' H' R' p' t q
        obtain ⟨e0, xs', g1, g2, g3⟩ := slot0 R' t z
        refine hq v F' H' xs' (post p') R'.sub g1 g2 g3 ?_
        cases r with
        | dat d => exact q
        | new es =>
          obtain ⟨b, ys, e, k1, k2, k3, k4, q⟩ := q
          refine ⟨b, ys, e, k4.elim (fun y => ?_) id, k1, k2, q⟩
          have eb := own0 b y
          subst eb
          exact absurd ⟨0, cs', z, e0⟩ k3
        | slt i => exact q
      | un => simp only [z] at hq; exact hq.elim
      | val d => simp only [z] at hq; exact hq.elim
      | scr ns => simp only [z] at hq; exact hq.elim
  | brk en' => rw [e] at hq; exact hq.elim
  | cont en' => rw [e] at hq; exact hq.elim
  | exc c d en' => rw [e] at hq; exact hq.elim
  | stuck => rw [e] at hq; exact hq.elim
theorem FnOk.semR {f : Addr} {fd : FuncData} {ps : List Str} {k n : Nat} {sem sem' : FSR} (F : FnOk P w K mg base (L2.CX P w) k f fd ps (spFR K n sem)) (h : ∀ cs ds, ds.length + 1 = n → sem' cs ds ≠ .stuck → sem cs ds = sem' cs ds) :
    FnOk P w K mg base (L2.CX P w) k f fd ps (spFR K n sem') := F.imp fun vs H Q E ⟨F0, a, xs, cs, ds, vs', e, s, h1, h2, q1, q2, hl, q⟩ => ⟨F0, a, xs, cs, ds, vs', e, s, h1, h2, q1, q2, hl, by
  have n : sem' cs ds ≠ .stuck := fun z => by rw [z] at q; exact q
  rw [h cs ds hl n]; exact q⟩
end
section
variable {X : Cx} {W : WX} {k : Nat} {f : Addr} {fd : FuncData} {ps : List Str} {x y : Str} {p pos py : Pos} {es : List Expr} {ms : M (List Dt)} {n : Nat} {sem : FSR}
def isOwn (en : En) (i : Nat) : Bool := match en[i]? with
  | some (.own _) => true
  | _ => false
def FOutR.out (o : FOutR) (i : Nat) (en : En) : Out Res := match o with
  | .ret (.slt _) _ => .stuck
  | .ret r cs => .ok r (en.set i (.own cs))
  | .stuck => .stuck
def eCallR (n : Nat) (sem : FSR) (i : Nat) (ms : M (List Dt)) : M Res := fun en => if isOwn en i = true then (ms en).bind fun ds en1 => match en1[i]? with
  | some (.own cs) => if ds.length + 1 = n then (sem cs ds).out i en1 else .stuck
  | _ => .stuck
  else .stuck
theorem re_callR (i : Nat) (tk : Takes X W) (hr : Room k X.A) (O : FnOk X.prog X.w X.K X.mg X.base (L2.CX X.prog X.w) k f fd ps (spFR X.K n sem)) (hm : X.mg x = some (.ref f)) (hk : PySem.W.keepIn X.K (.ref f) = true) (hb : Binds X.K fd ps [])
    (ha : PA X es (tVs X.K X.mg W ms)) (hg : Gl X x := by rfl) (hdb : (x == ("__debug__" : Str)) = false := by decide) (he : starEach (.Name y py :: es) X.env = (false, eval (.Name y py) X.env) :: starEach es X.env := by rfl) (hpl : (backTo pos (starEach es X.env)).any (·.1) = false := by rfl)
    (hN : X.N[i]? = some y := by rfl) (hv : Vis X.env.scope y := by first | exact Or.inl rfl | exact Or.inr (Or.inl rfl) | exact Or.inr (Or.inr rfl)) (hd : (y == ("__debug__" : Str)) = false := by decide)
    (hcd : (y == ("__classdict__" : Str)) = false := by decide) :
    PE X (.Call (.Name x p) (.Name y py :: es) [] pos) (tE X.K X.mg W (eCallR n sem i ms)) :=
  PE.imp (pe_callS O hr hg hm hk hb (fun σ => passAt tk σ) (pa_cons (pe_var (i := i) hN hv hd hcd) ha he) hdb he hpl) fun σ H Q ⟨F, en, R, h⟩ => by
    unfold eCallR at h
    by_cases ho : isOwn en i = true
    · rw [if_pos ho] at h
      obtain ⟨cs0, e0⟩ : ∃ cs0, en[i]? = some (.own cs0) := by
        unfold isOwn at ho
        cases z : en[i]? with
        | none => simp [z] at ho
        | some sl => cases sl <;> simp_all
      have hi : i < σ.length := by rw [← R.len]; exact (List.getElem?_eq_some_iff.mp e0).1
      obtain ⟨a, xs0, eo, _⟩ := R.ok i _ _ e0 (List.getElem?_eq_getElem hi)
      have hσ : σ[i]? = some (some (.ref a)) := by rw [List.getElem?_eq_getElem hi, eo]
      refine ⟨.ref a, hσ, F, en, R, (OutOk.ofBind h).imp fun F1 H1 en1 ds _ ⟨R1, p1, q⟩ vs hvs => ?_⟩
      cases z : en1[i]? with
      | none => simp only [z] at q; exact q.elim
      | some sl =>
        cases sl with
        | un => simp only [z] at q; exact q.elim
        | val d => simp only [z] at q; exact q.elim
        | scr ns => simp only [z] at q; exact q.elim
        | own cs =>
          simp only [z] at q
          by_cases hn : ds.length + 1 = n
          · rw [if_pos hn] at q
            obtain ⟨b, xs, eb, h1, h2, qc⟩ := R1.ok i _ _ z hσ
            cases eb
            refine ⟨F1, a, xs, cs, ds, vs, rfl, R1.sub, h1, h2, qc, hvs, hn, ?_⟩
            cases y : sem cs ds with
            | stuck => rw [y] at q; exact q.elim
            | ret r cs' =>
              rw [y] at q
              intro v F' H' ys pp s' g1 g2 g3 pr
              obtain ⟨R2, p2⟩ := mut_slot2 R1 z hσ pp s' g1 g2 g3
              have own2 : ∀ b, Own (en1.set i (.own cs')) σ b → H1 b ≠ none := fun b ⟨j, fs, k1, k2⟩ => by
                have : ∃ gs, en1[j]? = some (.own gs) := by
                  by_cases hj : j = i
                  · subst hj; exact ⟨_, z⟩
                  · rw [List.getElem?_set_ne (Ne.symm hj)] at k1; exact ⟨_, k1⟩
                obtain ⟨gs, k3⟩ := this
                obtain ⟨xs3, k4, _⟩ := R1.own_there ⟨j, gs, k3, k2⟩
                rw [k4]; intro w; cases w
              cases r with
              | slt j => exact pr.elim
              | dat d => exact q F' H' R2 (p1.trans p2) v pr trivial
              | new fs =>
                obtain ⟨b, zs, e, k1, k2, k3, k4⟩ := pr
                exact q F' H' R2 (p1.trans p2) v ⟨b, zs, e, k2, k3, fun w => own2 b w k1, k4⟩ fun c ec => by rw [e] at ec; cases ec; exact p1.there _ k1
          · rw [if_neg hn] at q; exact q.elim
    · rw [if_neg ho] at h; exact h.elim
end
end Fw

/-! Fw6: loops, comprehensions, one's own lists changed. -/
namespace Fw
open PySem PySem.Spec PyProof.Rows L2

/-- an iterator that yields these data -/
def Wk (K : PySem.W.Frag) (J : It) (F0 : Hp) (ds : List Dt) : Prop := ∀ (F H : Hp) (i : Nat), Same F0 F → Same F H →
  (∀ d, ds[i]? = some d → J.go i H ∧ ∀ x H', J.yld i H x H' → ∃ F', Grow F H F' H' ∧ Rep K F' d x) ∧ (i = ds.length → J.stop i H)
def tI (K : PySem.W.Frag) (mg : Str → Option Value) (W : WX) (m : M (List Dt)) : TI := fun σ H R => ∃ F en, Rel K F H en σ ∧ OutOk K mg W F H en σ (m en) fun F' H' en' ds => ∀ J, Wk K J F' ds → R J H'
theorem PI.imp {X : Cx} {tg e : Expr} {t t' : TI} (h : PI X tg e t) (i : ∀ σ H Q, t' σ H Q → t σ H Q) : PI X tg e t' := ⟨fun pins s σ H Q I q => h.run pins s σ H Q I (i σ H Q q)⟩
theorem PI.or {X : Cx} {tg e : Expr} {t t' : TI} (h : PI X tg e t) (h' : PI X tg e t') : PI X tg e (fun σ H R => t σ H R ∨ t' σ H R) := ⟨fun pins s σ H Q I q => q.elim (h.run pins s σ H Q I) (h'.run pins s σ H Q I)⟩
def fIter : Dt → Option (List Dt)
  | .lst ds => some ds
  | .tup ds => some ds
  | .str x => some (x.map fun c => .str [c])
  | _ => none
def iSeq (m : M Res) : M (List Dt) := fun en => (eVal m en).bind fun d en1 => match fIter d with
  | some ds => .ok ds en1
  | none => .stuck
section
variable {K : PySem.W.Frag} {F0 : Hp}
theorem wk_list {a : Addr} {xs : List V} {ds : List Dt} (h : F0 a = some (.lst xs)) (r : Reps K F0 ds xs) : Wk K (Itl K a) F0 ds := fun F H i s1 s2 => by
  have hS : SqL K H a xs := SqL.of (s2 _ _ (s1 _ _ h))
  refine ⟨fun d e => ?_, fun hi => ⟨xs, hS, by rw [← r.length]; exact Nat.le_of_eq hi.symm⟩⟩
  obtain ⟨v, e', q⟩ := r.get e
  refine ⟨⟨xs, v, hS, e'⟩, fun x H' ⟨eH, f⟩ => ⟨F, by subst eH; exact Grow.refl s2, ?_⟩⟩
  have := f xs hS
  rw [e'] at this; cases this
  exact Rep.mono s1 _ _ q
theorem wk_tup {a : Addr} {xs : List V} {ds : List Dt} (h : SqT K F0 a xs) (r : Reps K F0 ds xs) : Wk K (Itt K a) F0 ds := fun F H i s1 s2 => by
  have hS : SqT K H a xs := Same.seqT s2 (Same.seqT s1 h)
  refine ⟨fun d e => ?_, fun hi => ⟨xs, hS, by rw [← r.length]; exact Nat.le_of_eq hi.symm⟩⟩
  obtain ⟨v, e', q⟩ := r.get e
  refine ⟨⟨xs, v, hS, e'⟩, fun x H' ⟨eH, f⟩ => ⟨F, by subst eH; exact Grow.refl s2, ?_⟩⟩
  have := f xs hS
  rw [e'] at this; cases this
  exact Rep.mono s1 _ _ q
theorem wk_str (x : Wd) : Wk K (Its (st x)) F0 (x.map fun c => .str [c]) := fun F H i s1 s2 => by
  have hz : (st x).cps.size = x.length := by simp [st]
  refine ⟨fun d e => ?_, fun hi => ?_⟩
  · rw [List.getElem?_map] at e
    have hi : i < x.length := by
      cases q : x[i]? with
      | none => rw [q] at e; cases e
      | some c => exact (List.getElem?_eq_some_iff.mp q).1
    refine ⟨by show i < (st x).cps.size; rw [hz]; exact hi, fun y H' ⟨eH, c, e1, e2⟩ => ⟨F, by subst eH; exact Grow.refl s2, ?_⟩⟩
    have e1' : x[i]? = some c := by simpa [st] using e1
    rw [e1'] at e; cases e
    rw [e2]
    rfl
  · show (st x).cps.size ≤ i
    rw [hz]; simpa using Nat.le_of_eq hi.symm
/-- lo, lo + 1, .. below hi -/
def rangeD (lo hi : Int) : List Dt := (List.range (hi - lo).toNat).map fun (k : Nat) => .int (lo + k)
theorem wk_range (lo hi : Int) : Wk K (Itr lo (hi - lo).toNat) F0 (rangeD lo hi) := fun F H i s1 s2 => by
  refine ⟨fun d e => ?_, fun hi' => by show (hi - lo).toNat ≤ i; simpa [rangeD] using Nat.le_of_eq hi'.symm⟩
  unfold rangeD at e
  rw [List.getElem?_map] at e
  have h : i < (hi - lo).toNat := by
    cases q : (List.range (hi - lo).toNat)[i]? with
    | none => rw [q] at e; cases e
    | some c => simpa using (List.getElem?_eq_some_iff.mp q).1
  rw [List.getElem?_range h] at e
  cases e
  exact ⟨h, fun x H' ⟨eH, ex⟩ => ⟨F, by subst eH; exact Grow.refl s2, by rw [ex]; rfl⟩⟩
end
section
variable {X : Cx} {W : WX} {e tg : Expr} {m : M Res} {pos p : Pos} {ms : M (List Res)}
theorem ri_seq (he : PE X e (tE X.K X.mg W m)) : PI X tg e (tI X.K X.mg W (iSeq m)) := by
  have hv := rv_of he
  refine PI.imp (PI.or (pi_list (tg := tg) hv) (PI.or (pi_tup (tg := tg) hv) (pi_str (tg := tg) hv))) fun σ H R ⟨F, en, Re, h⟩ => ?_
  unfold iSeq at h
  have key := OutOk.ofBind h
  cases z : eVal m en with
  | stuck => rw [z] at key; exact key.elim
  | exc c d en' => rw [z] at key; exact .inl ⟨F, en, Re, by rw [z]; exact key⟩
  | ok d en1 =>
    rw [z] at key
    cases d with
    | lst ds =>
      refine .inl ⟨F, en, Re, by rw [z]; exact fun F1 H1 R1 p1 v ⟨a, xs, e, h1, q⟩ => ⟨a, e, ⟨xs, SqL.of (R1.sub _ _ h1)⟩, (key F1 H1 R1 p1).2.2 F1 H1 R1 p1 _ (wk_list h1 q)⟩⟩
    | tup ds =>
      refine .inr (.inl ⟨F, en, Re, by rw [z]; exact fun F1 H1 R1 p1 v ⟨a, xs, e, h1, q⟩ => ⟨a, e, ⟨xs, Same.seqT R1.sub h1⟩, (key F1 H1 R1 p1).2.2 F1 H1 R1 p1 _ (wk_tup h1 q)⟩⟩)
    | str x =>
      refine .inr (.inr ⟨F, en, Re, by rw [z]; exact fun F1 H1 R1 p1 v ev => ⟨st x, ev, (key F1 H1 R1 p1).2.2 F1 H1 R1 p1 _ (wk_str x)⟩⟩)
    | exo _ _ => exact ⟨F, en, Re, by rw [z]; exact fun F1 H1 R1 p1 => ((key F1 H1 R1 p1).2.2).elim⟩ |> .inl
    | dic _ _ => exact ⟨F, en, Re, by rw [z]; exact fun F1 H1 R1 p1 => ((key F1 H1 R1 p1).2.2).elim⟩ |> .inl
    | non => exact ⟨F, en, Re, by rw [z]; exact fun F1 H1 R1 p1 => ((key F1 H1 R1 p1).2.2).elim⟩ |> .inl
    | bl b => exact ⟨F, en, Re, by rw [z]; exact fun F1 H1 R1 p1 => ((key F1 H1 R1 p1).2.2).elim⟩ |> .inl
    | int i => exact ⟨F, en, Re, by rw [z]; exact fun F1 H1 R1 p1 => ((key F1 H1 R1 p1).2.2).elim⟩ |> .inl
theorem rsOk_vws {K : PySem.W.Frag} {F H : Hp} {en : En} {σ : St} (R : Rel K F H en σ) : ∀ {rs : List Res} {vs : List V} {ds : List Dt}, RsOk K F H en σ rs vs → vws en rs = some ds → VwAll K F H ds vs
  | [], vs, ds, h, e => by cases e; exact h
  | r :: rs, vs, ds, ⟨v, t, ev, _, h1, h2⟩, e => by
    unfold vws at e
    cases e1 : vw en r with
    | none => rw [e1] at e; simp at e
    | some d =>
      cases e2 : vws en rs with
      | none => rw [e1, e2] at e; simp at e
      | some ds' =>
        rw [e1, e2] at e
        cases e
        exact ⟨v, t, ev, h1.vw R e1, rsOk_vws R h2 e2⟩
def inB62 (j : Int) : Prop := -(2 ^ 62) ≤ j ∧ j < 2 ^ 62
instance (j : Int) : Decidable (inB62 j) := inferInstanceAs (Decidable (_ ∧ _))
def iRange1 (m : M Res) : M (List Dt) := fun en => (eOpd m en).bind fun r en1 => match vw en1 r with
  | some (.int j) => if inB62 j then .ok (rangeD 0 j) en1 else .stuck
  | _ => .stuck
def iRange2 (ma mb : M Res) : M (List Dt) := fun en => (eOpd ma en).bind fun ra en1 => (eOpd mb en1).bind fun rb en2 => match vw en2 ra, vw en2 rb with
  | some (.int i), some (.int j) => if inB62 i ∧ inB62 j then .ok (rangeD i j) en2 else .stuck
  | _, _ => .stuck
theorem ri_range1 {a : Expr} (hm : X.mg "range" = none) (ha : PE X a (tE X.K X.mg W m)) (hg : Gl X "range" := by rfl) (hs : starEach [a] X.env = [(false, eval a X.env)] := by rfl) : PI X tg (.Call (.Name "range" p) [a] [] pos) (tI X.K X.mg W (iRange1 m)) :=
  PI.imp (pi_range1 hg hm (pa_cons ha pa_nil hs) hs) fun σ H R ⟨F, en, Re, h⟩ => ⟨F, en, Re, (opd h).imp fun F1 H1 en1 r0 _ q x hx fx => by
    obtain ⟨F2, r, R2, p2, n2, hx2, q⟩ := q x hx fx
    cases z : vw en1 r with
    | none => rw [z] at q; exact q.elim
    | some d =>
      have vx := hx2.vw R2 z
      rw [z] at q
      cases d with
      | int j =>
        have vx : x = .int j := vx
        subst vx
        simp only at q
        by_cases hb : inB62 j
        · rw [if_pos hb] at q
          refine ⟨j, rfl, hb.1, hb.2, ?_⟩
          have := wk_range (K := X.K) (F0 := F2) 0 j
          rw [Int.sub_zero] at this
          exact q F2 H1 R2 .refl _ this
        · rw [if_neg hb] at q; exact q.elim
      | _ => exact q.elim⟩
theorem ri_range2 {a b : Expr} {ma mb : M Res} (hm : X.mg "range" = none) (ha : PE X a (tE X.K X.mg W ma)) (hb : PE X b (tE X.K X.mg W mb)) (hg : Gl X "range" := by rfl) (hs : starEach [a, b] X.env = [(false, eval a X.env), (false, eval b X.env)] := by rfl) (hs2 : starEach [b] X.env = [(false, eval b X.env)] := by rfl) :
    PI X tg (.Call (.Name "range" p) [a, b] [] pos) (tI X.K X.mg W (iRange2 ma mb)) :=
  PI.imp (pi_range2 hg hm (pa_cons ha (pa_cons hb pa_nil hs2) (by rw [hs, hs2])) hs hs2) fun σ H R ⟨F, en, Re, h⟩ => ⟨F, en, Re, (opd h).imp fun F1 H1 en1 r0 _ q x hx fx => by
    obtain ⟨F2, ra, R2, p2, n2, hx2, q⟩ := q x hx fx
    refine ⟨F2, en1, R2, (opd q).imp fun F3 H3 en3 r3 _ q y hy fy => ?_⟩
    obtain ⟨F4, rb, R4, p4, n4, hy4, q⟩ := q y hy fy
    cases z : vw en3 ra with
    | none => rw [z] at q; exact q.elim
    | some d =>
      have vx := (hx2.keep (en1 := en3) (H1 := H3) p4.sub n2).vw R4 z
      cases z2 : vw en3 rb with
      | none => rw [z, z2] at q; cases d <;> exact q.elim
      | some d2 =>
        have vy := hy4.vw R4 z2
        rw [z, z2] at q
        cases d with
        | int i =>
          cases d2 with
          | int j =>
            have vx : x = .int i := vx
            have vy : y = .int j := vy
            subst vx; subst vy
            simp only at q
            by_cases hb : inB62 i ∧ inB62 j
            · rw [if_pos hb] at q
              exact ⟨i, j, rfl, ⟨hb.1.1, hb.1.2, hb.2.1, hb.2.2⟩, q F4 H3 R4 .refl _ (wk_range i j)⟩
            · rw [if_neg hb] at q; exact q.elim
          | _ => exact q.elim
        | _ => cases d2 <;> exact q.elim⟩

/-! ### targets -/
def tG (K : PySem.W.Frag) (pr : St → St) (g : Dt → En → Option En) : TG := fun v σ H Q => ∃ F en d, Rel K F H en σ ∧ Rep K F d v ∧ ∃ en', g d en = some en' ∧
  ∀ σ', Rel K F H en' σ' → Post F H (Own en σ) F H (Own en' σ') → pr σ' = pr σ → Q σ' H
def tGs (K : PySem.W.Frag) (pr : St → St) (g : List Dt → En → Option En) : TGs := fun vs σ H Q => ∃ F en ds, Rel K F H en σ ∧ Reps K F ds vs ∧ ∃ en', g ds en = some en' ∧
  ∀ σ', Rel K F H en' σ' → Post F H (Own en σ) F H (Own en' σ') → pr σ' = pr σ → Q σ' H
/-- a slot that is not looked at -/
def Out1 (pr : St → St) (i : Nat) : Prop := ∀ (σ : St) (v : Option V), pr (σ.set i v) = pr σ
theorem out_take {fx i : Nat} (h : fx ≤ i) : Out1 (List.take fx) i := fun _ _ => take_set h
theorem out_wipe {vs : List Nat} {i : Nat} (h : i ∈ vs) : Out1 (fun σ => wipe σ vs) i := fun σ v => by
  show wipe (σ.set i v) vs = wipe σ vs
  induction vs with
  | nil => cases h
  | cons w vs ih =>
    unfold wipe
    by_cases e : i = w
    · subst e
      by_cases e2 : i ∈ vs
      · rw [ih e2]
      · have : ∀ vs : List Nat, i ∉ vs → wipe (σ.set i v) vs = (wipe σ vs).set i v := fun vs => by
          induction vs with
          | nil => intro _; rfl
          | cons u us ihu =>
            intro n
            unfold wipe
            rw [ihu fun z => n (List.mem_cons_of_mem _ z), List.set_comm _ _ (fun z => n (by rw [z]; exact List.mem_cons_self))]
        rw [this vs e2, List.set_set]
    · rw [ih ((List.mem_cons.mp h).resolve_left e)]
theorem PG.imp {X : Cx} {e : Expr} {t t' : TG} (h : PG X e t) (i : ∀ v σ H Q, t' v σ H Q → t v σ H Q) : PG X e t' := ⟨fun pins s σ H v u Q I r q => h.run pins s σ H v u Q I r (i v σ H Q q)⟩
theorem PGs.imp {X : Cx} {e : List Expr} {t t' : TGs} (h : PGs X e t) (i : ∀ v σ H Q, t' v σ H Q → t v σ H Q) : PGs X e t' := ⟨fun pins s σ H v u Q I r q => h.run pins s σ H v u Q I r (i v σ H Q q)⟩
def gNm (i : Nat) : Dt → En → Option En := fun d en => some (en.set i (.val d))
def gN0 : List Dt → En → Option En := fun ds en => match ds with
  | [] => some en
  | _ => none
def gC (g : Dt → En → Option En) (gs : List Dt → En → Option En) : List Dt → En → Option En := fun ds en => match ds with
  | d :: ds => (g d en).bind fun en1 => gs ds en1
  | [] => none
def gTp (n : Nat) (gs : List Dt → En → Option En) : Dt → En → Option En := fun d en => match d with
  | .tup ds => if ds.length = n then gs ds en else none
  | .lst ds => if ds.length = n then gs ds en else none
  | _ => none
theorem PG.or {X : Cx} {e : Expr} {t t' : TG} (h : PG X e t) (h' : PG X e t') : PG X e (fun v σ H Q => t v σ H Q ∨ t' v σ H Q) :=
  ⟨fun pins s σ H v u Q I r q => q.elim (h.run pins s σ H v u Q I r) (h'.run pins s σ H v u Q I r)⟩
variable {fx : Nat} {pr : St → St}
theorem rg_name (i : Nat) {x : Str} (hf : Out1 pr i) (hN : X.N.Nodup) (hi : X.N[i]? = some x := by rfl) (hx : Loc X.env.scope x := by first | exact Or.inl rfl | exact Or.inr rfl) (hfn : X.fn x = true ∨ X.env.scope.names.lookup x = some .local := by first | exact .inl rfl | exact .inr rfl) :
    PG X (.Name x pos) (tG X.K pr (gNm i)) := PG.imp (pg_name hN hi hx hfn) fun v σ H Q ⟨F, en, d, R, q, en', e, k⟩ => by
  cases e
  obtain ⟨R2, p2⟩ := store_val (i := i) R q
  exact k _ R2 p2 (hf σ _)
theorem rgs_nil : PGs X [] (tGs X.K pr gN0) := PGs.imp pgs_nil fun vs σ H Q ⟨F, en, ds, R, q, en', e, k⟩ => by
  cases ds with
  | nil =>
    cases e
    exact ⟨q, k σ R .refl rfl⟩
  | cons d ds => cases e
theorem rgs_cons {es : List Expr} {g : Dt → En → Option En} {gs : List Dt → En → Option En} (h1 : PG X e (tG X.K pr g)) (h2 : PGs X es (tGs X.K pr gs))
    (hs : (assignEach (e :: es) X.env).map (·.2) = assign e X.env :: (assignEach es X.env).map (·.2) := by rfl) : PGs X (e :: es) (tGs X.K pr (gC g gs)) :=
  PGs.imp (pgs_cons h1 h2 hs) fun vs σ H Q ⟨F, en, ds, R, q, en', e, k⟩ => by
    cases ds with
    | nil => cases e
    | cons d ds =>
      obtain ⟨v, r, ev, q1, q2⟩ := q
      unfold gC at e
      simp only at e
      cases z : g d en with
      | none => rw [z] at e; cases e
      | some en1 =>
        rw [z] at e
        exact ⟨v, r, ev, F, en, d, R, q1, en1, z, fun σ1 R1 p1 t1 => ⟨F, en1, ds, R1, q2, en', e, fun σ2 R2 p2 t2 => k σ2 R2 (p1.trans p2) (t2.trans t1)⟩⟩
theorem rg_tup (n : Nat) {es : List Expr} {kk : Nat} {gs : List Dt → En → Option En} (hc : X.calm = true) (h : PGs X es (tGs X.K pr gs)) (hn : (assignEach es X.env).length = n := by rfl) (hst : (assignEach es X.env).findIdx? (·.1) = none := by rfl) :
    PG X (.Tuple es kk pos) (tG X.K pr (gTp n gs)) := PG.imp (PG.or (pg_tup hc h hn hst) (pg_lst hc h hn hst)) fun v σ H Q ⟨F, en, d, R, q, en', e, k⟩ => by
  cases d with
  | tup ds =>
    obtain ⟨a, xs, ev, hq, rs⟩ := q
    unfold gTp at e
    simp only at e
    by_cases hl : ds.length = n
    · rw [if_pos hl] at e
      exact .inl ⟨a, xs, ev, Same.seqT R.sub hq, by rw [← rs.length]; exact hl, F, en, ds, R, rs, en', e, k⟩
    · rw [if_neg hl] at e; cases e
  | lst ds =>
    obtain ⟨a, xs, ev, hq, rs⟩ := q
    unfold gTp at e
    simp only at e
    by_cases hl : ds.length = n
    · rw [if_pos hl] at e
      exact .inr ⟨a, xs, ev, SqL.of (R.sub _ _ hq), by rw [← rs.length]; exact hl, F, en, ds, R, rs, en', e, k⟩
    · rw [if_neg hl] at e; cases e
  | _ => cases e

/-! ### for, while -/
def forL (g : Dt → En → Option En) (mb : MS) : List Dt → MS
  | [], en => .nx en
  | d :: ds, en => match g d en with
    | none => .stuck
    | some en1 => match mb en1 with
      | .nx en2 => forL g mb ds en2
      | .cont en2 => forL g mb ds en2
      | .brk en2 => .nx en2
      | o => o
def sFor (mi : M (List Dt)) (g : Dt → En → Option En) (mb : MS) : MS := fun en => (mi en).then fun ds en1 => forL g mb ds en1
variable {mi : M (List Dt)} {g : Dt → En → Option En} {mb : MS} {body : List Stmt}
theorem rs_for {k : Nat} (ct : Ct X W k) (hi : PI X tg e (tI X.K X.mg W mi)) (hg : PG X tg (tG X.K (List.take fx) g)) (hb : PSs X body (tS X.K X.mg W fx mb)) (hs : ∀ x, foldedSetIterable e X.env x = pure x := by exact fun _ => rfl) :
    PS X (.For tg e body [] pos) (tS X.K X.mg W fx (sFor mi g mb)) :=
  PS.imp (ps_for ct.pass ct.calm hi hg hb hs) fun D σ H ⟨F, en, R, h⟩ => ⟨F, en, R, h.ofThen.imp fun F1 H1 en1 ds _ ⟨R1, p1, q⟩ J wk => by
    refine ⟨fun i m σi Hi => ∃ Fi eni, m = ds.length - i ∧ i ≤ ds.length ∧ Rel X.K Fi Hi eni σi ∧ Same F1 Fi ∧ SOk X.K X.mg W fx Fi Hi eni σi D (forL g mb (ds.drop i) eni), ⟨_, F1, en1, rfl, Nat.zero_le _, R1, Same.refl _, q.bind p1 rfl⟩, ?_⟩
    rintro i m σi Hi ⟨Fi, eni, rfl, hi, Ri, si, qi⟩
    obtain ⟨w1, w2⟩ := wk Fi Hi i si Ri.sub
    by_cases hlt : i < ds.length
    · have ed : ds[i]? = some ds[i] := List.getElem?_eq_getElem hlt
      obtain ⟨go, yld⟩ := w1 _ ed
      rw [List.drop_eq_getElem_cons hlt] at qi
      unfold forL at qi
      refine .inr ⟨go, fun σ' H' => ∃ Fi eni, Rel X.K Fi H' eni σ' ∧ Same F1 Fi ∧ SOk X.K X.mg W fx Fi H' eni σ' D (forL g mb (ds.drop (i + 1)) eni), fun σ' H' ⟨Fj, enj, Rj, sj, qj⟩ => ⟨ds.length - (i + 1), by omega, Fj, enj, rfl, hlt, Rj, sj, qj⟩, fun x H' y => ?_⟩
      obtain ⟨F', gr, rep⟩ := yld x H' y
      cases z : g ds[i] eni with
      | none => rw [z] at qi; exact qi.elim
      | some en2 =>
        rw [z] at qi
        dsimp only at qi
        refine ⟨F', eni, ds[i], Ri.grow gr, rep, en2, z, fun σ2 R2 p2 t2 => ?_⟩
        have p02 : Post Fi Hi (Own eni σi) F' H' (Own en2 σ2) := gr.post.trans p2
        refine ⟨F', en2, R2, ?_⟩
        cases zb : mb en2 with
        | nx en3 => rw [zb] at qi; exact fun σ3 F3 H3 R3 p3 t3 => ⟨F3, en3, R3, si.trans (p02.sub.trans p3.sub), qi.bind (p02.trans p3) (t3.trans t2)⟩
        | cont en3 => rw [zb] at qi; exact fun σ3 F3 H3 R3 p3 t3 => ⟨F3, en3, R3, si.trans (p02.sub.trans p3.sub), qi.bind (p02.trans p3) (t3.trans t2)⟩
        | brk en3 => rw [zb] at qi; exact fun σ3 F3 H3 R3 p3 t3 => qi σ3 F3 H3 R3 (p02.trans p3) (t3.trans t2)
        | ret r en3 => rw [zb] at qi; exact SOk.bind (D := D) (o := .ret r en3) p02 t2 qi
        | exc c d en3 => rw [zb] at qi; exact SOk.bind (D := D) (o := .exc c d en3) p02 t2 qi
        | stuck => rw [zb] at qi; exact qi
    · have e0 : ds.drop i = [] := List.drop_eq_nil_of_le (by omega)
      rw [e0] at qi
      exact .inl ⟨w2 (by omega), qi σi Fi Hi Ri .refl rfl⟩⟩
def whileN (c : M Bool) (mb : MS) : Nat → MS
  | 0, _ => .stuck
  | n + 1, en => (c en).then fun b en1 => if b = true then (match mb en1 with
      | .nx en2 => whileN c mb n en2
      | .cont en2 => whileN c mb n en2
      | .brk en2 => .nx en2
      | o => o) else .nx en1
open Classical in
noncomputable def sWhile (c : M Bool) (mb : MS) : MS := fun en => if h : ∃ n, whileN c mb n en ≠ .stuck then whileN c mb h.choose en else .stuck
theorem whileN_mono {c : M Bool} {mb : MS} : ∀ {n : Nat} (k : Nat) {en : En}, whileN c mb n en ≠ .stuck → whileN c mb (n + k) en = whileN c mb n en
  | 0, k, en, h => absurd rfl h
  | n + 1, k, en, h => by
    have e : n + 1 + k = (n + k) + 1 := by omega
    rw [e]
    unfold whileN at h ⊢
    cases z : c en with
    | stuck => rfl
    | exc c d en1 => rfl
    | ok b en1 =>
      rw [z] at h
      unfold Out.then at h ⊢
      simp only at h ⊢
      cases b with
      | false => rfl
      | true =>
        rw [if_pos rfl] at h ⊢
        rw [if_pos rfl]
        cases y : mb en1 with
        | nx en2 => rw [y] at h; exact whileN_mono k h
        | cont en2 => rw [y] at h; exact whileN_mono k h
        | _ => rfl
theorem sWhile_eq {c : M Bool} {mb : MS} {n : Nat} {en : En} {o : OutS} (h : whileN c mb n en = o) (ho : o ≠ .stuck) : sWhile c mb en = o := by
  subst h
  have hx : ∃ n, whileN c mb n en ≠ .stuck := ⟨n, ho⟩
  unfold sWhile
  rw [dif_pos hx]
  have h2 := hx.choose_spec
  have a := whileN_mono n h2
  have b := whileN_mono hx.choose ho
  rw [← a, ← b, Nat.add_comm]
theorem rs_while {k : Nat} {c : M Bool} (ct : Ct X W k) (hc : PT X e (tT X.K X.mg W c)) (hb : PSs X body (tS X.K X.mg W fx mb)) : PS X (.While e body [] pos) (tS X.K X.mg W fx (sWhile c mb)) :=
  PS.imp (ps_while ct.pass hc hb) fun D σ H ⟨F, en, R, h⟩ => by
    obtain ⟨n, hn⟩ : ∃ n, SOk X.K X.mg W fx F H en σ D (whileN c mb n en) := by
      unfold sWhile at h
      split at h
      · exact ⟨_, h⟩
      · exact h.elim
    refine ⟨fun m σi Hi => ∃ Fi eni, Rel X.K Fi Hi eni σi ∧ SOk X.K X.mg W fx Fi Hi eni σi D (whileN c mb m eni), ⟨n, F, en, R, hn⟩, ?_⟩
    rintro m σi Hi ⟨Fi, eni, Ri, qi⟩
    cases m with
    | zero => exact qi.elim
    | succ m =>
      unfold whileN at qi
      refine ⟨Fi, eni, Ri, qi.ofThen.imp fun F1 H1 en1 b _ ⟨R1, p1, q⟩ => ?_⟩
      cases b with
      | false =>
        rw [if_neg Bool.false_ne_true] at q ⊢
        exact q σi F1 H1 R1 p1 rfl
      | true =>
        rw [if_pos rfl] at q ⊢
        refine ⟨fun σ' H' => ∃ Fi eni, Rel X.K Fi H' eni σ' ∧ SOk X.K X.mg W fx Fi H' eni σ' D (whileN c mb m eni), fun σ' H' ⟨Fj, enj, Rj, qj⟩ => ⟨m, Nat.lt_succ_self m, Fj, enj, Rj, qj⟩, F1, en1, R1, ?_⟩
        cases zb : mb en1 with
        | nx en3 => rw [zb] at q; exact fun σ3 F3 H3 R3 p3 t3 => ⟨F3, en3, R3, q.bind (p1.trans p3) t3⟩
        | cont en3 => rw [zb] at q; exact fun σ3 F3 H3 R3 p3 t3 => ⟨F3, en3, R3, q.bind (p1.trans p3) t3⟩
        | brk en3 => rw [zb] at q; exact fun σ3 F3 H3 R3 p3 t3 => q σ3 F3 H3 R3 (p1.trans p3) t3
        | ret r en3 => rw [zb] at q; exact SOk.bind (D := D) (o := .ret r en3) p1 rfl q
        | exc c d en3 => rw [zb] at q; exact SOk.bind (D := D) (o := .exc c d en3) p1 rfl q
        | stuck => rw [zb] at q; exact q
end
end Fw

/-! Fw7: comprehensions, lists of one's own changed by methods. -/
namespace Fw
open PySem PySem.Spec PyProof.Rows L2

def wipeE (en : En) : List Nat → En
  | [] => en
  | v :: vs => (wipeE en vs).set v .un
def restE (en0 en : En) : List Nat → En
  | [] => en
  | v :: vs => (restE en0 en vs).set v (match en0[v]? with
    | some s => s
    | none => .un)
theorem wipe_outS' {σ : St} {vs : List Nat} {j : Nat} (hj : j ∉ vs) : (wipe σ vs)[j]? = σ[j]? := by
  induction vs with
  | nil => rfl
  | cons v vs ih =>
    unfold wipe
    rw [List.getElem?_set_ne (fun z => hj (by rw [← z]; exact List.mem_cons_self))]
    exact ih fun z => hj (List.mem_cons_of_mem _ z)
section
variable {K : PySem.W.Frag} {F F' H H' : Hp} {en en' : En} {σ : St}
theorem wipe_inS {vs : List Nat} {j : Nat} (hj : j ∈ vs) (τ : St) : (wipe τ vs)[j]? = (if j < τ.length then some none else none) := by
  induction vs with
  | nil => cases hj
  | cons w vs ih =>
    unfold wipe
    by_cases e : j = w
    · subst e
      rw [List.getElem?_set, if_pos rfl, wipe_length]
    · rw [List.getElem?_set_ne (Ne.symm e)]
      exact ih ((List.mem_cons.mp hj).resolve_left e)
theorem wipe_twice (σ : St) (vs : List Nat) : wipe (wipe σ vs) vs = wipe σ vs := by
  refine List.ext_getElem? fun j => ?_
  by_cases hj : j ∈ vs
  · rw [wipe_inS hj, wipe_inS hj, wipe_length]
  · rw [wipe_outS' hj]
theorem wipeE_len (vs : List Nat) : (wipeE en vs).length = en.length := by
  induction vs with
  | nil => rfl
  | cons v vs ih => unfold wipeE; rw [List.length_set, ih]
theorem restE_len (vs : List Nat) : (restE en en' vs).length = en'.length := by
  induction vs with
  | nil => rfl
  | cons v vs ih => unfold restE; rw [List.length_set, ih]
theorem wipeE_in {vs : List Nat} {j : Nat} {s : Sl} (hj : j ∈ vs) (e : (wipeE en vs)[j]? = some s) : s = .un := by
  induction vs with
  | nil => cases hj
  | cons v vs ih =>
    unfold wipeE at e
    by_cases h : j = v
    · subst h
      rw [List.getElem?_set] at e
      simp at e
      exact e.2.symm
    · rw [List.getElem?_set_ne (Ne.symm h)] at e
      exact ih ((List.mem_cons.mp hj).resolve_left h) e
theorem wipeE_out {vs : List Nat} {j : Nat} (hj : j ∉ vs) : (wipeE en vs)[j]? = en[j]? := by
  induction vs with
  | nil => rfl
  | cons v vs ih =>
    unfold wipeE
    rw [List.getElem?_set_ne (fun z => hj (by rw [← z]; exact List.mem_cons_self))]
    exact ih fun z => hj (List.mem_cons_of_mem _ z)
theorem wipe_outS {vs : List Nat} {j : Nat} (hj : j ∉ vs) : (wipe σ vs)[j]? = σ[j]? := by
  induction vs with
  | nil => rfl
  | cons v vs ih =>
    unfold wipe
    rw [List.getElem?_set_ne (fun z => hj (by rw [← z]; exact List.mem_cons_self))]
    exact ih fun z => hj (List.mem_cons_of_mem _ z)
theorem restE_in {vs : List Nat} {j : Nat} {s : Sl} (hj : j ∈ vs) (hl : j < en.length) (e : (restE en en' vs)[j]? = some s) : en[j]? = some s := by
  induction vs with
  | nil => cases hj
  | cons v vs ih =>
    unfold restE at e
    by_cases h : j = v
    · subst h
      rw [List.getElem?_set] at e
      simp at e
      rw [List.getElem?_eq_getElem hl] at e ⊢
      simp at e
      rw [e.2]
    · rw [List.getElem?_set_ne (Ne.symm h)] at e
      exact ih ((List.mem_cons.mp hj).resolve_left h) e
theorem restE_out {vs : List Nat} {j : Nat} (hj : j ∉ vs) : (restE en en' vs)[j]? = en'[j]? := by
  induction vs with
  | nil => rfl
  | cons v vs ih =>
    unfold restE
    rw [List.getElem?_set_ne (fun z => hj (by rw [← z]; exact List.mem_cons_self))]
    exact ih fun z => hj (List.mem_cons_of_mem _ z)
/-- the block's own slots forgotten -/
theorem wipe_rel {vs : List Nat} (R : Rel K F H en σ) : Rel K F H (wipeE en vs) (wipe σ vs) ∧ (∀ b, Own (wipeE en vs) (wipe σ vs) b → Own en σ b) := by
  refine ⟨⟨R.sub, by rw [wipeE_len, wipe_length]; exact R.len, fun i s o e1 e2 => ?_, fun i j ds es a e1 e2 e3 e4 => ?_⟩, fun b ⟨i, ds, e1, e2⟩ => ?_⟩
  · by_cases hi : i ∈ vs
    · rw [wipeE_in hi e1]; trivial
    · rw [wipeE_out hi] at e1; rw [wipe_outS hi] at e2; exact R.ok i s o e1 e2
  · have hi : i ∉ vs := fun z => by cases wipeE_in z e1
    have hj : j ∉ vs := fun z => by cases wipeE_in z e2
    rw [wipeE_out hi] at e1; rw [wipeE_out hj] at e2; rw [wipe_outS hi] at e3; rw [wipe_outS hj] at e4
    exact R.ne i j ds es a e1 e2 e3 e4
  · have hi : i ∉ vs := fun z => by cases wipeE_in z e1
    rw [wipeE_out hi] at e1; rw [wipe_outS hi] at e2
    exact ⟨i, ds, e1, e2⟩
theorem wipe_post {vs : List Nat} (R : Rel K F H en σ) : Post F H (Own en σ) F H (Own (wipeE en vs) (wipe σ vs)) :=
  ⟨Same.refl _, fun _ _ h _ => h, fun _ h => h, fun _ _ h => .inl h, fun b h => .inl ((wipe_rel R).2 b h)⟩
/-- .. and back -/
theorem rest_rel {vs : List Nat} {σ2 : St} (R : Rel K F H en σ) (R' : Rel K F' H' en' σ2) (hσ : wipe σ2 vs = wipe σ vs) (p : Post F H (Own (wipeE en vs) (wipe σ vs)) F' H' (Own (wipeE en' vs) (wipe σ2 vs))) :
    Rel K F' H' (restE en en' vs) σ ∧ Post F H (Own en σ) F' H' (Own (restE en en' vs) σ) := by
  have hl2 : σ2.length = σ.length := by rw [← wipe_length σ2 vs, hσ, wipe_length]
  have hlen : en'.length = en.length := by rw [R'.len, R.len, hl2]
  have σout : ∀ {j : Nat}, j ∉ vs → σ2[j]? = σ[j]? := fun {j} hj => by rw [← wipe_outS (σ := σ2) hj, hσ, wipe_outS hj]
  -- what an old list of one's own is, where the block does not see it
  have old : ∀ {j : Nat} {ds : Cn} {a : Addr}, j ∈ vs → en[j]? = some (.own ds) → σ[j]? = some (some (.ref a)) → ¬ Own (wipeE en vs) (wipe σ vs) a := fun {j ds a} hj e1 e2 ⟨k, es, e3, e4⟩ => by
    have hk : k ∉ vs := fun z => by cases wipeE_in z e3
    rw [wipeE_out hk] at e3; rw [wipe_outS hk] at e4
    exact hk (by rw [← R.ne j k _ _ a e1 e3 e2 e4]; exact hj)
  have inS : ∀ {j : Nat} {s : Sl}, j ∈ vs → (restE en en' vs)[j]? = some s → en[j]? = some s := fun {j s} hj e => by
    have hl : j < en.length := by
      have := (List.getElem?_eq_some_iff.mp e).1
      rw [restE_len, hlen] at this; exact this
    exact restE_in hj hl e
  have keepOld : ∀ {j : Nat} {ds : Cn} {a : Addr}, j ∈ vs → en[j]? = some (.own ds) → σ[j]? = some (some (.ref a)) → ∃ xs, H' a = some (ds.ho xs) ∧ F' a = none ∧ RepC K F ds xs ∧ H a = some (ds.ho xs) := fun {j ds a} hj e1 e2 => by
    obtain ⟨b, xs, e, h1, h2, q⟩ := R.ok j _ _ e1 e2
    cases e
    have n := old hj e1 e2
    refine ⟨xs, p.keep _ _ h1 n, ?_, q, h1⟩
    cases z : F' a with
    | none => rfl
    | some u =>
      rcases p.frz a u z with y | y | y
      · rw [h2] at y; cases y
      · rw [h1] at y; cases y
      · exact absurd y n
  refine ⟨⟨R'.sub, by rw [restE_len, hlen, R.len], fun j s o e1 e2 => ?_, fun i j ds es a e1 e2 e3 e4 => ?_⟩, ⟨p.sub, fun b o e n => p.keep b o e fun z => n ((wipe_rel R).2 b z), p.there, fun b o e => ?_, fun b ⟨j, ds, e1, e2⟩ => ?_⟩⟩
  · by_cases hj : j ∈ vs
    · have e1 := inS hj e1
      have q := R.ok j s o e1 e2
      cases s with
      | un => trivial
      | val d => obtain ⟨v, e, q⟩ := q; exact ⟨v, e, Rep.mono p.sub _ _ q⟩
      | scr ns => obtain ⟨b, e, q⟩ := q; exact ⟨b, e, p.sub.seq q⟩
      | own ds =>
        obtain ⟨a, xs, e, h1, h2, q⟩ := q
        obtain ⟨xs', g1, g2, g3, _⟩ := keepOld hj e1 (by rw [e2, e])
        exact ⟨a, xs', e, g1, g2, g3.mono p.sub⟩
    · rw [restE_out hj] at e1
      exact R'.ok j s o e1 (by rw [σout hj]; exact e2)
  · have mix : ∀ {i j : Nat} {ds es : Cn}, i ∈ vs → j ∉ vs → (restE en en' vs)[i]? = some (.own ds) → (restE en en' vs)[j]? = some (.own es) → σ[i]? = some (some (.ref a)) → σ[j]? = some (some (.ref a)) → False := fun {i j ds es} hi hj e1 e2 e3 e4 => by
      rw [restE_out hj] at e2
      have e1 := inS hi e1
      have o : Own (wipeE en' vs) (wipe σ2 vs) a := ⟨j, es, by rw [wipeE_out hj]; exact e2, by rw [wipe_outS hj, σout hj]; exact e4⟩
      obtain ⟨xs, _, _, _, h1⟩ := keepOld hi e1 e3
      rcases p.own a o with z | z
      · exact old hi e1 e3 z
      · rw [h1] at z; cases z
    by_cases hi : i ∈ vs <;> by_cases hj : j ∈ vs
    · exact R.ne i j ds es a (inS hi e1) (inS hj e2) e3 e4
    · exact (mix hi hj e1 e2 e3 e4).elim
    · exact (mix hj hi e2 e1 e4 e3).elim
    · rw [restE_out hi] at e1; rw [restE_out hj] at e2
      exact R'.ne i j ds es a e1 e2 (by rw [σout hi]; exact e3) (by rw [σout hj]; exact e4)
  · rcases p.frz b o e with z | z | z
    · exact .inl z
    · exact .inr (.inl z)
    · exact .inr (.inr ((wipe_rel R).2 b z))
  · by_cases hj : j ∈ vs
    · exact .inl ⟨j, ds, inS hj e1, e2⟩
    · rw [restE_out hj] at e1
      rcases p.own b ⟨j, ds, by rw [wipeE_out hj]; exact e1, by rw [wipe_outS hj, σout hj]; exact e2⟩ with z | z
      · exact .inl ((wipe_rel R).2 b z)
      · exact .inr z
end

theorem Rel.updD {K : PySem.W.Frag} {F H : Hp} {en : En} {σ : St} {D : Addr} {o : HO} (R : Rel K F H en σ) (h : F D = none) (n : ¬ Own en σ D) : Rel K F (upd H D o) en σ := by
  refine ⟨fun b u e => ?_, R.len, fun i s v e1 e2 => ?_, R.ne⟩
  · rw [upd_ne (ne_of_none e h)]; exact R.sub b u e
  · have q := R.ok i s v e1 e2
    cases s with
    | un => trivial
    | val d => exact q
    | scr ns => exact q
    | own ds =>
      obtain ⟨a, xs, e, h1, h2, q⟩ := q
      refine ⟨a, xs, e, ?_, h2, q⟩
      rw [upd_ne ?_]
      · exact h1
      · rintro rfl; exact n ⟨i, ds, e1, by rw [e2, e]⟩
def Out.calm {α : Type} (o : Out α) : Out α := match o with
  | .exc _ _ _ => .stuck
  | o => o
/-- a comprehension's turns -/
def compL (g : Dt → En → Option En) (c : M Bool) (me : M Res) (vs : List Nat) : List Dt → List Dt → En → Out (List Dt)
  | [], acc, en => .ok acc en
  | d :: ds, acc, en => match g d en with
    | none => .stuck
    | some en1 => match (c en1).calm with
      | .ok b en2 => if b = true then (match (eVal me en2).calm with
          | .ok y en3 => if acc.length < sizeLine then compL g c me vs ds (acc ++ [y]) (wipeE en3 vs) else .stuck
          | _ => .stuck) else compL g c me vs ds acc (wipeE en2 vs)
      | _ => .stuck
def eComp (mi : M (List Dt)) (g : Dt → En → Option En) (c : M Bool) (me : M Res) (vs : List Nat) : M Res := fun en => (mi en).bind fun ds en1 => (compL g c me vs ds [] (wipeE en1 vs)).bind fun ys en2 => .ok (.new ys) (restE en1 en2 vs)
abbrev W0 : WX := fun _ _ _ _ => False
def cYes : M Bool := fun en => .ok true en
theorem PTs.imp {X : Cx} {e : List Expr} {t t' : TT} (h : PTs X e t) (i : ∀ σ H Q, t' σ H Q → t σ H Q) : PTs X e t' := ⟨fun pins s σ H Q I q => h.run pins s σ H Q I (i σ H Q q)⟩
theorem OutOk.calm {α : Type} {K : PySem.W.Frag} {mg : Str → Option Value} {F H : Hp} {en : En} {σ : St} {o : Out α} {a : α} {en1 : En} {P : Hp → Hp → En → α → Prop} (e : o.calm = .ok a en1)
    (h : ∀ F' H', Rel K F' H' en1 σ → Post F H (Own en σ) F' H' (Own en1 σ) → P F' H' en1 a) : OutOk K mg W0 F H en σ o P := by
  cases o with
  | ok b en2 => cases e; exact h
  | exc c d en2 => cases e
  | stuck => cases e

section
variable {X : Cx} {W : WX} {e tg elt : Expr} {ifs : List Expr} {mi : M (List Dt)} {g : Dt → En → Option En} {c : M Bool} {me : M Res} {scope : Scope} {own : List (Str × Nat)} {pos : Pos}
theorem rts_nil : PTs X [] (tT X.K X.mg W cYes) := PTs.imp pts_nil fun σ H Q ⟨F, en, R, h⟩ => h F H R .refl
theorem rts_one {e : Expr} (h : PT X e (tT X.K X.mg W c)) : PTs X [e] (tT X.K X.mg W c) := pts_one h
theorem Ct.blk {k : Nat} (ct : Ct X W k) (s : Shared) (H : Hp) (cenv : Env) (fp : List Addr) : Ct (X.blk s H scope cenv fp) W0 k := ⟨ct.calm, ct.nd, takes0, ct.room, PassesOwn.never⟩
theorem comp_core {σ : St} {H : Hp} {Q : VK} {vs : List Nat} (h : tE X.K X.mg W (eComp mi g c me vs) σ H Q) : tLc (tI X.K X.mg W mi) (tG X.K (fun σ => wipe σ vs) g) (tT X.K X.mg W0 c) (tV X.K X.mg W0 (eVal me)) vs σ H Q := by
  obtain ⟨F, en, R, h⟩ := h
  refine ⟨F, en, R, (OutOk.ofBind h).imp fun F1 H1 en1 ds _ ⟨R1, p1, q⟩ J wk D hD => ?_⟩
  have hF1 : F1 D = none := R1.sub.free hD
  obtain ⟨Rw, _⟩ := wipe_rel (vs := vs) R1
  generalize ho : compL g c me vs ds [] (wipeE en1 vs) = o at q
  have g0 : Grow F1 H1 F1 (upd H1 D (.lst [])) := grow_own R1.sub hD
  have noD : ∀ {Fi Hi : Hp} {eni : En}, Post F1 H1 (Own (wipeE en1 vs) (wipe σ vs)) Fi Hi (Own eni (wipe σ vs)) → Rel X.K Fi Hi eni (wipe σ vs) → Fi D = none → True := fun _ _ _ => trivial
  -- the word: the new list is told apart from what the block knows
  refine ⟨fun i m Hi => ∃ Fi eni acc xs, m = ds.length - i ∧ i ≤ ds.length ∧ Rel X.K Fi Hi eni (wipe σ vs) ∧ Post F1 H1 (Own (wipeE en1 vs) (wipe σ vs)) Fi Hi (Own eni (wipe σ vs)) ∧
      Hi D = some (.lst xs) ∧ Fi D = none ∧ ¬ Own eni (wipe σ vs) D ∧ Reps X.K Fi acc xs ∧ compL g c me vs (ds.drop i) acc eni = o,
    ⟨_, F1, wipeE en1 vs, [], [], rfl, Nat.zero_le _, Rw.grow g0, g0.post, upd_same, hF1, fun z => ?_, rfl, ho⟩, ?_⟩
  · obtain ⟨_, y, _⟩ := Rw.own_there z
    rw [hD] at y; cases y
  rintro i m Hi ⟨Fi, eni, acc, xs, rfl, hi, Ri, pi, hDi, hFi, nDi, qi, eo⟩
  obtain ⟨w1, w2⟩ := wk Fi Hi i pi.sub Ri.sub
  by_cases hlt : i < ds.length
  · have ed : ds[i]? = some ds[i] := List.getElem?_eq_getElem hlt
    obtain ⟨go, yld⟩ := w1 _ ed
    rw [List.drop_eq_getElem_cons hlt] at eo
    unfold compL at eo
    have ne : o ≠ .stuck := fun z => by rw [z] at q; exact q
    refine .inr ⟨go, fun H' => ∃ Fi eni acc xs, Rel X.K Fi H' eni (wipe σ vs) ∧ Post F1 H1 (Own (wipeE en1 vs) (wipe σ vs)) Fi H' (Own eni (wipe σ vs)) ∧
      H' D = some (.lst xs) ∧ Fi D = none ∧ ¬ Own eni (wipe σ vs) D ∧ Reps X.K Fi acc xs ∧ compL g c me vs (ds.drop (i + 1)) acc eni = o,
      fun H' ⟨Fj, enj, accj, xsj, h1, h2, h4, h5, h6, h7, h8⟩ => ⟨ds.length - (i + 1), by omega, Fj, enj, accj, xsj, rfl, hlt, h1, h2, h4, h5, h6, h7, h8⟩, fun x H' y => ?_⟩
    obtain ⟨F', gr, rep⟩ := yld x H' y
    cases z : g ds[i] eni with
    | none => rw [z] at eo; exact absurd eo.symm ne
    | some en2 =>
      rw [z] at eo
      dsimp only at eo
      refine ⟨F', eni, ds[i], Ri.grow gr, rep, en2, z, fun σ2 R2 p2 t2 => ?_⟩
      have t2 : wipe σ2 vs = wipe σ vs := t2.trans (wipe_twice σ vs)
      have p02 : Post F1 H1 (Own (wipeE en1 vs) (wipe σ vs)) F' H' (Own en2 σ2) := (pi.trans gr.post).trans p2
      -- keeping D through a step
      have keepD : ∀ {Fa Ha Fb Hb : Hp} {A B : Addr → Prop} {xs : List V}, Post Fa Ha A Fb Hb B → Ha D = some (.lst xs) → Fa D = none → ¬ A D → Hb D = some (.lst xs) ∧ Fb D = none ∧ ¬ B D := fun {Fa Ha Fb Hb A B xs} p e1 e2 n => by
        refine ⟨p.keep _ _ e1 n, ?_, fun z => ?_⟩
        · cases y : Fb D with
          | none => rfl
          | some u =>
            rcases p.frz D u y with t | t | t
            · rw [e2] at t; cases t
            · rw [e1] at t; cases t
            · exact absurd t n
        · rcases p.own D z with t | t
          · exact n t
          · rw [e1] at t; cases t
      obtain ⟨d1, d2, d3⟩ := keepD (gr.post.trans p2) hDi hFi nDi
      refine ⟨t2, F', en2, R2, ?_⟩
      cases zc : (c en2).calm with
      | stuck => rw [zc] at eo; exact absurd eo.symm ne
      | exc c' d' en' => rw [zc] at eo; exact absurd eo.symm ne
      | ok b en3 =>
        rw [zc] at eo
        dsimp only at eo
        refine OutOk.calm zc fun F3 H3 R3 p3 => ?_
        obtain ⟨k1, k2, k3⟩ := keepD p3 d1 d2 d3
        have q3 := Reps.mono ((gr.sub.trans p2.sub).trans p3.sub) _ _ qi
        cases b with
        | false =>
          rw [if_neg Bool.false_ne_true] at eo ⊢
          obtain ⟨Rw3, ow3⟩ := wipe_rel (vs := vs) R3
          have pw3 := (p02.trans p3).trans (wipe_post (vs := vs) R3)
          have n3 : ¬ Own (wipeE en3 vs) (wipe σ2 vs) D := fun z => k3 (ow3 D z)
          rw [t2] at Rw3 pw3 n3
          exact ⟨F3, _, acc, xs, Rw3, pw3, k1, k2, n3, q3, eo⟩
        | true =>
          rw [if_pos rfl] at eo ⊢
          refine ⟨F3, en3, R3, ?_⟩
          cases zv : (eVal me en3).calm with
          | stuck => rw [zv] at eo; exact absurd eo.symm ne
          | exc c' d' en' => rw [zv] at eo; exact absurd eo.symm ne
          | ok y4 en4 =>
            rw [zv] at eo
            dsimp only at eo
            by_cases hz : acc.length < sizeLine
            · rw [if_pos hz] at eo
              refine OutOk.calm zv fun F4 H4 R4 p4 v hv => ?_
              obtain ⟨l1, l2, l3⟩ := keepD p4 k1 k2 k3
              have q4 := Reps.mono p4.sub _ _ q3
              refine ⟨xs, l1, by rw [← q3.length]; exact hz, ?_⟩
              obtain ⟨Rw4, ow4⟩ := wipe_rel (vs := vs) R4
              have pw4 := ((p02.trans p3).trans p4).trans (wipe_post (vs := vs) R4)
              have n4 : ¬ Own (wipeE en4 vs) (wipe σ2 vs) D := fun z => l3 (ow4 D z)
              rw [t2] at Rw4 pw4 n4
              refine ⟨F4, _, acc ++ [y4], xs ++ [v], Rw4.updD l2 n4, ⟨pw4.sub, fun b o e n => ?_, fun b e => ?_, pw4.frz, pw4.own⟩, upd_same, l2, n4, Reps.append q4 (Reps.one hv), eo⟩
              · rw [upd_ne (ne_of_none e hD)]; exact pw4.keep b o e n
              · by_cases eb : b = D
                · subst eb; exact hD
                · rw [upd_ne eb] at e; exact pw4.there b e
            · rw [if_neg hz] at eo; exact absurd eo.symm ne
  · have e0 : ds.drop i = [] := List.drop_eq_nil_of_le (by omega)
    rw [e0] at eo
    unfold compL at eo
    subst eo
    refine .inl ⟨w2 (by omega), ?_⟩
    have pw : Post F1 H1 (Own (wipeE en1 vs) (wipe σ vs)) Fi Hi (Own (wipeE eni vs) (wipe (wipe σ vs) vs)) := pi.trans (wipe_post Ri)
    obtain ⟨Rr, pr⟩ := rest_rel R1 Ri (wipe_twice σ vs) pw
    refine q Fi Hi Rr (p1.trans pr) (.ref D) ⟨D, xs, rfl, hDi, hFi, fun ⟨j, es, e1, e2⟩ => ?_, qi⟩ fun a ea => by cases ea; exact p1.there _ hD
    by_cases hj : j ∈ vs
    · have hl : j < en1.length := by
        have := (List.getElem?_eq_some_iff.mp e1).1
        rw [restE_len, Ri.len, wipe_length, ← R1.len] at this; exact this
      obtain ⟨_, y, _⟩ := R1.own_there ⟨j, es, restE_in hj hl e1, e2⟩
      rw [hD] at y; cases y
    · rw [restE_out hj] at e1
      exact nDi ⟨j, es, e1, by rw [wipe_outS hj]; exact e2⟩
theorem re_comp {k : Nat} (ct : Ct X W k) (ok : BlkOk X.N X.env.scope scope own) (hi : PI X tg e (tI X.K X.mg W mi))
    (hg : ∀ (s : Shared) (H : Hp) (C : Addr) (cl : List (Str × Addr)) (fp : List Addr), Ct (X.blk s H scope (compEnvC scope cl C X.env) fp) W0 k → PG (X.blk s H scope (compEnvC scope cl C X.env) fp) tg (tG X.K (fun σ => wipe σ (own.map (·.2))) g))
    (ht : ∀ (s : Shared) (H : Hp) (C : Addr) (cl : List (Str × Addr)) (fp : List Addr), Ct (X.blk s H scope (compEnvC scope cl C X.env) fp) W0 k → PTs (X.blk s H scope (compEnvC scope cl C X.env) fp) ifs (tT X.K X.mg W0 c))
    (he : ∀ (s : Shared) (H : Hp) (C : Addr) (cl : List (Str × Addr)) (fp : List Addr), Ct (X.blk s H scope (compEnvC scope cl C X.env) fp) W0 k → PE (X.blk s H scope (compEnvC scope cl C X.env) fp) elt (tE X.K X.mg W0 me))
    (hs : ∀ x, foldedSetIterable e X.env x = pure x := by exact fun _ => rfl) :
    PE X (.ListComp elt [⟨tg, e, ifs, 0⟩] scope pos) (tE X.K X.mg W (eComp mi g c me (own.map (·.2)))) :=
  PE.imp (pe_lc ct.calm ct.nd hi ok (fun s H C cl fp => hg s H C cl fp (ct.blk s H _ fp)) (fun s H C cl fp => ht s H C cl fp (ct.blk s H _ fp)) (fun s H C cl fp => rv_of (X := X.blk s H scope (compEnvC scope cl C X.env) fp) (he s H C cl fp (ct.blk s H _ fp))) hs) fun σ H Q h => comp_core h
/-- name = [..] on one line -/
theorem rs_setLc {k : Nat} {fx : Nat} (i : Nat) {y : Str} {py spos : Pos} (hf : fx ≤ i) (ct : Ct X W k) (ok : BlkOk X.N X.env.scope scope own) (hi : PI X tg e (tI X.K X.mg W mi))
    (hg : ∀ (s : Shared) (H : Hp) (C : Addr) (cl : List (Str × Addr)) (fp : List Addr), Ct (X.blk s H scope (compEnvC scope cl C X.env) fp) W0 k → PG (X.blk s H scope (compEnvC scope cl C X.env) fp) tg (tG X.K (fun σ => wipe σ (own.map (·.2))) g))
    (ht : ∀ (s : Shared) (H : Hp) (C : Addr) (cl : List (Str × Addr)) (fp : List Addr), Ct (X.blk s H scope (compEnvC scope cl C X.env) fp) W0 k → PTs (X.blk s H scope (compEnvC scope cl C X.env) fp) ifs (tT X.K X.mg W0 c))
    (he : ∀ (s : Shared) (H : Hp) (C : Addr) (cl : List (Str × Addr)) (fp : List Addr), Ct (X.blk s H scope (compEnvC scope cl C X.env) fp) W0 k → PE (X.blk s H scope (compEnvC scope cl C X.env) fp) elt (tE X.K X.mg W0 me))
    (hsw : swapsWith (.ListComp elt [⟨tg, e, ifs, 0⟩] scope pos) (some (.Name y py)) spos.line X.env = pure true)
    (hy : X.N[i]? = some y := by rfl) (hyl : X.env.scope.names.lookup y = some .local := by rfl) (hs : ∀ x, foldedSetIterable e X.env x = pure x := by exact fun _ => rfl) :
    PS X (.Assign [.Name y py] (.ListComp elt [⟨tg, e, ifs, 0⟩] scope pos) spos) (tS X.K X.mg W fx (sSet i (eComp mi g c me (own.map (·.2))))) :=
  PS.imp (ps_setLc ct.calm ct.nd hy hyl hsw hi ok (fun s H C cl fp => hg s H C cl fp (ct.blk s H _ fp)) (fun s H C cl fp => ht s H C cl fp (ct.blk s H _ fp)) (fun s H C cl fp => rv_of (X := X.blk s H scope (compEnvC scope cl C X.env) fp) (he s H C cl fp (ct.blk s H _ fp))) hs) fun D σ H ⟨F, en, R, h⟩ =>
    comp_core (X := X) (Q := fun x H1 => D.nx (σ.set i (some x)) H1) ⟨F, en, R, h.ofThen.imp fun F1 H1 en1 r _ ⟨R1, p1, q⟩ v hv fr => put_ok hf R1 p1 q hv fr⟩
end
end Fw

/-! Fw8: lists of one's own changed; several names at once. -/
namespace Fw
open PySem PySem.Spec PyProof.Rows L2

theorem get_list {X : Cx} : PGet X (rIxL X.K) := by
  intro pins s σ H x y v u Q I rx ry h
  obtain ⟨p, xs, i, z, rfl, rfl, hq, he, q⟩ := h
  cases rx
  obtain ⟨t, rfl⟩ := ry
  obtain ⟨its, r, pl, hz⟩ := I.list hq
  obtain ⟨j, h1, h2, h3, h4, h5⟩ := atI_get he
  obtain ⟨w, ew, rw'⟩ := r.get h2
  have hl := r.length
  have hn := line63
  have fin : EP X pins σ Q w s := ⟨z, H, I, rw', q⟩
  by_cases h0 : 0 ≤ i
  · have hj : i.toNat = j := by
      rw [seqIndex_of h0 h5] at h1
      exact Option.some.inj h1
    exact wpAny_getItem_list pl.isList h0 (by omega) (by rw [hj]; simpa using ew) fin
  · have hj : (i + (its.toArray.size : Int)).toNat = j := by
      rw [seqIndex_neg (by omega) h4] at h1
      rw [List.size_toArray, ← hl]
      exact Option.some.inj h1
    exact wpAny_getItem_list_neg pl.isList (by omega) (by rw [List.size_toArray] <;> omega) (by omega) (by rw [hj]; simpa using ew) fin

def ownAt (en : En) (i : Nat) : Option (List Dt) := match en[i]? with
  | some (.own (.l ds)) => some ds
  | _ => none
theorem ownAt_some {en : En} {i : Nat} {ds : List Dt} (h : ownAt en i = some ds) : en[i]? = some (.own (.l ds)) := by
  unfold ownAt at h
  cases e : en[i]? with
  | none => simp [e] at h
  | some s =>
    cases s with
    | own c => cases c <;> simp_all
    | _ => simp_all
theorem mut_list {K : PySem.W.Frag} {F H : Hp} {en : En} {σ : St} {i : Nat} {ds es : List Dt} {a : Addr} {ys : List V} (R : Rel K F H en σ) (hi : en[i]? = some (.own (.l ds))) (hv : σ[i]? = some (some (.ref a))) (q : Reps K F es ys) :
    Rel K F (upd H a (.lst ys)) (en.set i (.own (.l es))) σ ∧ Post F H (Own en σ) F (upd H a (.lst ys)) (Own (en.set i (.own (.l es))) σ) := mut_slot (es := .l es) R hi hv q
theorem own_addr {K : PySem.W.Frag} {F H : Hp} {en : En} {σ : St} {i : Nat} {ds : List Dt} (R : Rel K F H en σ) (h : ownAt en i = some ds) : ∃ a xs, σ[i]? = some (some (.ref a)) ∧ H a = some (.lst xs) ∧ F a = none ∧ Reps K F ds xs := by
  have e := ownAt_some h
  have hi : i < σ.length := by rw [← R.len]; exact (List.getElem?_eq_some_iff.mp e).1
  obtain ⟨a, xs, eo, h1, h2, q⟩ := R.ok i _ _ e (List.getElem?_eq_getElem hi)
  exact ⟨a, xs, by rw [List.getElem?_eq_getElem hi, eo], h1, h2, q⟩
theorem own_addr' {K : PySem.W.Frag} {F H : Hp} {en : En} {σ : St} {i : Nat} {ds : List Dt} {a : Addr} (R : Rel K F H en σ) (h : ownAt en i = some ds) (e : σ[i]? = some (some (.ref a))) : ∃ xs, H a = some (.lst xs) ∧ F a = none ∧ Reps K F ds xs := by
  obtain ⟨b, xs, e', q⟩ := own_addr R h
  rw [e] at e'; cases e'
  exact ⟨xs, q⟩

section
variable {X : Cx} {W : WX} {fx : Nat} {e a b : Expr} {m ma mb : M Res} {pos apos cpos np : Pos} {x : Str}
/-- x.append(e) -/
def eApp (i : Nat) (m : M Res) : M Res := fun en => if (ownAt en i).isSome = true then (eVal m en).bind fun d en1 => match ownAt en1 i with
  | some ds => if ds.length < sizeLine then .ok (.dat .non) (en1.set i (.own (ds ++ [d]))) else .stuck
  | none => .stuck
  else .stuck
theorem re_append (i : Nat) (he : PE X e (tE X.K X.mg W m)) (hN : X.N[i]? = some x := by rfl) (hv : Vis X.env.scope x := by first | exact Or.inl rfl | exact Or.inr (Or.inl rfl) | exact Or.inr (Or.inr rfl)) (hd : (x == ("__debug__" : Str)) = false := by decide) (hcd : (x == ("__classdict__" : Str)) = false := by decide)
    (hs : starEach [e] X.env = [(false, eval e X.env)] := by rfl) (hbase : attributeBase (.Name x np) "append" X.env (eval (.Name x np) X.env) = eval (.Name x np) X.env := by rfl) (hline : (apos.endLine == cpos.line) = true := by rfl)
    (hfew : ((backTo cpos (starEach [e] X.env)).all (fun x => !x.1) && (backToKw cpos (keywordEach [] X.env)).all (fun x => x.1.isSome) && decide (([e] : List Expr).length + ([] : List Keyword).length + (if ([] : List Keyword).isEmpty then 0 else 1) < 30)) = true := by rfl) :
    PE X (.Call (.Attribute (.Name x np) "append" apos) [e] [] cpos) (tE X.K X.mg W (eApp i m)) :=
  PE.imp (pe_bm PySem.F.plainAttrs_list PySem.F.slot_list_append PySem.F.type_list_append mt_append (pe_var (i := i) hN hv hd hcd) (pa_cons (rv_of he) pa_nil hs) hbase hfew hline (by rw [hs]; rfl)) fun σ H Q ⟨F, en, R, h⟩ => by
    unfold eApp at h
    cases z : ownAt en i with
    | none => rw [z] at h; exact h.elim
    | some ds0 =>
      rw [z] at h
      obtain ⟨p, xs0, eσ, h0, _⟩ := own_addr R z
      refine ⟨.ref p, eσ, .inl ⟨rfl, xs0, SqL.of h0⟩, F, en, R, (OutOk.ofBind h).imp fun F1 H1 en1 d _ ⟨R1, p1, q⟩ v hv => ?_⟩
      cases z1 : ownAt en1 i with
      | none => rw [z1] at q; exact q.elim
      | some ds =>
        rw [z1] at q
        dsimp only at q
        obtain ⟨xs, h1, h2, r⟩ := own_addr' R1 z1 eσ
        by_cases hz : ds.length < sizeLine
        · rw [if_pos hz] at q
          obtain ⟨R2, p2⟩ := mut_list R1 (ownAt_some z1) eσ (Reps.append r (Reps.one hv))
          exact ⟨p, xs, v, rfl, rfl, h1, by rw [← r.length]; exact hz, q _ _ R2 (p1.trans p2) _ rfl trivial⟩
        · rw [if_neg hz] at q; exact q.elim
/-- x.extend(e), e a list -/
def eExt (i : Nat) (m : M Res) : M Res := fun en => if (ownAt en i).isSome = true then (eOpd m en).bind fun r en1 => match ownAt en1 i, vw en1 r with
  | some ds, some (.lst es) => if ds.length + es.length ≤ sizeLine then .ok (.dat .non) (en1.set i (.own (ds ++ es))) else .stuck
  | _, _ => .stuck
  else .stuck
theorem re_extend (i : Nat) (he : PE X e (tE X.K X.mg W m)) (hN : X.N[i]? = some x := by rfl) (hv : Vis X.env.scope x := by first | exact Or.inl rfl | exact Or.inr (Or.inl rfl) | exact Or.inr (Or.inr rfl)) (hd : (x == ("__debug__" : Str)) = false := by decide) (hcd : (x == ("__classdict__" : Str)) = false := by decide)
    (hs : starEach [e] X.env = [(false, eval e X.env)] := by rfl) (hbase : attributeBase (.Name x np) "extend" X.env (eval (.Name x np) X.env) = eval (.Name x np) X.env := by rfl) (hline : (apos.endLine == cpos.line) = true := by rfl)
    (hfew : ((backTo cpos (starEach [e] X.env)).all (fun x => !x.1) && (backToKw cpos (keywordEach [] X.env)).all (fun x => x.1.isSome) && decide (([e] : List Expr).length + ([] : List Keyword).length + (if ([] : List Keyword).isEmpty then 0 else 1) < 30)) = true := by rfl) :
    PE X (.Call (.Attribute (.Name x np) "extend" apos) [e] [] cpos) (tE X.K X.mg W (eExt i m)) :=
  PE.imp (pe_bm PySem.F.plainAttrs_list PySem.F.slot_list_extend PySem.F.type_list_extend mt_extend (pe_var (i := i) hN hv hd hcd) (pa_cons he pa_nil hs) hbase hfew hline (by rw [hs]; rfl)) fun σ H Q ⟨F, en, R, h⟩ => by
    unfold eExt at h
    cases z : ownAt en i with
    | none => rw [z] at h; exact h.elim
    | some ds0 =>
      rw [z] at h
      obtain ⟨p, xs0, eσ, h0, _⟩ := own_addr R z
      refine ⟨.ref p, eσ, .inl ⟨rfl, xs0, SqL.of h0⟩, F, en, R, (opd h).imp fun F1 H1 en1 r0 _ q v hv fr => ?_⟩
      obtain ⟨F2, r, R2, p2, n2, hv2, q⟩ := q v hv fr
      cases z1 : ownAt en1 i with
      | none => rw [z1] at q; exact q.elim
      | some ds =>
        rw [z1] at q
        obtain ⟨xs, h1, h2, rr⟩ := own_addr' R2 z1 eσ
        cases z2 : vw en1 r with
        | none => rw [z2] at q; exact q.elim
        | some d =>
          rw [z2] at q
          have vx := hv2.vw R2 z2
          cases d with
          | lst es =>
            obtain ⟨bb, zs, ev, h3, r3⟩ := vx
            dsimp only at q
            by_cases hz : ds.length + es.length ≤ sizeLine
            · rw [if_pos hz] at q
              obtain ⟨R3, p3⟩ := mut_list R2 (ownAt_some z1) eσ (Reps.append rr r3)
              exact ⟨p, bb, xs, zs, rfl, by rw [ev], h1, h3, by rw [← rr.length, ← r3.length]; exact hz, q _ _ R3 p3 _ rfl trivial⟩
            · rw [if_neg hz] at q; exact q.elim
          | _ => exact q.elim
/-- x.pop(e) -/
def ePop (i : Nat) (m : M Res) : M Res := fun en => if (ownAt en i).isSome = true then (eOpd m en).bind fun r en1 => match ownAt en1 i, vw en1 r with
  | some ds, some (.int j) => if inB62 j then (match (ixN ds.length j) with
    | some k => (match ds[k]? with
      | some d => .ok (.dat d) (en1.set i (.own (ds.eraseIdx k)))
      | none => .stuck)
    | none => .stuck) else .stuck
  | _, _ => .stuck
  else .stuck
theorem Reps.eraseIdx {K : PySem.W.Frag} {F : Hp} : ∀ {ds : List Dt} {xs : List V} (k : Nat), Reps K F ds xs → Reps K F (ds.eraseIdx k) (xs.eraseIdx k)
  | [], xs, k, h => by have h : xs = [] := h; subst h; cases k <;> rfl
  | d :: ds, xs, 0, ⟨v, r, e, q, t⟩ => by subst e; exact t
  | d :: ds, xs, k + 1, ⟨v, r, e, q, t⟩ => by subst e; exact ⟨v, r.eraseIdx k, rfl, q, Reps.eraseIdx k t⟩
theorem re_pop (i : Nat) (he : PE X e (tE X.K X.mg W m)) (hN : X.N[i]? = some x := by rfl) (hv : Vis X.env.scope x := by first | exact Or.inl rfl | exact Or.inr (Or.inl rfl) | exact Or.inr (Or.inr rfl)) (hd : (x == ("__debug__" : Str)) = false := by decide) (hcd : (x == ("__classdict__" : Str)) = false := by decide)
    (hs : starEach [e] X.env = [(false, eval e X.env)] := by rfl) (hbase : attributeBase (.Name x np) "pop" X.env (eval (.Name x np) X.env) = eval (.Name x np) X.env := by rfl) (hline : (apos.endLine == cpos.line) = true := by rfl)
    (hfew : ((backTo cpos (starEach [e] X.env)).all (fun x => !x.1) && (backToKw cpos (keywordEach [] X.env)).all (fun x => x.1.isSome) && decide (([e] : List Expr).length + ([] : List Keyword).length + (if ([] : List Keyword).isEmpty then 0 else 1) < 30)) = true := by rfl) :
    PE X (.Call (.Attribute (.Name x np) "pop" apos) [e] [] cpos) (tE X.K X.mg W (ePop i m)) :=
  PE.imp (pe_bm PySem.F.plainAttrs_list PySem.F.slot_list_pop PySem.F.type_list_pop mt_popAt (pe_var (i := i) hN hv hd hcd) (pa_cons he pa_nil hs) hbase hfew hline (by rw [hs]; rfl)) fun σ H Q ⟨F, en, R, h⟩ => by
    unfold ePop at h
    cases z : ownAt en i with
    | none => rw [z] at h; exact h.elim
    | some ds0 =>
      rw [z] at h
      obtain ⟨p, xs0, eσ, h0, _⟩ := own_addr R z
      refine ⟨.ref p, eσ, .inl ⟨rfl, xs0, SqL.of h0⟩, F, en, R, (opd h).imp fun F1 H1 en1 r0 _ q v hv fr => ?_⟩
      obtain ⟨F2, r, R2, p2, n2, hv2, q⟩ := q v hv fr
      cases z1 : ownAt en1 i with
      | none => rw [z1] at q; exact q.elim
      | some ds =>
        rw [z1] at q
        obtain ⟨xs, h1, h2, rr⟩ := own_addr' R2 z1 eσ
        cases z2 : vw en1 r with
        | none => rw [z2] at q; exact q.elim
        | some d =>
          rw [z2] at q
          have vx := hv2.vw R2 z2
          cases d with
          | int j =>
            have vx : v = .int j := vx
            dsimp only at q
            by_cases hz : inB62 j
            · rw [if_pos hz] at q
              cases z3 : ixN ds.length j with
              | none => rw [z3] at q; exact q.elim
              | some k =>
                rw [z3] at q
                dsimp only at q
                cases z4 : ds[k]? with
                | none => rw [z4] at q; exact q.elim
                | some d =>
                  rw [z4] at q
                  dsimp only at q
                  obtain ⟨w, ew, rw'⟩ := rr.get z4
                  obtain ⟨R3, p3⟩ := mut_list R2 (ownAt_some z1) eσ (Reps.eraseIdx k rr)
                  obtain ⟨g1, _⟩ := ixN_seq z3
                  have hb := hz.1
                  have hb2 := hz.2
                  exact ⟨p, xs, j, k, w, rfl, by rw [vx], h1, by omega, by omega, by rw [← rr.length]; exact g1, ew, q _ _ R3 p3 w rw' trivial⟩
            · rw [if_neg hz] at q; exact q.elim
          | _ => exact q.elim
/-- x[e] = v -/
def sSetIx (i : Nat) (mi mv : M Res) : MS := fun en => (eVal mv en).then fun d en1 => if (ownAt en1 i).isSome = true then (eOpd mi en1).then fun r en2 => match ownAt en2 i, vw en2 r with
  | some ds, some (.int j) => (match (ixN ds.length j) with
    | some k => .nx (en2.set i (.own (ds.set k d)))
    | none => .stuck)
  | _, _ => .stuck
  else .stuck
theorem opdS {K : PySem.W.Frag} {mg : Str → Option Value} {F H : Hp} {en : En} {σ : St} {D : Ends} {k : Res → En → OutS} (h : SOk K mg W fx F H en σ D ((eOpd m en).then k)) :
    OutOk K mg W F H en σ (m en) fun F1 H1 en1 r0 => ∀ v, ResOk K F1 H1 en1 σ v r0 → Fresh H v r0 →
      ∃ F2 r, Rel K F2 H1 en1 σ ∧ Post F H (Own en σ) F2 H1 (Own en1 σ) ∧ (∀ ds, r ≠ .new ds) ∧ ResOk K F2 H1 en1 σ v r ∧ SOk K mg W fx F2 H1 en1 σ D (k r en1) :=
  (OutOk.ofBind h.ofThen).imp fun F1 H1 en1 r0 _ ⟨R1, p1, hp⟩ v hv fr => by
    obtain ⟨F2, r, R2, p2, n, hv2, _, _, q⟩ := toO_ok p1 R1 hv fr hp
    exact ⟨F2, r, R2, p2, n, hv2, q.bind p2 rfl⟩
theorem valdS {K : PySem.W.Frag} {mg : Str → Option Value} {F H : Hp} {en : En} {σ : St} {D : Ends} {k : Dt → En → OutS} (h : SOk K mg W fx F H en σ D ((eVal m en).then k)) :
    OutOk K mg W F H en σ (m en) fun F1 H1 en1 r0 => ∀ v, ResOk K F1 H1 en1 σ v r0 → Fresh H v r0 →
      ∃ F2 en2 d, Rel K F2 H1 en2 σ ∧ Post F H (Own en σ) F2 H1 (Own en2 σ) ∧ Rep K F2 d v ∧ SOk K mg W fx F2 H1 en2 σ D (k d en2) :=
  (OutOk.ofBind h.ofThen).imp fun F1 H1 en1 r0 _ ⟨R1, p1, hp⟩ v hv fr => by
    obtain ⟨F2, en2, d, R2, p2, hv2, _, _, q⟩ := toV_ok p1 R1 hv fr hp
    exact ⟨F2, en2, d, R2, p2, hv2, q.bind p2 rfl⟩
theorem ixN_lt {n k : Nat} {i : Int} (h : ixN n i = some k) : k < n := (ixN_seq h).2.1
theorem rs_setIx (i : Nat) {ie : Expr} {mi mv : M Res} {spos tpos : Pos} (he : PE X e (tE X.K X.mg W mv)) (hi : PE X ie (tE X.K X.mg W mi)) (hN : X.N[i]? = some x := by rfl) (hv : Vis X.env.scope x := by first | exact Or.inl rfl | exact Or.inr (Or.inl rfl) | exact Or.inr (Or.inr rfl)) (hd : (x == ("__debug__" : Str)) = false := by decide) (hcd : (x == ("__classdict__" : Str)) = false := by decide)
    (ha : ∀ v, assign (.Subscript (.Name x np) ie tpos) X.env v = (do
      let ov ← holding [v] (eval (.Name x np) X.env)
      let iv ← holding [v, ov] (eval ie X.env)
      standAt tpos
      holding [v, ov, iv] (setItem ov iv v)
      release [v, ov, iv] []) := by exact fun _ => rfl)
    (hs : swapsWithSole [.Subscript (.Name x np) ie tpos] e spos.line X.env = pure false := by rfl) (hw : swappedStores [.Subscript (.Name x np) ie tpos] e X.env = pure none := by rfl) (h1 : (assignEach [.Subscript (.Name x np) ie tpos] X.env).map (·.2) = [assign (.Subscript (.Name x np) ie tpos) X.env] := by rfl) :
    PS X (.Assign [.Subscript (.Name x np) ie tpos] e spos) (tS X.K X.mg W fx (sSetIx i mi mv)) :=
  PS.imp (ps_asg he (pg_sub (pe_var (i := i) hN hv hd hcd) hi set_list ha) hs hw h1) fun D σ H ⟨F, en, R, h⟩ => ⟨F, en, R, (valdS h).imp fun F1 H1 en1 r0 _ q v hv fr => by
    obtain ⟨F2, en2, d, R2, p2, hv2, q⟩ := q v hv fr
    cases z : ownAt en2 i with
    | none => rw [z] at q; exact q.elim
    | some ds0 =>
      rw [z] at q
      obtain ⟨p, xs0, eσ, h0, _⟩ := own_addr R2 z
      refine ⟨.ref p, eσ, F2, en2, R2, (opdS q).imp fun F3 H3 en3 r3 _ q w hw fw => ?_⟩
      obtain ⟨F4, r, R4, p4, n4, hw4, q⟩ := q w hw fw
      cases z1 : ownAt en3 i with
      | none => rw [z1] at q; exact q.elim
      | some ds =>
        rw [z1] at q
        obtain ⟨xs, g1, g2, rr⟩ := own_addr' R4 z1 eσ
        cases z2 : vw en3 r with
        | none => rw [z2] at q; exact q.elim
        | some dd =>
          rw [z2] at q
          have vx := hw4.vw R4 z2
          cases dd with
          | int j =>
            have vx : w = .int j := vx
            dsimp only at q
            cases z3 : ixN ds.length j with
            | none => rw [z3] at q; exact q.elim
            | some k =>
              rw [z3] at q
              dsimp only at q
              obtain ⟨R5, p5⟩ := mut_list R4 (ownAt_some z1) eσ (Reps.set k (Rep.mono p4.sub _ _ hv2) rr)
              exact ⟨p, xs, j, k, rfl, vx, g1, by rw [← rr.length]; exact z3, q σ _ _ R5 p5 rfl⟩
          | _ => exact q.elim⟩
/-- ints -/
def fI2 (f : Int → Int → Int) : Dt → Dt → Option Dt := fun a b => match a, b with
  | .int i, .int j => some (.int (f i j))
  | _, _ => none
def PIpI (X : Cx) (op : Operator) (f : Int → Int → Int) : Prop := PIp X op (ipI f)
/-- x[e] op= v, ints -/
def sAugIx (f : Int → Int → Int) (i : Nat) (mi mv : M Res) : MS := fun en => if (ownAt en i).isSome = true then (eOpd mi en).then fun r en1 => match ownAt en1 i, vw en1 r with
  | some ds, some (.int j) => (match (ixN ds.length j) with
    | some k => (match ds[k]? with
      | some (.int old) => (eOpd mv en1).then fun r2 en2 => (match vw en2 r2, ownAt en2 i with
        | some (.int y), some es => (match ixN es.length j with
          | some k2 => .nx (en2.set i (.own (es.set k2 (.int (f old y)))))
          | none => .stuck)
        | _, _ => .stuck)
      | _ => .stuck)
    | none => .stuck)
  | _, _ => .stuck
  else .stuck
theorem atI_of {α : Type} {xs : List α} {i : Int} {k : Nat} {v : α} (h : ixN xs.length i = some k) (e : xs[k]? = some v) : atI xs i = some v := by
  unfold atI; rw [h]; exact e
theorem rs_augIx (i : Nat) {op : Operator} {f : Int → Int → Int} (ho : PIp X op (ipI f)) {ie : Expr} {mi mv : M Res} {spos tpos : Pos} (hi : PE X ie (tE X.K X.mg W mi)) (he : PE X e (tE X.K X.mg W mv)) (hN : X.N[i]? = some x := by rfl) (hv : Vis X.env.scope x := by first | exact Or.inl rfl | exact Or.inr (Or.inl rfl) | exact Or.inr (Or.inr rfl)) (hd : (x == ("__debug__" : Str)) = false := by decide) (hcd : (x == ("__classdict__" : Str)) = false := by decide)
    (ha : ∀ ov iv new, augStore ie ov iv new = (do holding [new, ov, iv] (setItem ov iv new); release [new, ov, iv] []; pure .next) := by intros; rfl) :
    PS X (.AugAssign (.Subscript (.Name x np) ie tpos) op e spos) (tS X.K X.mg W fx (sAugIx f i mi mv)) :=
  PS.imp (ps_augS (pe_var (i := i) hN hv hd hcd) hi get_list he ho set_list ha) fun D σ H ⟨F, en, R, h⟩ => by
    unfold sAugIx at h
    cases z : ownAt en i with
    | none => rw [z] at h; exact h.elim
    | some ds0 =>
      rw [z] at h
      obtain ⟨p, xs0, eσ, h0, _⟩ := own_addr R z
      refine ⟨.ref p, eσ, F, en, R, (opdS h).imp fun F1 H1 en1 r0 _ q w hw fw => ?_⟩
      obtain ⟨F2, r, R2, p2, n2, hw2, q⟩ := q w hw fw
      cases z1 : ownAt en1 i with
      | none => rw [z1] at q; exact q.elim
      | some ds =>
        rw [z1] at q
        obtain ⟨xs, g1, g2, rr⟩ := own_addr' R2 z1 eσ
        cases z2 : vw en1 r with
        | none => rw [z2] at q; exact q.elim
        | some dd =>
          rw [z2] at q
          have vx := hw2.vw R2 z2
          cases dd with
          | int j =>
            have vx : w = .int j := vx
            dsimp only at q
            cases z3 : ixN ds.length j with
            | none => rw [z3] at q; exact q.elim
            | some k =>
              rw [z3] at q
              dsimp only at q
              cases z4 : ds[k]? with
              | none => rw [z4] at q; exact q.elim
              | some d =>
                rw [z4] at q
                cases d with
                | int old =>
                  dsimp only at q
                  obtain ⟨ov, eo, ro⟩ := rr.get z4
                  have ro : ov = .int old := ro
                  refine ⟨p, xs, j, ov, rfl, vx, SqL.of g1, atI_of (by rw [← rr.length]; exact z3) eo, F2, en1, R2, (opdS q).imp fun F3 H3 en3 r3 _ q y hy fy => ?_⟩
                  obtain ⟨F4, r4, R4, p4, n4, hy4, q⟩ := q y hy fy
                  cases z5 : vw en3 r4 with
                  | none => rw [z5] at q; exact q.elim
                  | some dy =>
                    rw [z5] at q
                    have vy := hy4.vw R4 z5
                    cases dy with
                    | int yi =>
                      have vy : y = .int yi := vy
                      cases z6 : ownAt en3 i with
                      | none => rw [z6] at q; exact q.elim
                      | some es =>
                        rw [z6] at q
                        dsimp only at q
                        obtain ⟨ys, k1, k2, ry⟩ := own_addr' R4 z6 eσ
                        cases z7 : ixN es.length j with
                        | none => rw [z7] at q; exact q.elim
                        | some kk =>
                          rw [z7] at q
                          dsimp only at q
                          obtain ⟨R5, p5⟩ := mut_list R4 (ownAt_some z6) eσ (Reps.set kk (show Rep X.K F4 (.int (f old yi)) (.int (f old yi)) from rfl) ry)
                          exact ⟨old, yi, ro, vy, p, ys, j, kk, rfl, vx, k1, by rw [← ry.length]; exact z7, q σ _ _ R5 p5 rfl⟩
                    | _ => exact q.elim
                | _ => exact q.elim
          | _ => exact q.elim
/-- x op= e, ints -/
def sAug (f : Int → Int → Int) (i : Nat) (m : M Res) : MS := fun en => match en[i]? with
  | some (.val (.int old)) => (eOpd m en).then fun r en1 => (match vw en1 r with
    | some (.int y) => .nx (en1.set i (.val (.int (f old y))))
    | _ => .stuck)
  | _ => .stuck
theorem rs_aug (i : Nat) {op : Operator} {f : Int → Int → Int} (hf : fx ≤ i) (ho : PIp X op (ipI f)) (hN : X.N.Nodup) (he : PE X e (tE X.K X.mg W m)) (hi : X.N[i]? = some x := by rfl) (hx : Loc X.env.scope x := by first | exact Or.inl rfl | exact Or.inr rfl) (hfn : X.fn x = true ∨ X.env.scope.names.lookup x = some .local := by first | exact .inl rfl | exact .inr rfl) :
    PS X (.AugAssign (.Name x np) op e pos) (tS X.K X.mg W fx (sAug f i m)) :=
  PS.imp (ps_aug hN hi hx he ho hfn) fun D σ H ⟨F, en, R, h⟩ => by
    unfold sAug at h
    cases z : en[i]? with
    | none => rw [z] at h; exact h.elim
    | some s =>
      cases s with
      | val d =>
        cases d with
        | int old =>
          rw [z] at h
          dsimp only at h
          have hi' : i < σ.length := by rw [← R.len]; exact (List.getElem?_eq_some_iff.mp z).1
          obtain ⟨v, ev, rv⟩ := R.ok i _ _ z (List.getElem?_eq_getElem hi')
          refine ⟨v, by rw [List.getElem?_eq_getElem hi', ev], F, en, R, (opdS h).imp fun F1 H1 en1 r0 _ q w hw fw => ?_⟩
          obtain ⟨F2, r, R2, p2, n2, hw2, q⟩ := q w hw fw
          cases z2 : vw en1 r with
          | none => rw [z2] at q; exact q.elim
          | some dd =>
            rw [z2] at q
            have vx := hw2.vw R2 z2
            cases dd with
            | int y =>
              have vx : w = .int y := vx
              obtain ⟨R3, p3⟩ := store_val (i := i) (d := .int (f old y)) (v := .int (f old y)) R2 rfl
              exact ⟨old, y, rv, vx, q _ _ _ R3 p3 (take_set hf)⟩
            | _ => exact q.elim
        | _ => rw [z] at h; exact h.elim
      | _ => rw [z] at h; exact h.elim
/-- list(script) -/
def eScr (i : Nat) : M Res := fun en => match en[i]? with
  | some (.scr ns) => .ok (.new (.l (ns.map .int))) en
  | _ => .stuck
theorem re_scr (i : Nat) {p : Pos} (hm : X.mg "list" = none) (hN : X.N[i]? = some x := by rfl) (hv : Vis X.env.scope x := by first | exact Or.inl rfl | exact Or.inr (Or.inl rfl) | exact Or.inr (Or.inr rfl)) (hd : (x == ("__debug__" : Str)) = false := by decide) (hcd : (x == ("__classdict__" : Str)) = false := by decide) (hg : Gl X "list" := by rfl) :
    PE X (.Call (.Name "list" p) [.Name x np] [] pos) (tE X.K X.mg W (eScr i)) :=
  PE.imp (pe_callTy call_list_of hg hm PyProof.Rows.boot_list (pa_cons (pe_var (i := i) hN hv hd hcd) pa_nil)) fun σ H Q ⟨F, en, R, h⟩ => by
    unfold eScr at h
    cases z : en[i]? with
    | none => rw [z] at h; exact h.elim
    | some s =>
      cases s with
      | scr ns =>
        rw [z] at h
        have hi' : i < σ.length := by rw [← R.len]; exact (List.getElem?_eq_some_iff.mp z).1
        obtain ⟨a, ea, q⟩ := R.ok i _ _ z (List.getElem?_eq_getElem hi')
        refine ⟨.ref a, by rw [List.getElem?_eq_getElem hi', ea], a, ns.map V.int, rfl, .inl (R.sub.seq q), fun l hl => ?_⟩
        have g : Grow F H F (upd H l (.lst (ns.map V.int))) := grow_own R.sub hl
        refine h _ _ (R.grow g) g.post _ ⟨l, _, rfl, upd_same, R.sub.free hl, fun y => ?_, Reps.ints ns⟩ fun b eb => by cases eb; exact hl
        obtain ⟨_, t, _⟩ := R.own_there y
        rw [hl] at t; cases t
      | _ => rw [z] at h; exact h.elim
/-- target = value, the target of any form -/
def sAsg (m : M Res) (g : Dt → En → Option En) : MS := fun en => (eVal m en).then fun d en1 => match g d en1 with
  | some en2 => .nx en2
  | none => .stuck
theorem rs_asg {tg : Expr} {g : Dt → En → Option En} (he : PE X e (tE X.K X.mg W m)) (hg : PG X tg (tG X.K (List.take fx) g)) (hs : swapsWithSole [tg] e pos.line X.env = pure false := by rfl) (hw : swappedStores [tg] e X.env = pure none := by rfl)
    (h1 : (assignEach [tg] X.env).map (·.2) = [assign tg X.env] := by rfl) : PS X (.Assign [tg] e pos) (tS X.K X.mg W fx (sAsg m g)) :=
  PS.imp (ps_asg he hg hs hw h1) fun D σ H ⟨F, en, R, h⟩ => ⟨F, en, R, (valdS h).imp fun F1 H1 en1 r0 _ q v hv fr => by
    obtain ⟨F2, en2, d, R2, p2, hv2, q⟩ := q v hv fr
    cases z : g d en2 with
    | none => rw [z] at q; exact q.elim
    | some en3 =>
      rw [z] at q
      exact ⟨F2, en2, d, R2, hv2, en3, z, fun σ3 R3 p3 t3 => q σ3 F2 H1 R3 p3 t3⟩⟩
end
end Fw

/-! Fw9: built-in operators and functions upon data. -/
namespace Fw
open PySem PySem.Spec PyProof.Rows L2

section
variable {X : Cx} {W : WX}
theorem Grow.refl' {F H : Hp} (s : Same F H) : Grow F H F H := Grow.refl s

/-! ### + - * // % -/
def fAdd : Dt → Dt → Option Res
  | .int a, .int b => some (.dat (.int (a + b)))
  | .str x, .str y => if x.length + y.length ≤ sizeLine then some (.dat (.str (x ++ y))) else none
  | .lst xs, .lst ys => if xs.length + ys.length ≤ sizeLine then some (.new (xs ++ ys)) else none
  | .tup xs, .tup ys => if xs.length + ys.length ≤ sizeLine ∧ xs.isEmpty = false then some (.dat (.tup (xs ++ ys))) else none
  | _, _ => none
theorem prim_add : Prim2 X (binaryOp .Add) fAdd := by
  refine ⟨_, op_add.or (op_add_str.or (op_cat.or op_catT)), fun F H a b x y c Q s hx hy e q => ?_⟩
  cases a with
  | exo _ _ => cases e
  | dic _ _ => cases e
  | int i =>
    cases b with
    | int j =>
      cases e
      have hx : x = .int i := hx
      have hy : y = .int j := hy
      exact .inl ⟨i, j, hx, hy, q F H _ (Grow.refl s) rfl⟩
    | _ => cases e
  | str u =>
    cases b with
    | str v =>
      have hx : x = .str (st u) := hx
      have hy : y = .str (st v) := hy
      unfold fAdd at e
      by_cases hz : u.length + v.length ≤ sizeLine
      · simp only [if_pos hz] at e
        cases e
        refine .inr (.inl ⟨_, _, hx, hy, by rw [st_len, st_len]; exact hz, ?_⟩)
        rw [st_append]
        exact q F H _ (Grow.refl s) rfl
      · simp only [if_neg hz] at e; cases e
    | _ => cases e
  | lst us =>
    cases b with
    | lst ws =>
      obtain ⟨l, xs, ex, h1, r1⟩ := hx
      obtain ⟨m, ys, ey, h2, r2⟩ := hy
      unfold fAdd at e
      by_cases hz : us.length + ws.length ≤ sizeLine
      · simp only [if_pos hz] at e
        cases e
        refine .inr (.inr (.inl ⟨l, m, xs, ys, ex, ey, h1, h2, by rw [← r1.length, ← r2.length]; exact hz, fun p np => ?_⟩))
        exact q F _ _ (grow_own s np) ⟨p, _, rfl, np, upd_same, s.free np, Reps.append r1 r2⟩
      · simp only [if_neg hz] at e; cases e
    | _ => cases e
  | tup us =>
    cases b with
    | tup ws =>
      obtain ⟨l, xs, ex, h1, r1⟩ := hx
      obtain ⟨m, ys, ey, h2, r2⟩ := hy
      unfold fAdd at e
      by_cases hz : us.length + ws.length ≤ sizeLine ∧ us.isEmpty = false
      · simp only [if_pos hz] at e
        cases e
        have l1 := r1.length
        have l2 := r2.length
        refine .inr (.inr (.inr ⟨l, m, xs, ys, ex, ey, Same.seqT s h1, Same.seqT s h2, fun z => ?_, by rw [← l1, ← l2]; exact hz.1, fun z => ?_, fun z p np => ?_⟩))
        · subst z; cases us <;> simp_all
        · subst z
          have : ws = [] := by cases ws <;> simp_all
          subst this
          rw [List.append_nil] at q
          exact q F H _ (Grow.refl s) ⟨l, xs, rfl, h1, r1⟩
        · have g : Grow F H (upd F p (.tup (xs ++ ys))) (upd H p (.tup (xs ++ ys))) := grow_frz s np
          exact q _ _ _ g ⟨p, _, rfl, .inl (.inl upd_same), Reps.mono g.sub _ _ (Reps.append r1 r2)⟩
      · simp only [if_neg hz] at e; cases e
    | _ => cases e
  | non => cases e
  | bl _ => cases e
def fSub : Dt → Dt → Option Res
  | .int a, .int b => some (.dat (.int (a - b)))
  | _, _ => none
theorem prim_int2 {op : Value → Value → Sem Value} {C : Int → Int → Prop} {g : Int → Int → Int} {f : Dt → Dt → Option Res} (ho : OpR X op (rI C fun i j => .int (g i j)))
    (hf : ∀ a b c, f a b = some c → ∃ i j, a = .int i ∧ b = .int j ∧ C i j ∧ c = .dat (.int (g i j))) : Prim2 X op f :=
  ⟨_, ho, fun F H a b x y c Q s hx hy e q => by
    obtain ⟨i, j, rfl, rfl, hc, rfl⟩ := hf a b c e
    exact ⟨i, j, hx, hy, hc, q F H _ (Grow.refl s) rfl⟩⟩
theorem opI0C {f : Value → Value → Sem Value} {g : Int → Int → V} (h : OpR X f (rI0 g)) : OpR X f (rI (fun _ _ => True) g) := fun pins s σ H x y v u Q I rx ry ⟨i, j, e1, e2, _, q⟩ => h pins s σ H x y v u Q I rx ry ⟨i, j, e1, e2, q⟩
theorem prim_sub : Prim2 X (binaryOp .Sub) fSub := prim_int2 (opI0C op_sub) fun a b c e => by
  cases a with
  | int i => cases b with
    | int j => cases e; exact ⟨i, j, rfl, rfl, trivial, rfl⟩
    | _ => cases e
  | _ => cases e
def mulOk (i j : Int) : Prop := i.natAbs < 18446744073709551616 ∨ j.natAbs < 18446744073709551616 ∨ CMulW i j
instance (i j : Int) : Decidable (mulOk i j) := by unfold mulOk CMulW; infer_instance
theorem mulOk.fits {i j : Int} (h : mulOk i j) : IntMulOk i j := by
  rcases h with h | h | h
  · exact CMul.ok (.inl (by omega))
  · exact CMul.ok (.inr (by omega))
  · exact h.ok
def fMul : Dt → Dt → Option Res
  | .int a, .int b => if mulOk a b then some (.dat (.int (a * b))) else none
  | .lst xs, .int k => if inB62 k ∧ xs.length * k.toNat ≤ sizeLine then some (.new (List.replicate k.toNat xs).flatten) else none
  | _, _ => none
theorem Reps.rep {K : PySem.W.Frag} {F : Hp} {ds : List Dt} {xs : List V} (h : Reps K F ds xs) : ∀ k : Nat, Reps K F (List.replicate k ds).flatten (List.replicate k xs).flatten
  | 0 => rfl
  | k + 1 => by
    rw [List.replicate_succ, List.replicate_succ, List.flatten_cons, List.flatten_cons]
    exact Reps.append h (Reps.rep h k)
theorem prim_mul : Prim2 X (binaryOp .Mult) fMul := by
  have o1 : OpR X (binaryOp .Mult) (rI mulOk fun i j => .int (i * j)) := opI fun _ _ _ _ _ _ _ hc q => mul_int q hc.fits
  refine ⟨_, o1.or op_rep, fun F H a b x y c Q s hx hy e q => ?_⟩
  cases a with
  | int i =>
    cases b with
    | int j =>
      unfold fMul at e
      by_cases hz : mulOk i j
      · simp only [if_pos hz] at e
        cases e
        exact .inl ⟨i, j, hx, hy, hz, q F H _ (Grow.refl s) rfl⟩
      · simp only [if_neg hz] at e; cases e
    | _ => cases e
  | lst us =>
    cases b with
    | int k =>
      obtain ⟨l, xs, ex, h1, r1⟩ := hx
      have hy : y = .int k := hy
      unfold fMul at e
      by_cases hz : inB62 k ∧ us.length * k.toNat ≤ sizeLine
      · simp only [if_pos hz] at e
        cases e
        have b1 := hz.1.1
        have b2 := hz.1.2
        refine .inr ⟨l, k, xs, ex, hy, h1, by omega, by omega, by rw [← r1.length]; exact hz.2, fun p np => ?_⟩
        exact q F _ _ (grow_own s np) ⟨p, _, rfl, np, upd_same, s.free np, Reps.rep r1 _⟩
      · simp only [if_neg hz] at e; cases e
    | _ => cases e
  | _ => cases e
def fMod : Dt → Dt → Option Res
  | .int a, .int b => if 0 < b then some (.dat (.int (a % b))) else none
  | _, _ => none
theorem prim_mod : Prim2 X (binaryOp .Mod) fMod := prim_int2 op_mod fun a b c e => by
  cases a with
  | int i => cases b with
    | int j =>
      unfold fMod at e
      by_cases hz : (0 : Int) < j
      · simp only [if_pos hz] at e; cases e; exact ⟨i, j, rfl, rfl, hz, rfl⟩
      · simp only [if_neg hz] at e; cases e
    | _ => cases e
  | _ => cases e
def divOk (j : Int) : Prop := CDivN j j ∨ CDivW j j
instance (j : Int) : Decidable (divOk j) := by unfold divOk CDivN CDivW; infer_instance
/-- // by a small one of any sign, or a great one above 0 -/
def fDiv : Dt → Dt → Option Res
  | .int a, .int b => if divOk b then some (.dat (.int (a.fdiv b))) else none
  | _, _ => none
theorem prim_div : Prim2 X (binaryOp .FloorDiv) fDiv := by
  have o1 : OpR X (binaryOp .FloorDiv) (rI (fun _ j => divOk j) fun i j => .int (i.fdiv j)) := opI fun i j _ _ _ _ _ hc q => by
    rcases hc with hc | hc
    · exact floordiv_int hc.1 q (.inl (PyProof.noPylong_small hc.2))
    · have h1 : (0 : Int) < j := hc.1
      exact floordiv_int (by omega) q (.inl (PyProof.noPylong_of_log2 hc.2))
  exact prim_int2 o1 fun a b c e => by
    cases a with
    | int i => cases b with
      | int j =>
        unfold fDiv at e
        by_cases hz : divOk j
        · simp only [if_pos hz] at e; cases e; exact ⟨i, j, rfl, rfl, hz, rfl⟩
        · simp only [if_neg hz] at e; cases e
      | _ => cases e
    | _ => cases e
/-- i ** j of small ones -/
def fPow : Dt → Dt → Option Res
  | .int a, .int b => if 0 ≤ b ∧ b ≤ 1000000 ∧ a.natAbs < 18446744073709551616 then some (.dat (.int (a ^ b.toNat))) else none
  | _, _ => none
theorem prim_pow : Prim2 X (binaryOp .Pow) fPow := prim_int2 op_pow fun a b c e => by
  cases a with
  | int i => cases b with
    | int j =>
      unfold fPow at e
      by_cases hz : 0 ≤ j ∧ j ≤ 1000000 ∧ i.natAbs < 18446744073709551616
      · simp only [if_pos hz] at e; cases e; exact ⟨i, j, rfl, rfl, ⟨hz.1, hz.2.1, hz.2.2⟩, rfl⟩
      · simp only [if_neg hz] at e; cases e
    | _ => cases e
  | _ => cases e
def fNeg : Dt → Option Res
  | .int a => some (.dat (.int (-a)))
  | _ => none
theorem prim_neg : Prim1 X (unaryOp .USub) fNeg := ⟨_, un_neg, fun F H a x c Q s hx e q => by
  cases a with
  | int i => cases e; exact ⟨i, hx, q F H _ (Grow.refl s) rfl⟩
  | _ => cases e⟩

/-! ### comparisons -/
mutual
def py : Dt → PyData
  | .non => .none
  | .bl b => .bool b
  | .int i => .int i
  | .str x => .str (st x)
  | .tup ds => .tuple (pys ds)
  | .lst ds => .list (pys ds)
  | .exo _ _ => .none
  | .dic _ _ => .none
def pys : List Dt → List PyData
  | [] => []
  | d :: ds => py d :: pys ds
end
mutual
/-- no exception in it -/
def dpl : Dt → Bool
  | .tup ds => dpls ds
  | .lst ds => dpls ds
  | .exo _ _ => false
  | .dic _ _ => false
  | _ => true
def dpls : List Dt → Bool
  | [] => true
  | d :: ds => dpl d && dpls ds
end
def isX : Dt → Bool
  | .exo _ _ => true
  | .dic _ _ => true
  | _ => false
mutual
theorem rep_dp {K : PySem.W.Frag} {F H : Hp} (s : Same F H) : ∀ (d : Dt) (v : V), dpl d = true → Rep K F d v → Dp K H v (py d)
  | .non, v, _, h => by cases (show v = .non from h); exact .non
  | .bl b, v, _, h => by cases (show v = .bl b from h); exact .bl b
  | .int i, v, _, h => by cases (show v = .int i from h); exact .int i
  | .str x, v, _, h => by cases (show v = .str (st x) from h); exact .str _
  | .tup ds, v, hd, ⟨a, xs, e, q, r⟩ => by subst e; exact .tup (Same.seqT s q) (reps_dp s ds xs hd r)
  | .lst ds, v, hd, ⟨a, xs, e, q, r⟩ => by subst e; exact .lst (SqL.of (s _ _ q)) (reps_dp s ds xs hd r)
  | .exo _ _, v, hd, _ => by cases hd
  | .dic _ _, v, hd, _ => by cases hd
theorem reps_dp {K : PySem.W.Frag} {F H : Hp} (s : Same F H) : ∀ (ds : List Dt) (xs : List V), dpls ds = true → Reps K F ds xs → DpAll K H xs (pys ds)
  | [], xs, _, h => by cases (show xs = [] from h); exact .nil
  | d :: ds, xs, hd, ⟨v, r, e, q, t⟩ => by subst e; exact .cons (rep_dp s d v (Bool.and_eq_true_iff.mp hd).1 q) (reps_dp s ds r (Bool.and_eq_true_iff.mp hd).2 t)
end
theorem vw_dp {K : PySem.W.Frag} {F H : Hp} (s : Same F H) {d : Dt} {v : V} (hd : dpl d = true) (h : Vw K F H d v) : Dp K H v (py d) := by
  cases d with
  | lst ds => obtain ⟨a, xs, e, q, r⟩ := h; subst e; exact .lst (SqL.of q) (reps_dp s ds xs hd r)
  | non => exact rep_dp s _ _ rfl h
  | bl _ => exact rep_dp s _ _ rfl h
  | int _ => exact rep_dp s _ _ rfl h
  | str _ => exact rep_dp s _ _ rfl h
  | tup _ => exact rep_dp s _ _ hd h
  | exo _ _ => cases hd
  | dic _ _ => cases hd
def shp (a b : Dt) : Bool := (dpl a && dpl b) && (SeqAt.shaped (py a) && SeqAt.shaped (py b))
def fEq (a b : Dt) : Option Res := if shp a b = true then some (.dat (.bl (PyData.eqv (py a) (py b)))) else none
def fNe (a b : Dt) : Option Res := if shp a b = true then some (.dat (.bl (!PyData.eqv (py a) (py b)))) else none
theorem prim_eq {k : Nat} (hr : Room k X.A) : Prim2 X (compareOp .Eq) fEq := ⟨_, op_eqD hr.units, fun F H a b x y c Q s hx hy e q => by
  unfold fEq at e
  by_cases hz : shp a b = true
  · rw [if_pos hz] at e; cases e
    obtain ⟨hd, hz⟩ := Bool.and_eq_true_iff.mp hz
    have hz := Bool.and_eq_true_iff.mp hz
    have hd := Bool.and_eq_true_iff.mp hd
    exact ⟨_, _, vw_dp s hd.1 hx, vw_dp s hd.2 hy, hz.1, hz.2, q F H _ (Grow.refl s) rfl⟩
  · rw [if_neg hz] at e; cases e⟩
theorem prim_ne {k : Nat} (hr : Room k X.A) : Prim2 X (compareOp .NotEq) fNe := ⟨_, op_neD hr.units, fun F H a b x y c Q s hx hy e q => by
  unfold fNe at e
  by_cases hz : shp a b = true
  · rw [if_pos hz] at e; cases e
    obtain ⟨hd, hz⟩ := Bool.and_eq_true_iff.mp hz
    have hz := Bool.and_eq_true_iff.mp hz
    have hd := Bool.and_eq_true_iff.mp hd
    exact ⟨_, _, vw_dp s hd.1 hx, vw_dp s hd.2 hy, hz.1, hz.2, q F H _ (Grow.refl s) rfl⟩
  · rw [if_neg hz] at e; cases e⟩
def isNon : Dt → Bool
  | .non => true
  | _ => false
def fCmpI (p : Int → Int → Bool) (g : PyData → PyData → Bool) : Dt → Dt → Option Res
  | .int a, .int b => some (.dat (.bl (p a b)))
  | a, b => if ((dpl a && dpl b) && (PySem.W.alike (py a) (py b) && (!isNon a && decide ((py a).depth ≤ 60)))) = true then some (.dat (.bl (g (py a) (py b)))) else none
theorem py_non {d : Dt} (hd : dpl d = true) (h : isNon d = false) : py d ≠ .none := by
  cases d with
  | non => cases h
  | exo _ _ => cases hd
  | dic _ _ => cases hd
  | _ => exact fun z => nomatch z
def rCmpD (K : PySem.W.Frag) (p : Int → Int → Bool) (g : PyData → PyData → Bool) : R2 := fun x y H Q => (∃ i j, x = .int i ∧ y = .int j ∧ Q (.bl (p i j)) H) ∨
  ∃ d e, Dp K H x d ∧ Dp K H y e ∧ PySem.W.alike d e = true ∧ d ≠ .none ∧ d.depth ≤ 60 ∧ Q (.bl (g d e)) H
theorem op_cmpD {op : Value → Value → Sem Value} {p : Int → Int → Bool} {g : PyData → PyData → Bool} (hu : X.A.units + 64 < cLine) (ho : OpR X op (rI0 fun i j => .bl (p i j)))
    (hd : ∀ {E : Value → Shared → Prop} {s : Shared} {a b : Value} {da db : PyData} {as bs : List Addr} {Q : Value → Shared → Prop}, Reads s.heap a da as → Reads s.heap b db bs → PySem.W.alike da db = true → da ≠ .none →
      X.A.units + min da.depth db.depth < cLine → Q (.bool (g da db)) s → wpAny (model X.prog X.w) X.A (op a b) Q E s) : OpR X op (rCmpD X.K p g) := by
  intro pins s σ H x y v u Q I rx ry h
  rcases h with ⟨i, j, e1, e2, q⟩ | ⟨d, e, h1, h2, ha, hn, hz, q⟩
  · exact ho pins s σ H x y v u Q I rx ry ⟨i, j, e1, e2, q⟩
  · obtain ⟨as, r1⟩ := Dp.reads I d x v h1 rx
    obtain ⟨bs, r2⟩ := Dp.reads I e y u h2 ry
    refine hd r1 r2 ha hn ?_ ⟨.bl _, H, I, rfl, q⟩
    have := Nat.min_le_left d.depth e.depth
    omega
theorem prim_cmpI {op : Value → Value → Sem Value} {p : Int → Int → Bool} {g : PyData → PyData → Bool} (ho : OpR X op (rCmpD X.K p g)) : Prim2 X op (fCmpI p g) := ⟨_, ho, fun F H a b x y c Q s hx hy e q => by
  unfold fCmpI at e
  split at e
  · cases e; exact .inl ⟨_, _, hx, hy, q F H _ (Grow.refl s) rfl⟩
  · split at e
    · rename_i hz
      cases e
      obtain ⟨h1, h2⟩ := Bool.and_eq_true_iff.mp hz
      obtain ⟨h1, h3⟩ := Bool.and_eq_true_iff.mp h1
      obtain ⟨h2, h4⟩ := Bool.and_eq_true_iff.mp h2
      obtain ⟨h4, h5⟩ := Bool.and_eq_true_iff.mp h4
      exact .inr ⟨_, _, vw_dp s h1 hx, vw_dp s h3 hy, h2, py_non h1 (by simpa using h4), of_decide_eq_true h5, q F H _ (Grow.refl s) rfl⟩
    · cases e⟩
abbrev fLt := fCmpI (fun i j => decide (i < j)) fun a b => PySem.W.dataLt a b
abbrev fLe := fCmpI (fun i j => decide (i ≤ j)) fun a b => !PySem.W.dataLt b a
abbrev fGt := fCmpI (fun i j => decide (j < i)) fun a b => PySem.W.dataLt b a
abbrev fGe := fCmpI (fun i j => decide (j ≤ i)) fun a b => !PySem.W.dataLt a b
theorem prim_lt {k : Nat} (hr : Room k X.A) : Prim2 X (compareOp .Lt) fLt := prim_cmpI (op_cmpD hr.units op_lt PySem.W.lt_data)
theorem prim_le {k : Nat} (hr : Room k X.A) : Prim2 X (compareOp .LtE) fLe := prim_cmpI (op_cmpD hr.units op_le PySem.W.le_data)
theorem prim_gt {k : Nat} (hr : Room k X.A) : Prim2 X (compareOp .Gt) fGt := prim_cmpI (op_cmpD hr.units op_gt PySem.W.gt_data)
theorem prim_ge {k : Nat} (hr : Room k X.A) : Prim2 X (compareOp .GtE) fGe := prim_cmpI (op_cmpD hr.units op_ge PySem.W.ge_data)
/-- is None -/
def fIsN (a : Dt) : Dt → Option Res
  | .non => some (.dat (.bl (isNon a)))
  | _ => none
def fNotN (a : Dt) : Dt → Option Res
  | .non => some (.dat (.bl (!isNon a)))
  | _ => none
theorem vw_non {K : PySem.W.Frag} {F H : Hp} {d : Dt} {v : V} (h : Vw K F H d v) : decide (v = .non) = isNon d := by
  cases d with
  | non => cases (show v = .non from h); rfl
  | bl b => cases (show v = .bl b from h); rfl
  | int b => cases (show v = .int b from h); rfl
  | str b => cases (show v = .str _ from h); rfl
  | tup ds => obtain ⟨a, xs, e, _⟩ := h; subst e; rfl
  | lst ds => obtain ⟨a, xs, e, _⟩ := h; subst e; rfl
  | exo c d => obtain ⟨a, _, _, _, e, _⟩ := h; subst e; rfl
  | dic ks ds => obtain ⟨a, xs, e, _⟩ := h; subst e; rfl
theorem prim_isN : Prim2 X (compareOp .Is) fIsN := ⟨_, op_isN, fun F H a b x y c Q s hx hy e q => by
  cases b with
  | non => cases e; refine ⟨hy, ?_⟩; rw [vw_non hx]; exact q F H _ (Grow.refl s) rfl
  | _ => cases e⟩
theorem prim_notN : Prim2 X (compareOp .IsNot) fNotN := ⟨_, op_notN, fun F H a b x y c Q s hx hy e q => by
  cases b with
  | non =>
    cases e
    refine ⟨hy, ?_⟩
    rw [vw_non hx]
    exact q F H _ (Grow.refl s) rfl
  | _ => cases e⟩

/-! ### subscripts -/
def fIx : Dt → Dt → Option Res
  | .lst ds, .int i => (atI ds i).map .dat
  | .tup ds, .int i => (atI ds i).map .dat
  | .str x, .int i => if x.length ≤ sizeLine then (atI x i).map fun c => .dat (.str [c]) else none
  | _, _ => none
theorem Reps.atI {K : PySem.W.Frag} {F : Hp} {ds : List Dt} {xs : List V} {i : Int} {d : Dt} (r : Reps K F ds xs) (h : L2.atI ds i = some d) : ∃ v, L2.atI xs i = some v ∧ Rep K F d v := by
  unfold L2.atI at h ⊢
  rw [← r.length]
  cases e : ixN ds.length i with
  | none => rw [e] at h; cases h
  | some k => rw [e] at h; exact r.get h
theorem prim_ix : PrimIx X fIx := ⟨_, ix_seq, fun F H a b x y c Q s hx hy e q => by
  cases b with
  | int i =>
    have hy : y = .int i := hy
    cases a with
    | exo _ _ => cases e
    | dic _ _ => cases e
    | lst ds =>
      obtain ⟨p, xs, ex, h1, r⟩ := hx
      unfold fIx at e
      cases z : atI ds i with
      | none => simp only [z] at e; cases e
      | some d =>
        simp only [z] at e; cases e
        obtain ⟨v, ev, rv⟩ := r.atI z
        exact .inl ⟨p, xs, i, v, ex, hy, SqL.of h1, ev, q F H _ (Grow.refl s) rv⟩
    | tup ds =>
      obtain ⟨p, xs, ex, h1, r⟩ := hx
      unfold fIx at e
      cases z : atI ds i with
      | none => simp only [z] at e; cases e
      | some d =>
        simp only [z] at e; cases e
        obtain ⟨v, ev, rv⟩ := r.atI z
        exact .inr (.inl ⟨p, xs, i, v, ex, hy, Same.seqT s h1, ev, q F H _ (Grow.refl s) rv⟩)
    | str u =>
      have hx : x = .str (st u) := hx
      unfold fIx at e
      by_cases hz : u.length ≤ sizeLine
      · simp only [if_pos hz] at e
        cases z : atI u i with
        | none => simp only [z] at e; cases e
        | some d =>
          simp only [z] at e; cases e
          exact .inr (.inr ⟨st u, i, d, hx, hy, by rw [st_len]; exact hz, by rw [st_toList]; exact z, q F H _ (Grow.refl s) rfl⟩)
      · simp only [if_neg hz] at e; cases e
    | non => cases e
    | bl _ => cases e
    | int _ => cases e
  | _ => cases a <;> cases e⟩

/-! ### built-in functions -/
def asInts : List Dt → Option (List Int)
  | [] => some []
  | .int i :: ds => (asInts ds).map (i :: ·)
  | _ => none
def asBls : List Dt → Option (List Bool)
  | [] => some []
  | .bl b :: ds => (asBls ds).map (b :: ·)
  | _ => none
def asStrs : List Dt → Option (List Wd)
  | [] => some []
  | .str x :: ds => (asStrs ds).map (x :: ·)
  | _ => none
theorem asInts_of : ∀ {ds : List Dt} {ns : List Int}, asInts ds = some ns → ds = ns.map .int
  | [], ns, h => by cases h; rfl
  | .int i :: ds, ns, h => by
    unfold asInts at h
    cases e : asInts ds with
    | none => rw [e] at h; cases h
    | some ms => rw [e] at h; cases h; rw [List.map_cons, ← asInts_of e]
  | .non :: _, _, h => by cases h
  | .bl _ :: _, _, h => by cases h
  | .str _ :: _, _, h => by cases h
  | .tup _ :: _, _, h => by cases h
  | .lst _ :: _, _, h => by cases h
  | .exo _ _ :: _, _, h => by cases h
theorem asBls_of : ∀ {ds : List Dt} {ns : List Bool}, asBls ds = some ns → ds = ns.map .bl
  | [], ns, h => by cases h; rfl
  | .bl i :: ds, ns, h => by
    unfold asBls at h
    cases e : asBls ds with
    | none => rw [e] at h; cases h
    | some ms => rw [e] at h; cases h; rw [List.map_cons, ← asBls_of e]
  | .non :: _, _, h => by cases h
  | .int _ :: _, _, h => by cases h
  | .str _ :: _, _, h => by cases h
  | .tup _ :: _, _, h => by cases h
  | .lst _ :: _, _, h => by cases h
  | .exo _ _ :: _, _, h => by cases h
theorem asStrs_of : ∀ {ds : List Dt} {ns : List Wd}, asStrs ds = some ns → ds = ns.map .str
  | [], ns, h => by cases h; rfl
  | .str i :: ds, ns, h => by
    unfold asStrs at h
    cases e : asStrs ds with
    | none => rw [e] at h; cases h
    | some ms => rw [e] at h; cases h; rw [List.map_cons, ← asStrs_of e]
  | .non :: _, _, h => by cases h
  | .int _ :: _, _, h => by cases h
  | .bl _ :: _, _, h => by cases h
  | .tup _ :: _, _, h => by cases h
  | .lst _ :: _, _, h => by cases h
  | .exo _ _ :: _, _, h => by cases h
theorem asInts_map : ∀ ns : List Int, asInts (ns.map .int) = some ns
  | [] => rfl
  | n :: ns => by rw [List.map_cons]; unfold asInts; rw [asInts_map ns]; rfl
theorem asBls_map : ∀ ns : List Bool, asBls (ns.map .bl) = some ns
  | [] => rfl
  | n :: ns => by rw [List.map_cons]; unfold asBls; rw [asBls_map ns]; rfl
theorem asStrs_map : ∀ ns : List Wd, asStrs (ns.map .str) = some ns
  | [] => rfl
  | n :: ns => by rw [List.map_cons]; unfold asStrs; rw [asStrs_map ns]; rfl
section
variable {K : PySem.W.Frag} {F : Hp}
theorem reps_ints : ∀ {ns : List Int} {xs : List V}, Reps K F (ns.map .int) xs → xs = ns.map V.int
  | [], xs, h => h
  | n :: ns, xs, ⟨v, r, e, q, t⟩ => by rw [e, List.map_cons, ← reps_ints t, show v = .int n from q]
theorem reps_bls : ∀ {ns : List Bool} {xs : List V}, Reps K F (ns.map .bl) xs → xs = ns.map V.bl
  | [], xs, h => h
  | n :: ns, xs, ⟨v, r, e, q, t⟩ => by rw [e, List.map_cons, ← reps_bls t, show v = .bl n from q]
theorem reps_strs : ∀ {ns : List Wd} {xs : List V}, Reps K F (ns.map .str) xs → xs = (ns.map st).map V.str
  | [], xs, h => h
  | n :: ns, xs, ⟨v, r, e, q, t⟩ => by rw [e, List.map_cons, List.map_cons, ← reps_strs t, show v = .str (st n) from q]
theorem strs_reps : ∀ (ns : List Wd), Reps K F (ns.map .str) ((ns.map st).map V.str)
  | [] => rfl
  | n :: ns => ⟨_, _, rfl, rfl, strs_reps ns⟩
end
def fLen : List Dt → Option Res
  | [.lst ds] => some (.dat (.int ds.length))
  | [.tup ds] => some (.dat (.int ds.length))
  | [.str x] => if x.length ≤ sizeLine then some (.dat (.int x.length)) else none
  | _ => none
abbrev PrimN (X : Cx) (f : Value) (g : List Dt → Option Res) : Prop := PrimNR X (CallR X f) g
theorem vwAll1 {K : PySem.W.Frag} {F H : Hp} {d : Dt} {vs : List V} (h : VwAll K F H [d] vs) : ∃ v, vs = [v] ∧ Vw K F H d v := by
  obtain ⟨v, t, e, q, r⟩ := h
  cases (show t = [] from r)
  exact ⟨v, e, q⟩
theorem vwAll2 {K : PySem.W.Frag} {F H : Hp} {d d2 : Dt} {vs : List V} (h : VwAll K F H [d, d2] vs) : ∃ v v2, vs = [v, v2] ∧ Vw K F H d v ∧ Vw K F H d2 v2 := by
  obtain ⟨v, t, e, q, r⟩ := h
  obtain ⟨v2, rfl, q2⟩ := vwAll1 r
  exact ⟨v, v2, e, q, q2⟩
theorem fLen_inv {ds : List Dt} {c : Res} (h : fLen ds = some c) : (∃ es, ds = [.lst es] ∧ c = .dat (.int es.length)) ∨ (∃ es, ds = [.tup es] ∧ c = .dat (.int es.length)) ∨ (∃ x : Wd, ds = [.str x] ∧ x.length ≤ sizeLine ∧ c = .dat (.int x.length)) := by
  unfold fLen at h
  split at h
  · cases h; exact .inl ⟨_, rfl, rfl⟩
  · cases h; exact .inr (.inl ⟨_, rfl, rfl⟩)
  · split at h
    · rename_i hz; cases h; exact .inr (.inr ⟨_, rfl, hz, rfl⟩)
    · cases h
  · cases h
theorem prim_len : PrimN X (.builtin "len") fLen := ⟨_, call_len_seq.or call_len_str, fun F H ds vs c Q s h e q => by
  rcases fLen_inv e with ⟨es, rfl, rfl⟩ | ⟨es, rfl, rfl⟩ | ⟨x, rfl, hz, rfl⟩
  · obtain ⟨v, rfl, p, xs, ev, h1, r⟩ := vwAll1 h
    exact .inl ⟨p, xs, by rw [ev], .inl (SqL.of h1), by rw [← r.length]; exact q F H _ (Grow.refl s) rfl⟩
  · obtain ⟨v, rfl, p, xs, ev, h1, r⟩ := vwAll1 h
    exact .inl ⟨p, xs, by rw [ev], .inr (Same.seqT s h1), by rw [← r.length]; exact q F H _ (Grow.refl s) rfl⟩
  · obtain ⟨v, rfl, ev⟩ := vwAll1 h
    have ev : v = .str (st x) := ev
    exact .inr ⟨st x, by rw [ev], by rw [st_len]; exact hz, by rw [st_len]; exact q F H _ (Grow.refl s) rfl⟩⟩
def fSum : List Dt → Option Res
  | [.lst ds] => (asInts ds).map fun ns => .dat (.int ns.sum)
  | _ => none
def fBls (g : List Bool → Bool) : List Dt → Option Res
  | [.lst ds] => (asBls ds).map fun bs => .dat (.bl (g bs))
  | _ => none
theorem prim_bls {f : Value} {g : List Bool → Bool} (ho : CallR X f (fun vs H Q => ∃ (a : Addr) (bs : List Bool), vs = [V.ref a] ∧ SqL X.K H a (bs.map V.bl) ∧ Q (.bl (g bs)) H)) : PrimN X f (fBls g) := ⟨_, ho, fun F H ds vs c Q s h e q => by
  unfold fBls at e
  split at e
  · rename_i ds
    obtain ⟨v, rfl, p, xs, ev, h1, r⟩ := vwAll1 h
    obtain ⟨bs, z, rfl⟩ := Option.map_eq_some_iff.mp e
    rw [asBls_of z] at r
    rw [reps_bls r] at h1
    exact ⟨p, bs, by rw [ev], SqL.of h1, q F H _ (Grow.refl s) rfl⟩
  · cases e⟩
abbrev fAll := fBls fun bs => bs.all id
abbrev fAny := fBls fun bs => bs.any id
theorem prim_all (hc : X.calm = true) : PrimN X (.builtin "all") fAll := prim_bls (cr_all hc)
theorem prim_any (hc : X.calm = true) : PrimN X (.builtin "any") fAny := prim_bls (cr_any hc)
theorem prim_sum (hc : X.calm = true) : PrimN X (.builtin "sum") fSum := ⟨_, cr_sum hc, fun F H ds vs c Q s h e q => by
  unfold fSum at e
  split at e
  · obtain ⟨v, rfl, p, xs, ev, h1, r⟩ := vwAll1 h
    obtain ⟨bs, z, rfl⟩ := Option.map_eq_some_iff.mp e
    rw [asInts_of z] at r
    rw [reps_ints r] at h1
    exact ⟨p, bs, by rw [ev], SqL.of h1, q F H _ (Grow.refl s) rfl⟩
  · cases e⟩
def fMin2 : List Dt → Option Res
  | [.int i, .int j] => some (.dat (.int (if j < i then j else i)))
  | _ => none
def fMax2 : List Dt → Option Res
  | [.int i, .int j] => some (.dat (.int (if j > i then j else i)))
  | _ => none
theorem prim_min2 (hc : X.calm = true) : PrimN X (.builtin "min") fMin2 := ⟨_, call_min2 hc, fun F H ds vs c Q s h e q => by
  unfold fMin2 at e
  split at e
  · rename_i i j
    obtain ⟨v, v2, rfl, e1, e2⟩ := vwAll2 h
    cases e
    exact ⟨i, j, by rw [show v = .int i from e1, show v2 = .int j from e2], q F H _ (Grow.refl s) rfl⟩
  · cases e⟩
theorem prim_max2 (hc : X.calm = true) : PrimN X (.builtin "max") fMax2 := ⟨_, call_max2 hc, fun F H ds vs c Q s h e q => by
  unfold fMax2 at e
  split at e
  · rename_i i j
    obtain ⟨v, v2, rfl, e1, e2⟩ := vwAll2 h
    cases e
    exact ⟨i, j, by rw [show v = .int i from e1, show v2 = .int j from e2], q F H _ (Grow.refl s) rfl⟩
  · cases e⟩
def fAbs : List Dt → Option Res
  | [.int i] => some (.dat (.int (if i < 0 then -i else i)))
  | _ => none
theorem prim_abs : PrimN X (.builtin "abs") fAbs := ⟨_, call_abs, fun F H ds vs c Q s h e q => by
  unfold fAbs at e
  split at e
  · rename_i i
    obtain ⟨v, rfl, e1⟩ := vwAll1 h
    cases e
    exact ⟨i, by rw [show v = .int i from e1], q F H _ (Grow.refl s) rfl⟩
  · cases e⟩
def fInt : List Dt → Option Res
  | [.int i] => some (.dat (.int i))
  | [.bl b] => some (.dat (.int (if b then 1 else 0)))
  | _ => none
theorem prim_int : PrimN X (.type "int") fInt := ⟨_, call_int1, fun F H ds vs c Q s h e q => by
  unfold fInt at e
  split at e
  · rename_i i
    obtain ⟨v, rfl, e1⟩ := vwAll1 h
    cases e
    exact .inl ⟨i, by rw [show v = .int i from e1], q F H _ (Grow.refl s) rfl⟩
  · rename_i i
    obtain ⟨v, rfl, e1⟩ := vwAll1 h
    cases e
    exact .inr ⟨i, by rw [show v = .bl i from e1], q F H _ (Grow.refl s) rfl⟩
  · cases e⟩
def fList : List Dt → Option Res
  | [.lst ds] => some (.new ds)
  | [.tup ds] => some (.new ds)
  | _ => none
theorem prim_list : PrimN X (.type "list") fList := ⟨_, call_list_of, fun F H ds vs c Q s h e q => by
  unfold fList at e
  split at e
  · obtain ⟨v, rfl, p, xs, ev, h1, r⟩ := vwAll1 h
    cases e
    exact ⟨p, xs, by rw [ev], .inl (SqL.of h1), fun l nl => q F _ _ (grow_own s nl) ⟨l, _, rfl, nl, upd_same, s.free nl, r⟩⟩
  · obtain ⟨v, rfl, p, xs, ev, h1, r⟩ := vwAll1 h
    cases e
    exact ⟨p, xs, by rw [ev], .inr (Same.seqT s h1), fun l nl => q F _ _ (grow_own s nl) ⟨l, _, rfl, nl, upd_same, s.free nl, r⟩⟩
  · cases e⟩
def fTuple : List Dt → Option Res
  | [.lst ds] => some (.dat (.tup ds))
  | [.tup ds] => some (.dat (.tup ds))
  | _ => none
theorem prim_tuple : PrimN X (.type "tuple") fTuple := ⟨_, call_tuple_of, fun F H ds vs c Q s h e q => by
  unfold fTuple at e
  split at e
  · obtain ⟨v, rfl, p, xs, ev, h1, r⟩ := vwAll1 h
    cases e
    refine ⟨p, xs, by rw [ev], .inl ⟨SqL.of h1, fun l nl => ?_⟩⟩
    have g : Grow F H (upd F l (.tup xs)) (upd H l (.tup xs)) := grow_frz s nl
    exact q _ _ _ g ⟨l, _, rfl, .inl (.inl upd_same), Reps.mono g.sub _ _ r⟩
  · obtain ⟨v, rfl, p, xs, ev, h1, r⟩ := vwAll1 h
    cases e
    exact ⟨p, xs, by rw [ev], .inr ⟨Same.seqT s h1, q F H _ (Grow.refl s) ⟨p, xs, rfl, h1, r⟩⟩⟩
  · cases e⟩

variable {e : Expr} {es : List Expr} {pos p : Pos} {x : Str} {id T : String} {ms : M (List Res)} {f : List Dt → Option Res}
theorem cb_core {r : List V → Hp → VK → Prop} (hf : ∀ F H (ds : List Dt) (vs : List V) (c : Res) (Q : VK), Same F H → VwAll X.K F H ds vs → f ds = some c → (∀ F' H' v, Grow F H F' H' → PrOk X.K H F' H' v c → Q v H') → r vs H Q)
    {σ : St} {H : Hp} {Q : VK} (h : tE X.K X.mg W (eCB f ms) σ H Q) : tCB r (tOs X.K X.mg W ms) σ H Q := by
  obtain ⟨F, en, R, h⟩ := h
  refine ⟨F, en, R, (OutOk.ofBind h).imp fun F1 H1 en1 rs _ ⟨R1, p1, q⟩ vs hvs => ?_⟩
  obtain ⟨c, ec, fin⟩ := lift_ok p1.there R1 (q.bind p1)
  cases z : vws en1 rs with
  | none => rw [z] at ec; cases ec
  | some ds =>
    rw [z] at ec
    exact hf F1 H1 ds vs c Q R1.sub (rsOk_vws R1 hvs z) ec fin
theorem re_cb (hp : PrimN X (.builtin id) f) (hm : X.mg x = none) (hv : bootBuiltins x = some (.builtin id)) (ha : PA X (e :: es) (tOs X.K X.mg W ms)) (hg : Gl X x := by rfl) (hn : x ≠ "__name__" := by decide) (hdb : (x == ("__debug__" : Str)) = false := by decide)
    (he : starEach (e :: es) X.env = (false, eval e X.env) :: starEach es X.env := by rfl) (hpl : (backTo pos (starEach es X.env)).any (·.1) = false := by rfl) : PE X (.Call (.Name x p) (e :: es) [] pos) (tE X.K X.mg W (eCB f ms)) := by
  obtain ⟨r, hr, hf⟩ := hp
  exact PE.imp (pe_callB hr hg hm hv ha hn hdb he hpl) fun σ H Q h => cb_core hf h
theorem re_ct (hp : PrimN X (.type T) f) (hm : X.mg x = none) (hv : bootBuiltins x = some (.type T)) (ha : PA X (e :: es) (tOs X.K X.mg W ms)) (hg : Gl X x := by rfl) (hn : x ≠ "__name__" := by decide) (hdb : (x == ("__debug__" : Str)) = false := by decide)
    (he : starEach (e :: es) X.env = (false, eval e X.env) :: starEach es X.env := by rfl) (hpl : (backTo pos (starEach es X.env)).any (·.1) = false := by rfl) : PE X (.Call (.Name x p) (e :: es) [] pos) (tE X.K X.mg W (eCB f ms)) := by
  obtain ⟨r, hr, hf⟩ := hp
  exact PE.imp (pe_callTy hr hg hm hv ha hn hdb he hpl) fun σ H Q h => cb_core hf h
end
end Fw

/-! Fw10: chains of comparisons, isinstance, texts, slices, several names at once. -/
namespace Fw
open PySem PySem.Spec PyProof.Rows L2

section
variable {X : Cx} {W : WX} {fx : Nat} {e a b c : Expr} {m ma mb mc : M Res} {pos p : Pos} {x : Str}

/-! ### a op b op' c -/
def eChain (f g : Dt → Dt → Option Res) (ma mb mc : M Res) : M Res := fun en => (eOpd ma en).bind fun ra en1 => (eOpd mb en1).bind fun rb en2 => match (vw en2 ra).bind fun a => (vw en2 rb).bind fun b => f a b with
  | some (.dat (.bl k)) => if k = true then (eOpd mc en2).bind fun rc en3 => lift en3 ((vw en3 rb).bind fun b => (vw en3 rc).bind fun c => g b c) else .ok (.dat (.bl false)) en2
  | _ => .stuck
theorem chain_core {f g : Dt → Dt → Option Res} {r r' : R2}
    (hf : ∀ F H (a b : Dt) (x y : V) (c : Res) (Q : VK), Same F H → Vw X.K F H a x → Vw X.K F H b y → f a b = some c → (∀ F' H' v, Grow F H F' H' → PrOk X.K H F' H' v c → Q v H') → r x y H Q)
    (hg : ∀ F H (a b : Dt) (x y : V) (c : Res) (Q : VK), Same F H → Vw X.K F H a x → Vw X.K F H b y → g a b = some c → (∀ F' H' v, Grow F H F' H' → PrOk X.K H F' H' v c → Q v H') → r' x y H Q)
    {σ : St} {H : Hp} {Q : VK} (h : tE X.K X.mg W (eChain f g ma mb mc) σ H Q) : tChain r r' (tE X.K X.mg W ma) (tE X.K X.mg W mb) (tE X.K X.mg W mc) σ H Q := by
  obtain ⟨F, en, R, h⟩ := h
  refine ⟨F, en, R, (opd h).imp fun F1 H1 en1 r0 _ q x hx fx => ?_⟩
  obtain ⟨F2, ra, R2, p2, n2, hx2, q⟩ := q x hx fx
  refine ⟨F2, en1, R2, (opd q).imp fun F3 H3 en3 r3 _ q y hy fy => ?_⟩
  obtain ⟨F4, rb, R4, p4, n4, hy4, q⟩ := q y hy fy
  cases e1 : vw en3 ra with
  | none => rw [e1] at q; exact q.elim
  | some da =>
    cases e2 : vw en3 rb with
    | none => rw [e1, e2] at q; exact q.elim
    | some db =>
      rw [e1, e2] at q
      cases e3 : f da db with
      | none => simp only [Option.bind, e3] at q; exact q.elim
      | some cc =>
        simp only [Option.bind, e3] at q
        refine hf F4 H3 da db x y cc _ R4.sub ((hx2.keep (en1 := en3) (H1 := H3) p4.sub n2).vw R4 e1) (hy4.vw R4 e2) e3 fun F5 H5 v g5 pr => ?_
        cases cc with
        | dat d =>
          cases d with
          | bl k =>
            refine ⟨k, pr, ?_⟩
            dsimp only at q
            cases k with
            | false =>
              rw [if_neg Bool.false_ne_true] at q ⊢
              exact q F5 H5 (R4.grow g5) g5.post _ rfl trivial
            | true =>
              rw [if_pos rfl] at q ⊢
              refine ⟨F5, en3, R4.grow g5, (opd (q.bind g5.post)).imp fun F6 H6 en6 r6 _ q w hw fw => ?_⟩
              obtain ⟨F7, rc, R7, p7, n7, hw7, q⟩ := q w hw fw
              obtain ⟨cc2, ec, fin⟩ := lift_ok (fun b hb => p2.there b (p4.there b (g5.keep.free (p7.there b hb)))) R7 q
              cases e4 : vw en6 rb with
              | none => rw [e4] at ec; cases ec
              | some db2 =>
                cases e5 : vw en6 rc with
                | none => rw [e4, e5] at ec; cases ec
                | some dc =>
                  rw [e4, e5] at ec
                  exact hg F7 H6 db2 dc y w cc2 Q R7.sub ((hy4.keep (en1 := en6) (H1 := H6) (g5.sub.trans p7.sub) n4).vw R7 e4) (hw7.vw R7 e5) ec fin
          | _ => exact q.elim
        | _ => exact q.elim
theorem re_chain {op op' : CmpOp} {f g : Dt → Dt → Option Res} (hp : Prim2 X (compareOp op) f) (hq : Prim2 X (compareOp op') g) (ha : PE X a (tE X.K X.mg W ma)) (hb : PE X b (tE X.K X.mg W mb)) (hc : PE X c (tE X.K X.mg W mc))
    (hm : lastMarks [op, op'] [b, c] = false := by with_unfolding_all rfl) : PE X (.Compare a [op, op'] [b, c] pos) (tE X.K X.mg W (eChain f g ma mb mc)) := by
  obtain ⟨r, ho, hf⟩ := hp
  obtain ⟨r', ho', hg⟩ := hq
  exact PE.imp (pe_chain ho ho' ha hb hc hm) fun σ H Q h => chain_core hf hg h
theorem rt_chain {op op' : CmpOp} {f g : Dt → Dt → Option Res} (hp : Prim2 X (compareOp op) f) (hq : Prim2 X (compareOp op') g) (ha : PE X a (tE X.K X.mg W ma)) (hb : PE X b (tE X.K X.mg W mb)) (hc : PE X c (tE X.K X.mg W mc))
    (hm : lastMarks [op, op'] [b, c] = false := by with_unfolding_all rfl) : PT X (.Compare a [op, op'] [b, c] pos) (tT X.K X.mg W (cBl (eChain f g ma mb mc))) := by
  obtain ⟨r, ho, hf⟩ := hp
  obtain ⟨r', ho', hg⟩ := hq
  exact PT.imp (pt_chain ho ho' ha hb hc hm) fun σ H Q h => chain_core hf hg (bl_core h)

/-! ### one sign in a text -/
def fInS : Dt → Dt → Option Res
  | .str [s], .str z => some (.dat (.bl (decide (s ∈ z))))
  | _, _ => none
def fNotInS : Dt → Dt → Option Res
  | .str [s], .str z => some (.dat (.bl (!decide (s ∈ z))))
  | _, _ => none
theorem fInS_inv {a b : Dt} {c : Res} (h : fInS a b = some c) : ∃ s z, a = .str [s] ∧ b = .str z ∧ c = .dat (.bl (decide (s ∈ z))) := by
  unfold fInS at h
  split at h
  · cases h; exact ⟨_, _, rfl, rfl, rfl⟩
  · cases h
theorem fNotInS_inv {a b : Dt} {c : Res} (h : fNotInS a b = some c) : ∃ s z, a = .str [s] ∧ b = .str z ∧ c = .dat (.bl (!decide (s ∈ z))) := by
  unfold fNotInS at h
  split at h
  · cases h; exact ⟨_, _, rfl, rfl, rfl⟩
  · cases h
theorem prim_inS : Prim2 X (compareOp .In) fInS := ⟨_, op_in_sign, fun F H a b x y c Q s hx hy e q => by
  obtain ⟨s', z, rfl, rfl, rfl⟩ := fInS_inv e
  exact ⟨s', st z, hx, hy, by rw [st_toList]; exact q F H _ (Grow.refl s) rfl⟩⟩
theorem prim_notInS : Prim2 X (compareOp .NotIn) fNotInS := ⟨_, op_notIn_sign, fun F H a b x y c Q s hx hy e q => by
  obtain ⟨s', z, rfl, rfl, rfl⟩ := fNotInS_inv e
  exact ⟨s', st z, hx, hy, by rw [st_toList]; exact q F H _ (Grow.refl s) rfl⟩⟩

/-! ### isinstance with built-in types -/
def tyN : Dt → String
  | .non => "NoneType" | .bl _ => "bool" | .int _ => "int" | .str _ => "str" | .tup _ => "tuple" | .lst _ => "list" | .exo _ _ => "NoneType" | .dic _ _ => "NoneType"
def isTy (d : Dt) (t : String) : Bool := tyN d == t || (tyN d == "bool" && t == "int")
def kitAll : Bool := ["NoneType", "bool", "int", "str", "tuple", "list"].all fun a => ["bool", "int", "str", "tuple", "list"].all fun b => decide (kitB a b = some (a == b || (a == "bool" && b == "int")))
theorem kitAll_ok : kitAll = true := by decide +kernel
theorem kit_isTy {K : PySem.W.Frag} (d : Dt) {t : String} (ht : t ∈ ["bool", "int", "str", "tuple", "list"]) : PySem.W.kitOne K (.type (tyN d)) (.type t) = some (isTy d t) := by
  have h := kitAll_ok
  unfold kitAll at h
  rw [List.all_eq_true] at h
  have h1 := h (tyN d) (by cases d <;> simp [tyN])
  rw [List.all_eq_true] at h1
  exact kit_ty (of_decide_eq_true (h1 t ht))
theorem vw_ty {K : PySem.W.Frag} {F H : Hp} {d : Dt} {v : V} (s : Same F H) (hn : isX d = false) (h : Vw K F H d v) : TyX K H v (.type (tyN d)) := by
  cases d with
  | exo _ _ => cases hn
  | dic _ _ => cases hn
  | non => cases (show v = .non from h); exact .base .non
  | bl b => cases (show v = .bl b from h); exact .base (.bl b)
  | int b => cases (show v = .int b from h); exact .base (.int b)
  | str b => cases (show v = .str _ from h); exact .base (.str _)
  | lst ds => obtain ⟨a, xs, e, q, _⟩ := h; subst e; exact .base (.lst q)
  | tup ds =>
    obtain ⟨a, xs, e, q, _⟩ := h
    subst e
    rcases Same.seqT s q with (q | ⟨o, q⟩) | ⟨o, its, n, hk, hc, _⟩
    · exact .base (.tup q)
    · exact .fTuple q
    · exact .kTuple hk hc
def eIsi (ts : List String) (m : M Res) : M Res := fun en => (eOpd m en).bind fun r en1 => match vw en1 r with
  | some d => if isX d = true then .stuck else .ok (.dat (.bl (ts.any (isTy d)))) en1
  | none => .stuck
theorem re_isi (t : String) {tn : Str} {tp : Pos} (hm : X.mg "isinstance" = none) (hmt : X.mg tn = none) (hvt : bootBuiltins tn = some (.type t)) (ha : PE X a (tE X.K X.mg W m)) (ht : t ∈ ["bool", "int", "str", "tuple", "list"] := by decide) (hg : Gl X "isinstance" := by rfl) (hgt : Gl X tn := by rfl)
    (htn : tn ≠ "__name__" := by decide) (htd : (tn == ("__debug__" : Str)) = false := by decide) (he : starEach [a, .Name tn tp] X.env = [(false, eval a X.env), (false, eval (.Name tn tp) X.env)] := by rfl) :
    PE X (.Call (.Name "isinstance" p) [a, .Name tn tp] [] pos) (tE X.K X.mg W (eIsi [t] m)) :=
  PE.imp (pe_callB call_isi hg hm PyProof.Rows.boot_isinstance (pa_cons ha (pa_cons (pe_bltn (v := .ty t) hgt hmt hvt rfl htn htd) pa_nil (by rfl)) (by rw [he]; rfl)) (by decide) (by decide) (by rw [he]; rfl) (by rfl)) fun σ H Q ⟨F, en, R, h⟩ => ⟨F, en, R, (opd h).imp fun F1 H1 en1 r0 _ q v hv fr => by
    obtain ⟨F2, r, R2, p2, n2, hv2, q⟩ := q v hv fr
    cases z : vw en1 r with
    | none => rw [z] at q; exact q.elim
    | some d =>
      rw [z] at q
      dsimp only at q
      by_cases hX : isX d = true
      · rw [if_pos hX] at q; exact q.elim
      rw [if_neg hX] at q
      have hX : isX d = false := Bool.eq_false_iff.mpr hX
      refine ⟨v, .ty t, _, _, _, rfl, .ty t, vw_ty R2.sub hX (hv2.vw R2 z), kit_isTy d ht, ?_⟩
      have := q F2 H1 R2 .refl (.bl (isTy d t)) (by show V.bl _ = V.bl _; simp) trivial
      exact this⟩
theorem kitAny_isTy {K : PySem.W.Frag} (d : Dt) : ∀ {ts : List String}, (∀ t ∈ ts, t ∈ ["bool", "int", "str", "tuple", "list"]) → PySem.W.kitAny K (.type (tyN d)) (ts.map .type) = some (ts.any (isTy d))
  | [], _ => rfl
  | t :: ts, h => by
    rw [List.map_cons, List.any_cons]
    refine kitAny_cons (kit_isTy d (h t List.mem_cons_self)) (fun e => ?_) fun e => ?_
    · rw [e, Bool.false_or]; exact kitAny_isTy d fun u hu => h u (List.mem_cons_of_mem _ hu)
    · rw [e, Bool.true_or]
theorem re_isi2 (t1 t2 : String) {n1 n2 : Str} {q1 q2 tp : Pos} {kk} (hm : X.mg "isinstance" = none) (hm1 : X.mg n1 = none) (hv1 : bootBuiltins n1 = some (.type t1)) (hm2 : X.mg n2 = none) (hv2 : bootBuiltins n2 = some (.type t2)) (ha : PE X a (tE X.K X.mg W m))
    (ht1 : t1 ∈ ["bool", "int", "str", "tuple", "list"] := by decide) (ht2 : t2 ∈ ["bool", "int", "str", "tuple", "list"] := by decide) (hg : Gl X "isinstance" := by rfl) (hg1 : Gl X n1 := by rfl) (hg2 : Gl X n2 := by rfl)
    (h1 : n1 ≠ "__name__" := by decide) (h2 : n2 ≠ "__name__" := by decide) (hd1 : (n1 == ("__debug__" : Str)) = false := by decide) (hd2 : (n2 == ("__debug__" : Str)) = false := by decide)
    (he : starEach [a, .Tuple [.Name n1 q1, .Name n2 q2] kk tp] X.env = [(false, eval a X.env), (false, eval (.Tuple [.Name n1 q1, .Name n2 q2] kk tp) X.env)] := by rfl) :
    PE X (.Call (.Name "isinstance" p) [a, .Tuple [.Name n1 q1, .Name n2 q2] kk tp] [] pos) (tE X.K X.mg W (eIsi [t1, t2] m)) :=
  PE.imp (pe_callB call_isiT hg hm PyProof.Rows.boot_isinstance (pa_cons ha (pa_cons (pe_tup (pa_cons (pe_bltn (v := .ty t1) hg1 hm1 hv1 rfl h1 hd1) (pa_cons (pe_bltn (v := .ty t2) hg2 hm2 hv2 rfl h2 hd2) pa_nil (by rfl)) (by rfl))) pa_nil (by rfl)) (by rw [he]; rfl)) (by decide) (by decide) (by rw [he]; rfl) (by rfl)) fun σ H Q ⟨F, en, R, h⟩ => ⟨F, en, R, (opd h).imp fun F1 H1 en1 r0 _ q v hv fr => by
    obtain ⟨F2, r, R2, p2, n2', hv2', q⟩ := q v hv fr
    cases z : vw en1 r with
    | none => rw [z] at q; exact q.elim
    | some d =>
      rw [z] at q
      dsimp only at q
      by_cases hX : isX d = true
      · rw [if_pos hX] at q; exact q.elim
      rw [if_neg hX] at q
      have hX : isX d = false := Bool.eq_false_iff.mpr hX
      refine ⟨show 2 ≤ sizeLine by decide, fun pp np => ⟨v, pp, [.ty t1, .ty t2], _, [.type t1, .type t2], _, rfl, upd_same, .cons (.ty t1) (.cons (.ty t2) .nil), ?_, kitAny_isTy (ts := [t1, t2]) d (by intro t ht; rcases List.mem_cons.mp ht with rfl | ht; exact ht1; rw [List.mem_singleton.mp ht]; exact ht2), ?_⟩⟩
      · have g : Grow F2 H1 (upd F2 pp (.tup [.ty t1, .ty t2])) (upd H1 pp (.tup [.ty t1, .ty t2])) := grow_frz R2.sub np
        exact vw_ty (R2.grow g).sub hX ((hv2'.keep (en1 := en1) (H1 := upd H1 pp (.tup [.ty t1, .ty t2])) g.sub n2').vw (R2.grow g) z)
      · have g : Grow F2 H1 (upd F2 pp (.tup [.ty t1, .ty t2])) (upd H1 pp (.tup [.ty t1, .ty t2])) := grow_frz R2.sub np
        exact q _ _ (R2.grow g) g.post _ rfl trivial⟩

/-! ### a text's methods of one argument -/
def eM1 (f : Wd → Dt → Option Res) (mo me : M Res) : M Res := fun en => (eVal mo en).bind fun o en1 => match o with
  | .str a => (eOpd me en1).bind fun r en2 => lift en2 ((vw en2 r).bind (f a))
  | _ => .stuck
def PrimM (X : Cx) (id : String) (f : Wd → Dt → Option Res) : Prop := ∃ r, MtR X id r ∧ ∀ F H (a : Wd) (d : Dt) (y : V) (c : Res) (Q : VK), Same F H → Vw X.K F H d y → f a d = some c →
  (∀ F' H' v, Grow F H F' H' → PrOk X.K H F' H' v c → Q v H') → r (.str (st a)) [y] H Q
theorem re_m1 {id : String} {name : Str} {apos : Pos} {f : Wd → Dt → Option Res} (slot : Slot "str" name id) (ty : typeOf (.builtin id) = pure (.type "method_descriptor")) (hp : PrimM X id f) (ho : PE X a (tE X.K X.mg W ma)) (he : PE X b (tE X.K X.mg W mb))
    (hs : starEach [b] X.env = [(false, eval b X.env)] := by rfl) (hbase : attributeBase a name X.env (eval a X.env) = eval a X.env := by rfl) (hline : (apos.endLine == pos.line) = true := by rfl) :
    PE X (.Call (.Attribute a name apos) [b] [] pos) (tE X.K X.mg W (eM1 f ma mb)) := by
  obtain ⟨r, hr, hf⟩ := hp
  refine PE.imp (pe_m1 slot ty hr (rv_of ho) he hs hbase hline) fun σ H Q ⟨F, en, R, h⟩ => ⟨F, en, R, (OutOk.ofBind h).imp fun F1 H1 en1 d _ ⟨R1, p1, q⟩ x hx => ?_⟩
  cases d with
  | str u =>
    have hx : x = .str (st u) := hx
    subst hx
    dsimp only at q
    refine ⟨⟨_, rfl⟩, F1, en1, R1, (opd (q.bind p1)).imp fun F2 H2 en2 r0 _ q y hy fy => ?_⟩
    obtain ⟨F3, rb, R3, p3, n3, hy3, q⟩ := q y hy fy
    obtain ⟨c, ec, fin⟩ := lift_ok (fun b hb => p1.there b (p3.there b hb)) R3 q
    cases z : vw en2 rb with
    | none => rw [z] at ec; cases ec
    | some d =>
      rw [z] at ec
      exact hf F3 H2 u d y c Q R3.sub (hy3.vw R3 z) ec fin
  | _ => exact q.elim
def fJoin (a : Wd) : Dt → Option Res
  | .lst ds => (asStrs ds).bind fun ws => if (ws.map (·.length)).sum + ws.length * a.length ≤ 16777216 then some (.dat (.str (TL.joinL a ws))) else none
  | .tup ds => (asStrs ds).bind fun ws => if (ws.map (·.length)).sum + ws.length * a.length ≤ 16777216 then some (.dat (.str (TL.joinL a ws))) else none
  | _ => none
theorem join_st (a : Wd) (ws : List Wd) : Txt.join (st a) (ws.map st) = st (TL.joinL a ws) := by
  rw [TL.join_eq]
  refine TL.ext_tl ?_
  rw [TL.tl_join, List.map_map]
  have e1 : TL.tl (st a) = a := st_toList a
  have e2 : (TL.tl ∘ st) = (fun x : Wd => x) := by funext x; exact st_toList x
  rw [e1, e2, List.map_id']
  exact (st_toList _).symm
theorem lens_st (ws : List Wd) : ((ws.map st).map (·.length)) = ws.map (·.length) := by
  rw [List.map_map]
  refine List.map_congr_left fun x _ => st_len x
theorem prim_join : PrimM X "str.join" fJoin := ⟨_, mt_join, fun F H a d y c Q s hy e q => by
  cases d with
  | lst ds =>
    obtain ⟨pp, xs, ey, h1, r⟩ := hy
    obtain ⟨ws, z, e⟩ := Option.bind_eq_some_iff.mp e
    rw [asStrs_of z] at r
    rw [reps_strs r] at h1
    by_cases hz : (ws.map (·.length)).sum + ws.length * a.length ≤ 16777216
    · rw [if_pos hz] at e; cases e
      exact ⟨st a, pp, ws.map st, rfl, by rw [ey], .inl (SqL.of h1), by rw [lens_st, List.length_map, st_len]; exact hz, by rw [join_st]; exact q F H _ (Grow.refl s) rfl⟩
    · rw [if_neg hz] at e; cases e
  | tup ds =>
    obtain ⟨pp, xs, ey, h1, r⟩ := hy
    obtain ⟨ws, z, e⟩ := Option.bind_eq_some_iff.mp e
    rw [asStrs_of z] at r
    rw [reps_strs r] at h1
    by_cases hz : (ws.map (·.length)).sum + ws.length * a.length ≤ 16777216
    · rw [if_pos hz] at e; cases e
      exact ⟨st a, pp, ws.map st, rfl, by rw [ey], .inr (Same.seqT s h1), by rw [lens_st, List.length_map, st_len]; exact hz, by rw [join_st]; exact q F H _ (Grow.refl s) rfl⟩
    · rw [if_neg hz] at e; cases e
  | _ => cases e⟩
def fIndex (a : Wd) : Dt → Option Res
  | .str b => match Builtin.Str.occurrences (st a) (st b) 0 (st a).length 1 with
    | i :: _ => some (.dat (.int (i : Nat)))
    | [] => none
  | _ => none
theorem prim_index : PrimM X "str.index" fIndex := ⟨_, mt_sindex, fun F H a d y c Q s hy e q => by
  cases d with
  | str b =>
    have hy : y = .str (st b) := hy
    unfold fIndex at e
    cases z : Builtin.Str.occurrences (st a) (st b) 0 (st a).length 1 with
    | nil => simp only [z] at e; cases e
    | cons i r =>
      simp only [z] at e; cases e
      exact ⟨st a, st b, i, r, rfl, by rw [hy], z, q F H _ (Grow.refl s) rfl⟩
  | _ => cases e⟩

/-! ### slices -/
def cutL {α : Type} (xs : List α) (lo hi : Option Int) : List α := (xs.drop (HT.sIx xs.length 0 lo)).take (HT.sIx xs.length xs.length hi - HT.sIx xs.length 0 lo)
def fSl : Dt → Option Int → Option Int → Option Res
  | .str x, lo, hi => if x.length ≤ sizeLine then some (.dat (.str (cutL x lo hi))) else none
  | .lst ds, lo, hi => some (.new (cutL ds lo hi))
  | .tup ds, lo, hi => if ¬ (HT.sIx ds.length 0 lo = 0 ∧ HT.sIx ds.length ds.length hi = ds.length) then some (.dat (.tup (cutL ds lo hi))) else none
  | _, _, _ => none
theorem Reps.cut {K : PySem.W.Frag} {F : Hp} {ds : List Dt} {xs : List V} (r : Reps K F ds xs) (lo hi : Option Int) : Reps K F (cutL ds lo hi) (cutV xs lo hi) := by
  unfold cutL cutV
  rw [r.length]
  exact Reps.take _ (Reps.drop _ r)
theorem cut_st (x : Wd) (lo hi : Option Int) : cutS (st x) lo hi = st (cutL x lo hi) := by
  unfold cutS cutL
  rw [st_len, st_toList]
  rfl
/-- a slice's part -/
def oNone : M (Option Int) := fun en => .ok none en
def oSome (m : M Res) : M (Option Int) := fun en => (eOpd m en).bind fun r en1 => match vw en1 r with
  | some (.int i) => .ok (some i) en1
  | _ => .stuck
def tO (K : PySem.W.Frag) (mg : Str → Option Value) (W : WX) (m : M (Option Int)) : TO := fun σ H Q => ∃ F en, Rel K F H en σ ∧ OutOk K mg W F H en σ (m en) fun F' H' en' o => Q o H'
theorem PO.imp {e : Option Expr} {t t' : TO} (h : PO X e t) (i : ∀ σ H Q, t' σ H Q → t σ H Q) : PO X e t' := ⟨fun pins s σ H Q I q => h.run pins s σ H Q I (i σ H Q q)⟩
theorem ro_none : PO X none (tO X.K X.mg W oNone) := PO.imp po_none fun σ H Q ⟨F, en, R, h⟩ => h F H R .refl
theorem ro_some (h : PE X e (tE X.K X.mg W m)) : PO X (some e) (tO X.K X.mg W (oSome m)) := PO.imp (po_some h) fun σ H Q ⟨F, en, R, h⟩ => ⟨F, en, R, (opd h).imp fun F1 H1 en1 r0 _ q v hv fr => by
  obtain ⟨F2, r, R2, p2, n2, hv2, q⟩ := q v hv fr
  cases z : vw en1 r with
  | none => rw [z] at q; exact q.elim
  | some d =>
    rw [z] at q
    have vx := hv2.vw R2 z
    cases d with
    | int i => exact ⟨i, vx, q F2 H1 R2 .refl⟩
    | _ => exact q.elim⟩
def eSlice (m : M Res) (lo hi : M (Option Int)) : M Res := fun en => (eOpd m en).bind fun r en1 => (lo en1).bind fun l en2 => (hi en2).bind fun h en3 => lift en3 ((vw en3 r).bind fun d => fSl d l h)
theorem re_slice {lo hi : Option Expr} {p2 : Pos} {l h : M (Option Int)} (ho : PE X e (tE X.K X.mg W m)) (hl : PO X lo (tO X.K X.mg W l)) (hh : PO X hi (tO X.K X.mg W h)) : PE X (.Subscript e (.Slice lo hi none p2) pos) (tE X.K X.mg W (eSlice m l h)) :=
  PE.imp (pe_slice (sl_str.or (sl_list.or sl_tup)) ho hl hh) fun σ H Q ⟨F, en, R, hq⟩ => ⟨F, en, R, (opd hq).imp fun F1 H1 en1 r0 _ q v hv fr => by
    obtain ⟨F2, r, R2, p2, n2, hv2, q⟩ := q v hv fr
    refine ⟨F2, en1, R2, (OutOk.ofBind q).imp fun F3 H3 en3 ol _ ⟨R3, p3, q⟩ => ⟨F3, en3, R3, (OutOk.ofBind (q.bind p3)).imp fun F4 H4 en4 oh _ ⟨R4, p4, q⟩ => ?_⟩⟩
    obtain ⟨c, ec, fin⟩ := lift_ok (fun b hb => p2.there b (p3.there b (p4.there b hb))) R4 (q.bind p4)
    cases z : vw en4 r with
    | none => rw [z] at ec; cases ec
    | some d =>
      rw [z] at ec
      have vx := (hv2.keep (en1 := en4) (H1 := H4) (p3.sub.trans p4.sub) n2).vw R4 z
      change fSl d ol oh = some c at ec
      cases d with
      | str u =>
        have vx : v = .str (st u) := vx
        unfold fSl at ec
        by_cases hz : u.length ≤ sizeLine
        · simp only [if_pos hz] at ec; cases ec
          exact .inl ⟨st u, vx, by rw [st_len]; exact hz, by rw [cut_st]; exact fin F4 H4 _ (Grow.refl R4.sub) rfl⟩
        · simp only [if_neg hz] at ec; cases ec
      | lst ds =>
        obtain ⟨a, xs, ev, h1, rr⟩ := vx
        cases ec
        exact .inr (.inl ⟨a, xs, ev, SqL.of h1, fun pp np => fin _ _ _ (grow_own R4.sub np) ⟨pp, _, rfl, np, upd_same, R4.sub.free np, rr.cut ol oh⟩⟩)
      | tup ds =>
        obtain ⟨a, xs, ev, h1, rr⟩ := vx
        unfold fSl at ec
        by_cases hz : ¬ (HT.sIx ds.length 0 ol = 0 ∧ HT.sIx ds.length ds.length oh = ds.length)
        · simp only [if_pos hz] at ec; cases ec
          refine .inr (.inr ⟨a, xs, ev, Same.seqT R4.sub h1, by rw [← rr.length]; exact hz, fun pp np => ?_⟩)
          have g : Grow F4 H4 (upd F4 pp (.tup (cutV xs ol oh))) (upd H4 pp (.tup (cutV xs ol oh))) := grow_frz R4.sub np
          exact fin _ _ _ g ⟨pp, _, rfl, .inl (.inl upd_same), Reps.mono g.sub _ _ (rr.cut ol oh)⟩
        · simp only [if_neg hz] at ec; cases ec
      | _ => cases ec⟩
end
end Fw

/-! Fw11: several names at once. -/
namespace Fw
open PySem PySem.Spec PyProof.Rows L2

section
variable {K : PySem.W.Frag} {mg : Str → Option Value} {W : WX} {F F1 H H1 H0 : Hp} {en en1 : En} {σ : St} {v : V} {fx : Nat} {D : Ends}
/-- a result stays one while something else is reckoned -/
theorem ResOk.stay {r : Res} (p : Post F H (Own en σ) F1 H1 (Own en1 σ)) (h : ResOk K F H en σ v r) : ResOk K F1 H1 en1 σ v r := by
  cases r with
  | dat d => exact Rep.mono p.sub _ _ h
  | slt i => exact h
  | new ds =>
    obtain ⟨a, xs, e, h1, h2, h3, q⟩ := h
    refine ⟨a, xs, e, p.keep _ _ h1 h3, ?_, fun z => ?_, q.mono p.sub⟩
    · cases z : F1 a with
      | none => rfl
      | some u =>
        rcases p.frz a u z with y | y | y
        · rw [h2] at y; cases y
        · rw [h1] at y; cases y
        · exact absurd y h3
    · rcases p.own a z with y | y
      · exact h3 y
      · rw [h1] at y; cases y
/-- of two results one is not the other's new list -/
def Apart (r s : Res) (v w : V) : Prop := (∃ ds, r = .new ds) → (∃ es, s = .new es) → v ≠ w
/-- as data, a new list as it is -/
def toR (r : Res) (en : En) : Out Res := match r with
  | .slt i => (toV (.slt i) en).bind fun d en1 => .ok (.dat d) en1
  | r => .ok r en
theorem toR_ok {r : Res} {k : Res → En → OutS} (p : Post F H (Own en σ) F1 H1 (Own en1 σ)) (R : Rel K F1 H1 en1 σ) (h : ResOk K F1 H1 en1 σ v r) (q : SOk K mg W fx F H en σ D ((toR r en1).then k)) :
    ∃ F2 en2 s, Rel K F2 H1 en2 σ ∧ Post F H (Own en σ) F2 H1 (Own en2 σ) ∧ Post F1 H1 (Own en1 σ) F2 H1 (Own en2 σ) ∧ ResOk K F2 H1 en2 σ v s ∧ (∀ i, s ≠ .slt i) ∧ (∀ ds, s = .new ds → r = .new ds) ∧ SOk K mg W fx F H en σ D (k s en2) := by
  cases r with
  | dat d => exact ⟨F1, en1, .dat d, R, p, .refl, h, (fun _ z => by cases z), (fun _ z => by cases z), q⟩
  | new ds => exact ⟨F1, en1, .new ds, R, p, .refl, h, (fun _ z => by cases z), (fun _ z => z), q⟩
  | slt i =>
    have hv : σ[i]? = some (some v) := h
    have q : SOk K mg W fx F H en σ D (((toV (.slt i) en1).bind fun d en1 => .ok (.dat d) en1).then k) := q
    unfold toV at q
    cases z : en1[i]? with
    | none => simp only [z] at q; exact q.elim
    | some sl =>
      have pp := R.ok i sl _ z hv
      cases sl with
      | un => simp only [z] at q; exact q.elim
      | scr ns => simp only [z] at q; exact q.elim
      | val d =>
        simp only [z] at q
        obtain ⟨v', e, pp⟩ := pp
        cases e
        exact ⟨F1, en1, .dat d, R, p, .refl, pp, (fun _ z => by cases z), (fun _ z => by cases z), q⟩
      | own ds =>
        simp only [z] at q
        obtain ⟨F', R', p', r'⟩ := freeze_slot R z hv
        exact ⟨F', _, .dat ds.frz, R', p.trans p', p', r', (fun _ z => by cases z), (fun _ z => by cases z), q⟩
/-- from a later state: what follows is still told from the start -/
theorem ofThenB {α : Type} {o : Out α} {k : α → En → OutS} (p : Post F H (Own en σ) F1 H1 (Own en1 σ)) (h : SOk K mg W fx F H en σ D (o.then k)) :
    OutOk K mg W F1 H1 en1 σ o fun F2 H2 en2 a => Rel K F2 H2 en2 σ ∧ Post F1 H1 (Own en1 σ) F2 H2 (Own en2 σ) ∧ Post F H (Own en σ) F2 H2 (Own en2 σ) ∧ SOk K mg W fx F H en σ D (k a en2) := by
  cases o with
  | ok a en2 => exact fun F2 H2 R q => ⟨R, q, p.trans q, h⟩
  | exc c d en2 => exact fun cls dx F2 H2 R q x => h cls dx σ F2 H2 R (p.trans q) rfl x
  | stuck => exact h
/-- data or a new list into a slot, then what follows -/
theorem put_then {A0 : Addr → Prop} {F0 : Hp} {i : Nat} {s : Res} (R : Rel K F H en σ) (h : ResOk K F H en σ v s) (fr : Fresh H0 v s) (ns : ∀ i, s ≠ .slt i) (p : Post F0 H0 A0 F H (Own en σ)) :
    ∃ sl, putR i s en = .nx (en.set i sl) ∧ Rel K F H (en.set i sl) (σ.set i (some v)) ∧ Post F0 H0 A0 F H (Own (en.set i sl) (σ.set i (some v))) ∧ ∀ b, Own (en.set i sl) (σ.set i (some v)) b → Own en σ b ∨ ((∃ ds, s = .new ds) ∧ v = .ref b) := by
  cases s with
  | dat d =>
    obtain ⟨R2, p2⟩ := store_val (i := i) R h
    exact ⟨_, rfl, R2, p.trans p2, fun b z => .inl (own_set_val z)⟩
  | new ds =>
    obtain ⟨a, xs, e, h1, h2, h3, g⟩ := h
    subst e
    obtain ⟨R2, p2⟩ := store_own (i := i) p R h1 h2 h3 (fr a rfl) g
    refine ⟨_, rfl, R2, p2, fun b ⟨j, fs, e1, e2⟩ => ?_⟩
    by_cases hj : j = i
    · subst hj
      rw [List.getElem?_set] at e2
      simp only [if_pos trivial] at e2
      split at e2
      · cases e2; exact .inr ⟨⟨_, rfl⟩, rfl⟩
      · cases e2
    · rw [List.getElem?_set_ne (Ne.symm hj)] at e1 e2
      exact .inl ⟨j, fs, e1, e2⟩
  | slt j => exact absurd rfl (ns j)
end

section
variable {X : Cx} {W : WX} {fx : Nat} {a b c : Expr} {m1 m2 m3 : M Res} {pos px py pz pt : Pos} {x y z : Str} {kt k2 : Nat} {pt2 : Pos}
def sPar2 (i j : Nat) (m1 m2 : M Res) : MS := fun en => (m1 en).then fun r1 en1 => (m2 en1).then fun r2 en2 => (toR r1 en2).then fun s1 en3 => (toR r2 en3).then fun s2 en4 => (putR i s1 en4).seq (putR j s2)
def sPar3 (i j l : Nat) (m1 m2 m3 : M Res) : MS := fun en => (m1 en).then fun r1 en1 => (m2 en1).then fun r2 en2 => (m3 en2).then fun r3 en3 => (toR r1 en3).then fun s1 en4 => (toR r2 en4).then fun s2 en5 => (toR r3 en5).then fun s3 en6 =>
  (putR i s1 en6).seq fun en7 => (putR j s2 en7).seq (putR l s3)
theorem fresh_mono {H0 H : Hp} {v : V} {r : Res} (t : ∀ b, H b = none → H0 b = none) (h : Fresh H v r) : Fresh H0 v r := by
  cases r with
  | new ds => exact fun a e => t a (h a e)
  | _ => trivial
theorem new_ne {K : PySem.W.Frag} {F H F' H' : Hp} {en en' : En} {σ σ' : St} {v w : V} {r s : Res} (h : ResOk K F H en σ v r) (fr : Fresh H w s) : Apart r s v w := by
  rintro ⟨ds, rfl⟩ ⟨es, rfl⟩ e
  obtain ⟨a, xs, ev, h1, _⟩ := h
  have := fr a (by rw [← e, ev])
  rw [h1] at this; cases this
theorem fresh_s {H : Hp} {v : V} {r s : Res} (e : ∀ ds, s = .new ds → r = .new ds) (h : Fresh H v r) : Fresh H v s := by
  cases s with
  | new ds => rw [e ds rfl] at h; exact h
  | _ => trivial
theorem newIs {K : PySem.W.Frag} {F H : Hp} {en : En} {σ : St} {v : V} {s : Res} (h : ResOk K F H en σ v s) (n : ¬ (∃ ds, s = .new ds)) (Rp : ∀ i, s ≠ .slt i) : ∃ d, s = .dat d := by
  cases s with
  | dat d => exact ⟨d, rfl⟩
  | new ds => exact absurd ⟨ds, rfl⟩ n
  | slt i => exact absurd rfl (Rp i)
/-- a result in the environment after another one was stored -/
theorem ResOk.afterPut {K : PySem.W.Frag} {F H : Hp} {en en' : En} {σ σ' : St} {v w : V} {r s : Res} (h : ResOk K F H en σ w s) (ns : ∀ i, s ≠ .slt i) (ap : Apart r s v w) (o : ∀ b, Own en' σ' b → Own en σ b ∨ ((∃ ds, r = .new ds) ∧ v = .ref b)) : ResOk K F H en' σ' w s := by
  cases s with
  | dat d => exact h
  | new ds =>
    obtain ⟨a, xs, e, h1, h2, h3, q⟩ := h
    refine ⟨a, xs, e, h1, h2, fun z => ?_, q⟩
    rcases o a z with y | ⟨y, ev⟩
    · exact h3 y
    · exact ap y ⟨ds, rfl⟩ (by rw [ev, e])
  | slt i => exact absurd rfl (ns i)
theorem rs_par2 (i j : Nat) (hf : fx ≤ i ∧ fx ≤ j) (hc : X.calm = true) (hN : X.N.Nodup) (ha : PE X a (tE X.K X.mg W m1)) (hb : PE X b (tE X.K X.mg W m2)) (hij : i ≠ j := by decide) (hi : X.N[i]? = some x := by rfl) (hj : X.N[j]? = some y := by rfl)
    (hx : X.env.scope.names.lookup x = some .local := by rfl) (hy : X.env.scope.names.lookup y = some .local := by rfl) (h1 : starEach [a, b] X.env = (false, eval a X.env) :: starEach [b] X.env := by rfl) (h2 : starEach [b] X.env = [(false, eval b X.env)] := by rfl)
    (hw : swappedStores [.Tuple [.Name x px, .Name y py] kt pt] (.Tuple [a, b] k2 pt2) X.env = pure (some [x, y]) := by rfl)
    (hs : swapsWithSole [.Tuple [.Name x px, .Name y py] kt pt] (.Tuple [a, b] k2 pt2) pos.line X.env = pure false := by rfl) :
    PS X (.Assign [.Tuple [.Name x px, .Name y py] kt pt] (.Tuple [a, b] k2 pt2) pos) (tS X.K X.mg W fx (sPar2 i j m1 m2)) :=
  PS.imp (ps_par hc hN hi hj hij hx hy (pa_cons ha (pa_cons hb pa_nil h2) h1) hw hs) fun D σ H ⟨F, en, R, h⟩ => ⟨F, en, R, h.ofThen.imp fun F1 H1 en1 r1 _ ⟨R1, p1, q⟩ v1 hv1 fr1 => ⟨F1, en1, R1, (ofThenB p1 q).imp fun F2 H2 en2 r2 _ ⟨R2, p2, p02, q⟩ v2 hv2 fr2 => by
    have ap := new_ne (F' := F) (H' := H) (en' := en) (σ' := σ) (s := r2) (w := v2) hv1 fr2
    obtain ⟨F3, en3, s1, R3, p03, p3, hs1, n1, e1, q⟩ := toR_ok p02 R2 (hv1.stay p2) q
    obtain ⟨F4, en4, s2, R4, p04, p4, hs2, n2, e2, q⟩ := toR_ok p03 R3 (hv2.stay p3) q
    have f2 : Fresh H v2 s2 := fresh_s e2 (fresh_mono p1.there fr2)
    have ap' : Apart s1 s2 v1 v2 := fun ⟨ds, z1⟩ ⟨es, z2⟩ => ap ⟨ds, e1 ds z1⟩ ⟨es, e2 es z2⟩
    obtain ⟨sl, eq1, R5, p5, o5⟩ := put_then (i := i) R4 (hs1.stay p4) (fresh_s e1 fr1) n1 p04
    obtain ⟨sl2, eq2, R6, p6, _⟩ := put_then (i := j) R5 (hs2.afterPut n2 ap' o5) f2 n2 p5
    rw [eq1] at q
    change SOk X.K X.mg W fx F H en σ D (putR j s2 _) at q
    rw [eq2] at q
    exact ⟨v1, v2, rfl, q _ _ _ R6 p6 ((take_set hf.2).trans (take_set hf.1))⟩⟩⟩
theorem rs_par3 (i j l : Nat) (hf : fx ≤ i ∧ fx ≤ j ∧ fx ≤ l) (hc : X.calm = true) (hN : X.N.Nodup) (ha : PE X a (tE X.K X.mg W m1)) (hb : PE X b (tE X.K X.mg W m2)) (hcc : PE X c (tE X.K X.mg W m3)) (hij : i ≠ j := by decide) (hil : i ≠ l := by decide) (hjl : j ≠ l := by decide)
    (hi : X.N[i]? = some x := by rfl) (hj : X.N[j]? = some y := by rfl) (hl : X.N[l]? = some z := by rfl)
    (hx : X.env.scope.names.lookup x = some .local := by rfl) (hy : X.env.scope.names.lookup y = some .local := by rfl) (hz : X.env.scope.names.lookup z = some .local := by rfl)
    (h1 : starEach [a, b, c] X.env = (false, eval a X.env) :: starEach [b, c] X.env := by rfl) (h2 : starEach [b, c] X.env = (false, eval b X.env) :: starEach [c] X.env := by rfl) (h3 : starEach [c] X.env = [(false, eval c X.env)] := by rfl)
    (hw : swappedStores [.Tuple [.Name x px, .Name y py, .Name z pz] kt pt] (.Tuple [a, b, c] k2 pt2) X.env = pure (some [x, y, z]) := by rfl)
    (hs : swapsWithSole [.Tuple [.Name x px, .Name y py, .Name z pz] kt pt] (.Tuple [a, b, c] k2 pt2) pos.line X.env = pure false := by rfl) :
    PS X (.Assign [.Tuple [.Name x px, .Name y py, .Name z pz] kt pt] (.Tuple [a, b, c] k2 pt2) pos) (tS X.K X.mg W fx (sPar3 i j l m1 m2 m3)) :=
  PS.imp (ps_par3 hc hN hi hj hl hij hil hjl hx hy hz (pa_cons ha (pa_cons hb (pa_cons hcc pa_nil h3) h2) h1) hw hs) fun D σ H ⟨F, en, R, h⟩ => ⟨F, en, R, h.ofThen.imp fun F1 H1 en1 r1 _ ⟨R1, p1, q⟩ v1 hv1 fr1 => ⟨F1, en1, R1, (ofThenB p1 q).imp fun F2 H2 en2 r2 _ ⟨R2, p2, p02, q⟩ v2 hv2 fr2 =>
    ⟨F2, en2, R2, (ofThenB p02 q).imp fun Fc Hc enc r3 _ ⟨Rc, pc, p0c, q⟩ v3 hv3 fr3 => by
    have ap := new_ne (F' := F) (H' := H) (en' := en) (σ' := σ) (s := r2) (w := v2) hv1 fr2
    have ap13 := new_ne (F' := F) (H' := H) (en' := en) (σ' := σ) (s := r3) (w := v3) (hv1.stay p2) fr3
    have ap23 := new_ne (F' := F) (H' := H) (en' := en) (σ' := σ) (s := r3) (w := v3) hv2 fr3
    obtain ⟨F3, en3, s1, R3, p03, p3, hs1, n1, e1, q⟩ := toR_ok p0c Rc ((hv1.stay p2).stay pc) q
    obtain ⟨F4, en4, s2, R4, p04, p4, hs2, n2, e2, q⟩ := toR_ok p03 R3 ((hv2.stay pc).stay p3) q
    obtain ⟨F5, en5, s3, R5, p05, p5, hs3, n3, e3, q⟩ := toR_ok p04 R4 ((hv3.stay p3).stay p4) q
    have f2 : Fresh H v2 s2 := fresh_s e2 (fresh_mono p1.there fr2)
    have f3 : Fresh H v3 s3 := fresh_s e3 (fresh_mono p02.there fr3)
    have a12 : Apart s1 s2 v1 v2 := fun ⟨ds, z1⟩ ⟨es, z2⟩ => ap ⟨ds, e1 ds z1⟩ ⟨es, e2 es z2⟩
    have a13 : Apart s1 s3 v1 v3 := fun ⟨ds, z1⟩ ⟨es, z2⟩ => ap13 ⟨ds, e1 ds z1⟩ ⟨es, e3 es z2⟩
    have a23 : Apart s2 s3 v2 v3 := fun ⟨ds, z1⟩ ⟨es, z2⟩ => ap23 ⟨ds, e2 ds z1⟩ ⟨es, e3 es z2⟩
    obtain ⟨sl, eq1, R6, p6, o6⟩ := put_then (i := i) R5 ((hs1.stay p4).stay p5) (fresh_s e1 fr1) n1 p05
    obtain ⟨sl2, eq2, R7, p7, o7⟩ := put_then (i := j) R6 ((hs2.stay p5).afterPut n2 a12 o6) f2 n2 p6
    obtain ⟨sl3, eq3, R8, p8, _⟩ := put_then (i := l) R7 ((hs3.afterPut n3 a13 o6).afterPut n3 a23 o7) f3 n3 p7
    rw [eq1] at q
    change SOk X.K X.mg W fx F H en σ D ((putR j s2 _).seq (putR l s3)) at q
    rw [eq2] at q
    change SOk X.K X.mg W fx F H en σ D (putR l s3 _) at q
    rw [eq3] at q
    exact ⟨v1, v2, v3, rfl, q _ _ _ R8 p8 (((take_set hf.2.2).trans (take_set hf.2.1)).trans (take_set hf.1))⟩⟩⟩⟩
end
end Fw

/-! Fw12: the module's facts, the law. -/
namespace Fw
open PySem PySem.Spec PyProof.Rows L2

structure FnAt (K : PySem.W.Frag) (mg : Str → Option Value) (name : Str) (st : Stmt) (ps : List Str) (f : Addr) (fd : FuncData) : Prop where
  F : Fun K name name st f fd
  g : mg name = some (.ref f)
  b : Binds K fd ps []
theorem FnAt.mk' {K : PySem.W.Frag} {mg : Str → Option Value} {x : Str} {st : Stmt} {f : Addr} {ps : List Str} {oc : Value} {od an : Option Addr} {osl : Array (Option Value)} {kV doc pm cdv ct : Value} (l : K.lookup f = some ⟨oc, od, .func (PySem.W.fnOf x x (defArgs st) (defBody st) (defScope st) .none kV doc pm an cdv ct), osl⟩)
    (c : PySem.W.codeIn K cdv x = true) (k : PySem.W.keepIn K (.ref f) = true) (g : mg x = some (.ref f))
    (h : ∀ (kV doc pm : Value) (an : Option Addr) (cdv ct : Value) (us : List Value), us.length = ps.length → bindArgs (PySem.W.fnOf x x (defArgs st) (defBody st) (defScope st) .none kV doc pm an cdv ct) ⟨us, []⟩ = pure (ps.zip us)) :
    FnAt K mg x st ps f (PySem.W.fnOf x x (defArgs st) (defBody st) (defScope st) .none kV doc pm an cdv ct) :=
  let F := fun_mk l c k
  ⟨F, g, F.binds h⟩
def pick {α : Type} (d : α) (l : List (Nat × α)) (i : Nat) : α := (l.lookup i).getD d

section
variable {X : Cx} {W : WX} {x : Str} {pos : Pos}
theorem re_gint {i : Int} (hm : ∃ t, X.mg x = some (.int i t)) (hg : Gl X x := by rfl) (hd : (x == ("__debug__" : Str)) = false := by decide) : PE X (.Name x pos) (tE X.K X.mg W (eDat (.int i))) := by
  obtain ⟨t, hm⟩ := hm
  exact re_gdat hg hm (v := .int i) ⟨t, rfl⟩ (fun _ _ => rfl) hd
theorem re_gstr {z : Wd} (hm : ∃ t, X.mg x = some (.str (st z) t)) (hg : Gl X x := by rfl) (hd : (x == ("__debug__" : Str)) = false := by decide) : PE X (.Name x pos) (tE X.K X.mg W (eDat (.str z))) := by
  obtain ⟨t, hm⟩ := hm
  exact re_gdat hg hm (v := .str (st z)) ⟨t, rfl⟩ (fun _ _ => rfl) hd
end
section
variable {P : Program} {w : World} {K : PySem.W.Frag} {mg : Str → Option Value} {base : Heap}
theorem FnOk.stuck0 {k n : Nat} {f : Addr} {fd : FuncData} {ps : List Str} (hn : n = ps.length) : FnOk P w K mg base (L2.CX P w) k f fd ps (spF K mg n fun _ => .stuck) :=
  ⟨fun vs H Q E ⟨_, _, _, _, _, z⟩ => z.elim, fun A outer s H args us vs Q E _ _ _ _ ⟨_, _, _, _, _, z⟩ => z.elim⟩
/-- the law's promise -/
def spL (K : PySem.W.Frag) (n : Nat) (m : MS) : Sp := fun vs H Q _ => ∃ a ns, vs = [.ref a] ∧ SqL K H a (ns.map V.int) ∧ (∃ en, m (.scr ns :: List.replicate (n - 1) .un) = .ret (.dat (.bl true)) en) ∧ ∀ H', Q (.bl true) H'
theorem okL {x qual : Str} {st : Stmt} {f : Addr} {fd : FuncData} {N : List Str} {p : Str} {k : Nat} {m : MS} (F : Fun K x qual st f fd) (S : FnScope N [p] (defScope st)) (hN : N.length ≠ 0 := by decide)
    (hbody : ∀ (cdv : Value) (A : Around) (outer : List Env) (s : Shared) (H : Hp) (E : XK),
      Ct (cxOf (L2.CX P w) P w K mg base N qual (defScope st) f cdv A outer s H E) (fun cls d _ H => E cls d H) k →
      PSs (cxOf (L2.CX P w) P w K mg base N qual (defScope st) f cdv A outer s H E) (defBody st) (tS K mg (fun cls d _ H => E cls d H) 0 m)) :
    FnOk P w K mg base (L2.CX P w) (k + 1) f fd [p] (spL K N.length m) := by
  refine F.okX S (fun vs H Q E ⟨a, ns, e, _⟩ => by rw [e]; rfl) fun cdv A outer s H vs Q E hr ⟨a, ns, e, hS, ⟨en, em⟩, q⟩ => ?_
  subst e
  refine ⟨_, hbody cdv A outer s H E ⟨rfl, S.nd, takes_of rfl rfl rfl rfl, hr, passes_of rfl⟩, H, .scr ns :: List.replicate (N.length - 1) .un, ⟨Same.refl _, ?_, fun i s o e1 e2 => ?_, fun i j ds es a e1 => ?_⟩, ?_⟩
  · cases N with
    | nil => exact absurd rfl hN
    | cons y N => simp [L2.start]
  · cases N with
    | nil => exact absurd rfl hN
    | cons y N =>
      cases i with
      | zero =>
        have e1 : some (Sl.scr ns) = some s := e1
        cases e1
        have e2 : some (some (V.ref a)) = some o := e2
        cases e2
        exact ⟨a, rfl, hS⟩
      | succ i =>
        have e1 : (List.replicate ((y :: N).length - 1) Sl.un)[i]? = some s := e1
        rw [List.getElem?_replicate] at e1
        split at e1
        · cases e1; trivial
        · cases e1
  · cases i with
    | zero => cases e1
    | succ i =>
      have e1 : (List.replicate (N.length - 1) Sl.un)[i]? = some (.own ds) := e1
      rw [List.getElem?_replicate] at e1
      split at e1 <;> cases e1
  · rw [em]
    intro v σ' F' H' R' p' _ r
    cases (show v = .bl true from r)
    exact q H'
theorem cx_false {H : Hp} {s : Shared} {e : Value} {s' : Shared} {outer : List Env} (h : L2.CX P w outer H s (fun _ _ _ => False) e s') : False := by
  obtain ⟨_, _, _, _, _, _, _, _, _, _, _, _, z⟩ := h
  exact z
end
theorem spL_of {K : PySem.W.Frag} {H : Hp} {a : Addr} {ns : List Int} {n : Nat} {m : MS} {E : XK} (hS : SqL K H a (ns.map V.int)) (h : ∃ en, m (.scr ns :: List.replicate (n - 1) .un) = .ret (.dat (.bl true)) en) :
    spL K n m [.ref a] H (fun v _ => v = .bl true) E := ⟨a, ns, rfl, hS, h, fun _ => rfl⟩
end Fw

/-! Fx1: the __init__ that says super().__init__(value) and keeps value, run on a new exception. -/
namespace Fw
open PySem PySem.W PySem.Calls PyProof.Rows

/-- what the class at C must say -/
structure XcC (K : Frag) (D C : Addr) : Prop where
  ox : L2.OexC K C
  su : ks_superIn K C D "__init__" = some (some (.builtin "ValueError.__init__"))
  sv : subIn K (.ref C) (.type "ValueError") = some true
  sd : mroIn K C (.ref D) = some true
  nv : findIn K (.ref C) "value" = some none
/-- what the def's text says -/
structure XcF (prog : Program) (K : Frag) (f cc cda D : Addr) (qual : Str) (params : Arguments) (body : List Stmt) (scope : Scope) (kV doc pm ct : Value) (an : Option Addr) : Prop where
  at_ : ∃ oc od osl, K.lookup f = some ⟨oc, od, .func (ksFn "__init__" qual params body scope .none kV doc pm an (.ref cda) ct cc), osl⟩
  code : codeIn K (.ref cda) qual = true
  file : ∃ ccl cdd vs ccs file tf, K.lookup cda = some ⟨ccl, cdd, .fields vs, ccs⟩ ∧ vs[2]? = some (.str file tf) ∧ ((prog.main.file : Str) == file) = true
  cell : ∃ cl cld csl, K.lookup cc = some ⟨cl, cld, .cell (some (.ref D)), csl⟩
  cls : ∃ cd, clsIn K D = some cd
  any : nsIn K cStatics "thirdparty.any" = some none
  top : (prog.main.scope.names.lookup ("super" : Str)).isSome = false

abbrev xBody (p0 p1 p2 p3 p4 p5 p6 p7 p8 p9 : Pos) : List Stmt :=
  [.Expr (.Call (.Attribute (.Call (.Name "super" p0) [] [] p1) "__init__" p2) [.Name "value" p3] [] p4) p5, .Assign [.Attribute (.Name "self" p6) "value" p7] (.Name "value" p8) p9]
abbrev xScope (nms : List (Str × NameKind)) : Scope := { kind := .function, names := nms, isGenerator := false, isCoroutine := false, more := [] }
/-- what depends on where the text stands -/
structure XcP (f cc cda : Addr) (qual : Str) (nms : List (Str × NameKind)) (pl : Sem Bool) (p0 p1 p2 p3 p4 p5 p6 p7 p8 p9 : Pos) : Prop where
  ev : ∀ L : Addr, eval (.Call (.Attribute (.Call (.Name "super" p0) [] [] p1) "__init__" p2) [.Name "value" p3] [] p4) (ksEnv qual (xScope nms) L f (.ref cda) cc) = (do
      let ov ← attributeBase (.Call (.Name "super" p0) [] [] p1) "__init__" (ksEnv qual (xScope nms) L f (.ref cda) cc) (eval (.Call (.Name "super" p0) [] [] p1) (ksEnv qual (xScope nms) L f (.ref cda) cc))
      standAt p2.atName
      let (f', first) ← holding [ov] (getMethod ov "__init__" pl)
      callWith p4 f' first (backTo p4 (starEach [.Name "value" p3] (ksEnv qual (xScope nms) L f (.ref cda) cc))) [])
  s1 : ∀ L : Addr, swapsWith (.Call (.Attribute (.Call (.Name "super" p0) [] [] p1) "__init__" p2) [.Name "value" p3] [] p4) none p5.line (ksEnv qual (xScope nms) L f (.ref cda) cc) = pure false
  s2 : ∀ L : Addr, swapsWith (.Name "value" p8) (some (.Attribute (.Name "self" p6) "value" p7)) p9.line (ksEnv qual (xScope nms) L f (.ref cda) cc) = pure false

section
variable {prog : Program} {w : World} {A : Around} {s : Shared} {K : Frag} {base : Heap} {mg : Str → Option Value} {f cc cda D C e t0 : Addr} {qual : Str} {params : Arguments} {nms : List (Str × NameKind)} {pl : Sem Bool} {p0 p1 p2 p3 p4 p5 p6 p7 p8 p9 : Pos} {kV doc pm ct : Value} {an : Option Addr} {u : Value} {args : Args} {R : Result → Shared → Prop}
theorem init_run (Xf : XcF prog K f cc cda D qual params (xBody p0 p1 p2 p3 p4 p5 p6 p7 p8 p9) (xScope nms) kV doc pm ct an) (T : XcC K D C) (Xp : XcP f cc cda qual nms pl p0 p1 p2 p3 p4 p5 p6 p7 p8 p9)
    (Mo : L2.Mod K mg base) (hbs : ∀ b o, base.get? b = some o → s.heap.get? b = some o) (hsup : mg "super" = none)
    (he : s.heap.get? e = some (HandSPX.excO C t0)) (heb : base.get? e = none) (hroom : A.depth < recursionLimit) (hbind : BindsTo s (ksFn "__init__" qual params (xBody p0 p1 p2 p3 p4 p5 p6 p7 p8 p9) (xScope nms) .none kV doc pm an (.ref cda) ct cc) args [("self", .ref e), ("value", u)])
    (hcell : ∀ x ∈ nms, x.2 ≠ .cell) (hls : nms.lookup ("self" : Str) = some .local) (hlv : nms.lookup ("value" : Str) = some .local)
    (hsu : nms.lookup ("super" : Str) = some .globalImplicit) (hkc : nms.lookup ("__class__" : Str) = some .free)
    (hpar : ∃ ar, (params.posonlyargs ++ params.args).head? = some ar ∧ ar.arg = "self")
    (h : ∀ h' tk' t1 dx, (∀ b o, b ≠ e → s.heap.get? b = some o → h'.get? b = some o) → s.heap.objs.size ≤ dx → dx ≠ e → h'.get? e = some { cls := .ref C, dict := some dx, data := .fields #[.ref t1, .none, .none, .none, .bool false, .none] } →
      h'.Ns1 dx (fun y => if y = "value" then some u else none) → R (.ok (.ret .none)) { s with heap := h', toks := tk' }) :
    codeAny (model prog w) A (.call (.ref f) args) R s := by
  obtain ⟨oc, od, osl, hf⟩ := Xf.at_
  obtain ⟨ccl, cdd, vs, ccs, file, tf, hcode, hvs, hfile⟩ := Xf.file
  obtain ⟨cl, cld, csl, hcel⟩ := Xf.cell
  obtain ⟨cdD, hD⟩ := Xf.cls
  obtain ⟨ar, hp, hpa⟩ := hpar
  obtain ⟨nm, q, N, bs, bm, sn, sub, ab, col, dd, k0, k1, k2, k3, k5, hC, hbm⟩ := T.ox.cls
  have hcl : clsIn K C = some { name := nm, bases := bs, mro := .ref C :: bm, ns := N, qualname := q, hasDict := true, slotNames := sn, subclasses := sub, abstract := ab, collection := col, hasDel := false } := by unfold clsIn; rw [hC] <;> rfl
  have KI : K.In base := Mo.kin
  have X0 : K.In s.heap := KI.keeps hbs
  have inD : ∀ {h : Heap}, K.In h → ∃ oD, h.get? D = some oD ∧ oD.data = .cls cdD := fun {h} X => by
    unfold clsIn at hD
    split at hD
    · rename_i c d cd' sl ho
      cases hD
      exact ⟨_, X _ _ ho, rfl⟩
    · cases hD
  refine ks_codeAny_call_defAt hroom (X0 _ _ hf) rfl (Mo.nolimit.keeps hbs) (codeRec_of X0 Xf.code) rfl hbind hcell (fun x hx => ?_) (fun h₁ hns hk₁ => ?_) rfl rfl rfl
  · rcases List.mem_cons.mp hx with rfl | hx
    · exact hls
    · rcases List.mem_cons.mp hx with rfl | hx
      · exact hlv
      · cases hx
  have kb₁ : ∀ b o, base.get? b = some o → h₁.get? b = some o := fun b o z => hk₁ b o (hbs b o z)
  have X1 : K.In h₁ := KI.keeps kb₁
  have he₁ := hk₁ _ _ he
  obtain ⟨oD, hD1, hD2⟩ := inD X1
  obtain ⟨mb, hmb, hbb⟩ := Mo.blt
  refine ks_wpAt_execs_cons (ks_wpAt_Expr_any (ks_wpAt_MethodCall ?_ (Xp.ev _)) rfl (Xp.s1 _))
  refine ks_wpAt_super_base (env := ksEnv qual (xScope nms) s.heap.objs.size f (.ref cda) cc) hsu hkc (by decide) rfl (X1 _ _ hf) rfl hp rfl (X1 _ _ hcode) rfl hvs hfile Xf.top ?_
  refine ks_loadName_global rfl hsu (loadGlobal_builtin (env := ksEnv qual (xScope nms) s.heap.objs.size f (.ref cda) cc) (Mo.glob.keeps kb₁) hsup (hmb.keeps kb₁) ((hbb _ (by decide +kernel)).trans (by decide +kernel)) ⟨rfl, ?_⟩)
  refine wpAny_loadName_free rfl hkc rfl ⟨_, X1 _ _ hcel, rfl⟩ ?_
  refine wpAny_loadName_local rfl (by rw [hpa]; exact hls) hns (by rw [hpa]; rfl) ?_
  refine ks_wpAny_isType_cls hD1 hD2 ⟨rfl, ?_⟩
  refine ks_wpAny_call_super hD1 hD2 he₁ rfl (fun c z => by cases z) (looks_mroIn X1 T.sd) (fun h₂ hso k₂ => ?_)
  have k20 : ∀ b o, s.heap.get? b = some o → h₂.get? b = some o := fun b o z => k₂ b o (hk₁ b o z)
  have X2 : K.In h₂ := KI.keeps fun b o z => k20 b o (hbs b o z)
  have he₂ := k₂ _ _ he₁
  have I2 : InstAt h₂ e (HandSPX.excO C t0) C none := ⟨he₂, rfl, rfl, trivial⟩
  have hI : Looks (model prog w) h₂ (isInstance (.ref e) (.type "ValueError")) true := I2.type.andThen (looks_subIn X2 T.sv)
  have hal := T.su
  unfold ks_superIn at hal
  rw [hcl] at hal
  have hLk : Looks (model prog w) h₂ (mroOf (.ref C)) (.ref C :: bm) := fun A Q E s k q => wpAny_bind ((looks_clsIn X2 hcl) A _ E s k (wpAny_pure q))
  refine kxs_getMethod kxs_ValueError hso (looks_opaque X2 Xf.any) (l₀ := .ref C :: bm) hLk rfl X2 hal hI (ks_ne X2 I2 hcl) (by decide) ?_
  have hu : (h₂.push (kxs_mw "ValueError.__init__" e)).get? h₂.objs.size = some (kxs_mw "ValueError.__init__" e) := Heap.get?_push_at rfl rfl
  have k₃ : ∀ b o, s.heap.get? b = some o → (h₂.push (kxs_mw "ValueError.__init__" e)).get? b = some o := fun b o z => Heap.get?_push_of_some _ (k20 b o z)
  have kns : ∀ b o, h₁.get? b = some o → (h₂.push (kxs_mw "ValueError.__init__" e)).get? b = some o := fun b o z => Heap.get?_push_of_some _ (k₂ b o z)
  have hns₃ := hns.keeps kns
  have X3 : K.In (h₂.push (kxs_mw "ValueError.__init__" e)) := KI.keeps fun b o z => k₃ b o (hbs b o z)
  refine kxs_callWith (i := "ValueError.__init__") (x := e) rfl (evalArgs_plain ?_)
  have FB := F.excBase_ValueError
  have FC := FB.toExcCallFacts
  refine Calls.spliced_cons (wpAny_Name (wpAny_loadName_local rfl hlv hns₃ rfl ?_))
  refine Calls.spliced_nil ⟨hu, wpAny_call (codeAny_of_tree ?_)⟩
  have hC₃ := X3 _ _ hC
  have he₃ := k₃ _ _ he
  show wpAny _ _ (callAny (.ref h₂.objs.size) ⟨[u], []⟩) _ _ _
  simp only [callAny]; refine wpAny_bind (wpAny_load hu ?_)
  simp only [kxs_mw, show ((Value.type "method-wrapper" == Value.type "method") || (Value.type "method-wrapper" == Value.type "builtin_function_or_method") || (Value.type "method-wrapper" == Value.type "method-wrapper")) = true by decide, if_true]
  refine KFB.if_so (by decide) (wpAny_bind (check_bound_init FC hC₃ he₃ rfl (wpAny_bind (wpAny_pure (wpAny_pure ⟨plainId_quiet FB.init.plain _, codeAny_builtin FB.initEntry ?_⟩)))))
  refine exc_init_tree (cls := .ref C) (t0 := t0) (dv := none) (c2 := .none) (c3 := .none) (b4 := .bool false) he₃ (by rw [sizeLine_eq]; exact Nat.le_of_ble_eq_true rfl) (fun h₄ k₄ he₄ _ => ?_)
  have kk : ∀ b o, b ≠ e → s.heap.get? b = some o → h₄.get? b = some o := fun b o n z => k₄ b o n (k₃ b o z)
  have neb : ∀ b o, base.get? b = some o → b ≠ e := fun b o z q => by rw [q, heb] at z; cases z
  have X4 : K.In h₄ := KI.keeps fun b o z => kk b o (neb b o z) (hbs b o z)
  have hns₄ : h₄.Ns s.heap.objs.size fun x => List.lookup x [(Str.ofString "self", Value.ref e), (Str.ofString "value", u)].reverse := by
    obtain ⟨oL, es, ep, hL, r⟩ := hns₃
    exact ⟨oL, es, ep, k₄ _ _ (Nat.ne_of_gt (Heap.lt_size he)) hL, r⟩
  refine ks_wpAt_execs_cons (ks_wpAt_Assign_Attr ?_ (Xp.s2 _))
  refine wpAt_of_wpAny (wpAny_Name (wpAny_loadName_local rfl hlv hns₄ rfl (wpAny_Name (wpAny_loadName_local rfl hls hns₄ rfl ?_))))
  refine set_plain X4 (ox := excRec (.ref C) (h₂.push (kxs_mw "ValueError.__init__" e)).objs.size none .none .none (.bool false)) (od := none) ⟨he₄, rfl, rfl, trivial⟩ T.ox.sa ?_
  refine HandSPX.exc_osa X4 he₄ hcl (show HandSPX.refsVE (.ref C :: bm) = true from hbm) rfl T.nv (fun h₅ tk dx k₅ hdx dne he₅ hn₅ => ?_)
  have hsz : s.heap.objs.size ≤ dx := Nat.le_trans (Nat.le_of_lt hns₄.lt) hdx
  refine wpAt_of_wpAny (wpAny_execs_nil (h h₅ _ _ dx (fun b o n z => k₅ b o n (kk b o n z)) hsz dne he₅ hn₅))
end
end Fw

/-! Fx2: the promise of __init__. -/
namespace Fw
open PySem PySem.Spec PyProof.Rows L2

def spI (K : PySem.W.Frag) (D : Addr) : Sp := fun vs H Q _ => ∃ a C v, vs = [.ref a, v] ∧ XcC K D C ∧ H a = some (exo a C none) ∧
  ∀ dx, H dx = none → dx ≠ a → Q .non (upd (upd H dx (exd dx [("value", v)])) a (exo a C (some dx)))

section
variable {P : Program} {w : World} {K : PySem.W.Frag} {mg : Str → Option Value} {base : Heap} {f cc cda D : Addr} {qual : Str} {params : Arguments} {nms : List (Str × NameKind)} {pl : Sem Bool} {p0 p1 p2 p3 p4 p5 p6 p7 p8 p9 : Pos} {kV doc pm ct : Value} {an : Option Addr}
theorem init_ok {k : Nat} {CX : CXT} (Xf : XcF P K f cc cda D qual params (xBody p0 p1 p2 p3 p4 p5 p6 p7 p8 p9) (xScope nms) kV doc pm ct an) (Xp : XcP f cc cda qual nms pl p0 p1 p2 p3 p4 p5 p6 p7 p8 p9) (hsup : mg "super" = none)
    (hcell : ∀ x ∈ nms, x.2 ≠ .cell) (hls : nms.lookup ("self" : Str) = some .local) (hlv : nms.lookup ("value" : Str) = some .local)
    (hsu : nms.lookup ("super" : Str) = some .globalImplicit) (hkc : nms.lookup ("__class__" : Str) = some .free) (hpar : ∃ ar, (params.posonlyargs ++ params.args).head? = some ar ∧ ar.arg = "self") :
    FnOk P w K mg base CX (k + 1) f (PySem.W.ksFn "__init__" qual params (xBody p0 p1 p2 p3 p4 p5 p6 p7 p8 p9) (xScope nms) .none kV doc pm an (.ref cda) ct cc) ["self", "value"] (spI K D) := by
  refine ⟨fun vs H Q E ⟨a, C, v, e, _⟩ => by rw [e]; rfl, fun A outer s H args us vs Q E hr e0 hb hv ⟨a, C, v, ev, T, ea, q⟩ => ?_⟩
  subst ev
  cases hv with
  | cons ra hv =>
  cases hv with
  | @cons _ u _ us rv hv =>
  cases hv
  cases ra
  obtain ⟨t0, he⟩ := exo_at e0.hok ea
  have heb : base.get? a = none := by
    cases z : base.get? a with
    | none => rfl
    | some o => rw [(e0.bs a o z).2] at ea; cases ea
  refine init_run Xf T Xp e0.mod (fun b o z => (e0.bs b o z).1) hsup he heb (by have := hr.dp; omega) hb hcell hls hlv hsu hkc hpar (fun h' tk' t1 dx k hdx dne hx hn => ?_)
  have hnd : H dx = none := e0.hok.fresh hdx
  have nd : ∀ {b : Addr} {o : Obj}, s.heap.get? b = some o → b ≠ dx := fun {b o} q => Nat.ne_of_lt (Nat.lt_of_lt_of_le (Heap.lt_size q) hdx)
  have na : ∀ {b : Addr}, H b = none → b ≠ a := fun {b} n z => by rw [z, ea] at n; cases n
  refine ⟨.non, _, rfl, e0.bare, ⟨fun b o q n _ _ => k b o (na n) q, fun b o q n _ _ => ⟨o.slots, k b o (na n) q⟩, fun b o q n _ => by rw [upd_ne (na n), upd_ne (nd q)]; exact n, fun b o q _ => ?_,
    fun b xs q => by rw [upd_ne (at_ne ea q exo_tup), upd_ne (ne_of_none q hnd)]; exact q, fun b o v q => by rw [upd_ne (at_ne ea q exo_frz), upd_ne (ne_of_none q hnd)]; exact q,
    fun b ps q => ⟨#[], by rw [upd_ne (at_ne ea q exo_tbl), upd_ne (ne_of_none q hnd), q]; simp⟩⟩, fun b o q => ?_, rfl, q dx hnd dne⟩
  · by_cases hb : b = a
    · exact ⟨_, by rw [hb]; exact hx⟩
    · exact ⟨o, k b o hb q⟩
  · by_cases hb : b = a
    · subst hb; rw [upd_same] at q; cases q; exact exo_ok hx
    · rw [upd_ne hb] at q
      by_cases hd : b = dx
      · subst hd; rw [upd_same] at q; cases q
        exact exd_ok hn (relO_put (fs := []) rv fun g => True.intro)
      · rw [upd_ne hd] at q
        refine (e0.hok b o q).stay (fun c v hc z => k c v ?_ z) (fun c hc => by rw [upd_ne (at_ne ea hc exo_own), upd_ne (ne_of_none hc hnd)]; exact hc) (fun c xs hc => by rw [upd_ne (at_ne ea hc exo_tup), upd_ne (ne_of_none hc hnd)]; exact hc)
        rcases hc with hc | hc
        · rw [hc]; exact hb
        · exact at_ne ea hc exo_own
end
end Fw

/-! Fx3: exceptions raised, asked, read. -/
namespace Fw
open PySem PySem.Spec PyProof.Rows L2

/-- which class is under which -/
def xsub (c D : Str) : Bool := c == D || D == "OverlapsError"
/-- the module's exceptions -/
structure XK (P : Program) (w : World) (K : PySem.W.Frag) (mg : Str → Option Value) (base : Heap) (D fI : Addr) (fdI : FuncData) (ns : List Str) : Prop where
  ok : FnOk P w K mg base (L2.CX P w) 1 fI fdI ["self", "value"] (spI K D)
  bd : Binds K fdI ["self", "value"] []
  bdk : ∀ (s : Shared) (self u : Value), BindsTo s fdI ⟨[self], [("value", u)]⟩ [("self", self), ("value", u)]
  tI : PySem.W.typeIn K (.ref fI) = some (.type "function")
  all : ∀ C c, clsNm K C = some c → c ∈ ns → XcC K D C ∧ PySem.W.findIn K (.ref C) "__init__" = some (some (.ref fI)) ∧ XfC K C ∧ ExcC K C ∧ PySem.W.kitOne K (.ref C) (.type "ValueError") = some true
  is : ∀ C c C' c', clsNm K C = some c → c ∈ ns → clsNm K C' = some c' → c' ∈ ns → PySem.W.kitOne K (.ref C) (.ref C') = some (xsub c c') ∧ PySem.W.exmOne K (.ref C) (.ref C') = some (xsub c c')
/-- a class by its name -/
def ClsAt (K : PySem.W.Frag) (mg : Str → Option Value) (x : Str) : Prop := ∃ C, mg x = some (.ref C) ∧ clsNm K C = some x

def sRaise (c : Str) (m : M Res) : MS := fun en => (eVal m en).then fun d en1 => .exc c d en1
theorem cx_none {P : Program} {w : World} {X : Cx} (eP : X.prog = P) (ew : X.w = w) : Passes (L2.CX P w) X (fun _ _ _ => False) := fun pins σ H s e s' I c => by
  obtain ⟨_, _, _, _, _, _, _, _, _, _, _, _, z⟩ := c
  exact z.elim
section
variable {X : Cx} {W : WX} {fx : Nat} {m : M Res} {e : Expr} {pos pos' p : Pos} {x : Str} {D fI : Addr} {fdI : FuncData} {ns : List Str}
theorem rs_raise (hc : X.calm = true) (tk : Takes X W) (hr : Room 2 X.A) (T : XK X.prog X.w X.K X.mg X.base D fI fdI ns) (hx : ClsAt X.K X.mg x) (he : PE X e (tE X.K X.mg W m)) (hn : x ∈ ns := by decide) (hg : Gl X x := by rfl)
    (hdb : (x == ("__debug__" : Str)) = false := by decide) (hs : starEach [e] X.env = (false, eval e X.env) :: starEach [] X.env := by rfl) (hpl : (backTo pos (starEach [] X.env)).any (·.1) = false := by rfl) :
    PS X (.Raise (some (.Call (.Name x p) [e] [] pos)) none pos') (tS X.K X.mg W fx (sRaise x m)) := by
  obtain ⟨C, hm, hC⟩ := hx
  obtain ⟨TC, iC, _, _, _⟩ := T.all C x hC hn
  refine PS.imp (ps_raise hc tk (pmk_oex (dvs := []) (ds := []) TC.ox iC T.tI T.ok hr T.bd .nil (cx_none rfl rfl) hg hm (pa_cons he pa_nil hs) hdb hs hpl)) fun Ds σ H ⟨F, en, R, h⟩ => ⟨F, en, R, (valdS h).imp fun F1 H1 en1 r0 _ q v hv fr => ?_⟩
  obtain ⟨F2, en2, d, R2, p2, rv, q⟩ := q v hv fr
  refine ⟨by show 1 ≤ 1000; decide, fun a na => ⟨a, C, v, rfl, TC, upd_same, fun dx ndx dne => ⟨rfl, dx, _, upd_same, by rw [upd_ne dne, upd_same], ?_, ?_⟩⟩⟩
  · rw [upd_ne dne] at ndx; exact ndx
  · rw [upd_ne dne] at ndx
    have hH : upd (del (upd (upd (upd H1 a (exo a C none)) dx (exd dx [("value", v)])) a (exo a C (some dx))) a) dx (.xd [("value", v)]) = upd H1 dx (.xd [("value", v)]) := by
      funext b
      by_cases hb : b = dx
      · subst hb; rw [upd_same, upd_same]
      · rw [upd_ne hb, upd_ne hb]
        by_cases ha : b = a
        · subst ha; rw [del_same, na]
        · rw [del_ne ha, upd_ne ha, upd_ne hb, upd_ne ha]
    have g := grow_frz (o := .xd [("value", v)]) R2.sub ndx
    have key := q (.ref C) (some dx) σ _ (upd H1 dx (.xd [("value", v)])) (R2.grow g) g.post rfl ⟨C, dx, v, hC, rfl, rfl, upd_same, Rep.mono g.sub _ _ rv⟩
    rw [← hH] at key
    exact key
end
end Fw

/-! Fx4: an exception that is caught is held from then on. -/
namespace Fw
open PySem PySem.Spec PyProof.Rows L2
section
variable {X : Cx} {pins : List (Addr × Obj)} {σ : St} {H : Hp} {s : Shared}
/-- an object that nobody knew is tracked from now on -/
theorem Inv.track {a : Addr} {o : HO} (I : Inv X pins σ H s) (na : H a = none) (n0 : X.s_0.heap.get? a = none) (nL : a ≠ X.env.locals) (nC : ∀ x c, X.env.cells.lookup x = some c → a ≠ c) (np : ∀ p ∈ X.pn ++ pins, p.1 ≠ a)
    (new : ObjOk X.prog X.w (upd H a o) s.heap a o) : Inv X pins σ (upd H a o) s := by
  have ne : ∀ {b : Addr} {u : HO}, H b = some u → b ≠ a := fun {b u} e => ne_of_none e na
  have n1 : ∀ {b : Addr} {u : Obj}, X.s_0.heap.get? b = some u → b ≠ a := fun {b u} e z => by rw [z, n0] at e; cases e
  refine ⟨I.ok, I.os, I.bare, ⟨I.base.keep, I.base.slot, fun b u e n hx => ?_, I.base.there, fun b xs e => ?_, fun b u v e => ?_, fun b ps e => ?_⟩, I.loc, I.cell, ?_, fun x c e => ?_, fun p hp => ?_, fun b u e => ?_, I.len⟩
  · rw [upd_ne (n1 e)]; exact I.base.free b u e n hx
  · have q := I.base.tups b xs e; rw [upd_ne (ne q)]; exact q
  · have q := I.base.frzs b u v e; rw [upd_ne (ne q)]; exact q
  · obtain ⟨m, q⟩ := I.base.tbls b ps e; exact ⟨m, by rw [upd_ne (ne q)]; exact q⟩
  · rw [upd_ne (Ne.symm nL)]; exact I.free
  · rw [upd_ne (Ne.symm (nC x c e))]; exact I.freeC x c e
  · obtain ⟨h1, h2, h3⟩ := I.pin p hp; exact ⟨h1, by rw [upd_ne (np p hp)]; exact h2, h3⟩
  · by_cases hb : b = a
    · subst hb; rw [upd_same] at e; cases e; exact new
    · rw [upd_ne hb] at e
      exact (I.hok b u e).stay (fun c v _ q => q) (fun c q => by rw [upd_ne (ne q)]; exact q) fun c xs q => by rw [upd_ne (ne q)]; exact q
theorem xo_ok {P : Program} {w : World} {H : Hp} {h : Heap} {a C dx : Addr} {oe : Obj} {vs : Array Value} (e : h.get? a = some oe) (hz : Zc (.ref C) (some dx) oe) (hd : oe.data = .fields vs) : ObjOk P w H h a (xo a C dx) :=
  ⟨⟨oe, vs, e, hz.1, hz.2, hd⟩, ⟨oe, e⟩, fun _ _ ⟨o, v, q, r⟩ k => ⟨o, v, k o q, r⟩⟩
theorem Inv.inSuite (I : Inv X pins σ H s) (a : Addr) : Inv (X.suite a (X.pn ++ pins)) [] σ H s :=
  ⟨I.ok.suite _ _, I.os, I.bare, I.base, I.loc, I.cell, I.free, I.freeC, fun p hp => I.pin p (by rw [List.append_nil] at hp; exact hp), I.hok, I.len⟩
theorem Inv.outSuite {a : Addr} {pn' : List (Addr × Obj)} (I : Inv (X.suite a (X.pn ++ pins)) pn' σ H s) (ok : X.Ok) : Inv X pins σ H s :=
  ⟨ok, I.os, I.bare, I.base, I.loc, I.cell, I.free, I.freeC, fun p hp => I.pin p (List.mem_append_left _ hp), I.hok, I.len⟩
end

/-- the wish of the body: the exception is held -/
def wKp (K : PySem.W.Frag) (c : Value) (i : Nat) (ts : TS) (Wout : WX) (D : Ends) : WX := fun cls d σ H =>
  ∃ b, PySem.W.exmOne K cls c = some b ∧ (b = true → ∃ C dx, cls = .ref C ∧ d = some dx ∧ ∀ a, H a = none → ts { nx := fun σ' H' => D.nx (σ'.set i none) H', rt := D.rt, bk := fun σ' H' => D.bk (σ'.set i none) H', ct := fun σ' H' => D.ct (σ'.set i none) H' } (σ.set i (some (.ref a))) (upd H a (xo a C dx))) ∧
    (b = false → Wout cls d σ H)

section
variable {X : Cx} {x n : Str} {c : Value} {i : Nat} {body suite : List Stmt} {b₀ : Stmt} {np pos pos' : Pos} {tb : WX → TS} {ts : TS} {Wout : WX}
theorem ps_try_keep (hex : X.ex = []) (hs : X.stack = X.env :: X.outer) (hf : X.env.frame = some X.env.locals) (hN : X.N.Nodup) (hi : X.N[i]? = some n) (hln : X.env.kindOf n = some .local) (hc : Names X x c) (tk : Takes X Wout)
    (hb : ∀ (W : WX) (pn : List (Addr × Obj)) (xe : Value → Shared → Prop), Takes (X.tr pn xe) W → PassesOwn (model X.prog X.w) X.A X.env xe → PSs (X.tr pn xe) body (tb W))
    (hsu : ∀ (a : Addr) (pn : List (Addr × Obj)), PSs (X.suite a pn) (b₀ :: suite) ts) :
    PS X (.Try body [.ExceptHandler (some (.Name x np)) (some n) (b₀ :: suite) pos'] [] [] pos) (fun D σ H => tb (wKp X.K c i ts Wout D) D σ H) := by
  refine ⟨fun pins s σ H D I h => ?_⟩
  have ok := I.ok; have hfr : X.A.frames = some (X.env :: X.outer) := by rw [ok.frames, hs]
  have hloc : Loc X.env.scope n := .inl hln
  refine wpAny_Try_except (wpAny_mono ((hb (wKp X.K c i ts Wout D) (X.pn ++ pins) (fun e s₁ => wpAny (model X.prog X.w) X.A (noteFrame e X.env) (fun _ s₂ => wpAny (model X.prog X.w) X.A (setFlight e none) (fun _ s₃ =>
    wpAny (model X.prog X.w) X.A (handleBy e X.env [.ExceptHandler (some (.Name x np)) (some n) (b₀ :: suite) pos']) (SP X pins D) X.xe s₃) X.xe s₂) X.xe s₁) (fun u s' xx => ?_) PassesOwn.looking).run [] s σ H D (I.toTry _) h) (fun f s1 hsp => ?_) (fun e s1 he => he))
  · obtain ⟨a, B, sI, pins', σ', H', cls, d, rfl, J', nb, up, sky, na, os, ag, b, hb1, hyes, hno⟩ := xx
    have J : Inv X pins σ' H' sI := J'.ofTry ok; have sky' : Sky B (X.env :: X.outer) a (Zc cls d) X.env.locals s'.heap := by rw [← hs]; exact sky
    show wpAny (model X.prog X.w) X.A (noteFrame (.ref a) X.env) _ _ _
    refine Sky.land Zc.steady hfr hf sky' fun h3 fl3 up3 => ?_
    have J3 : Inv X pins σ' H' { s' with heap := h3 } := J.landed nb fl3.1 (up.trans up3) os ag
    obtain ⟨oe3, vs3, he3, hz3, hd3⟩ := fl3.there
    have notFr : ∀ {h : Heap} {o : Obj} {vs : Array Value}, h.FunFrames B (X.env :: X.outer) → h.get? a = some o → o.data = .fields vs → a ∉ frs (X.env :: X.outer) := fun {h o vs} ff e dd hm => by
      obtain ⟨_, o', e', hnf⟩ := ff.mem hm; rw [e] at e'; cases e'; exact hnf _ dd
    have nfr := notFr fl3.2.2.1 he3 hd3
    have nL : a ≠ X.env.locals := fun z => nfr (List.mem_filterMap.mpr ⟨X.env, List.mem_cons_self, by rw [hf, z]⟩)
    have nB : B.get? a = none := fl3.2.1
    have nI : sI.heap.get? a = none := by
      cases z : sI.heap.get? a with
      | none => rfl
      | some o => have q := nb a o z (by rw [hs]; exact nfr); rw [nB] at q; cases q
    have n0 : X.s_0.heap.get? a = none := by
      cases z : X.s_0.heap.get? a with
      | none => rfl
      | some o => obtain ⟨o', q⟩ := J.base.there a o z (by rw [hex]; exact fun y => nomatch y); rw [nI] at q; cases q
    have nC : ∀ y k, X.env.cells.lookup y = some k → a ≠ k := fun y k e z => by
      obtain ⟨v, o, q, _⟩ := J.cell y k e; rw [← z, nI] at q; cases q
    have np' : ∀ p ∈ X.pn ++ pins, p.1 ≠ a := fun p hp z => by
      have q := (J.pin p hp).1; rw [z, nI] at q; cases q
    have S3 := Inv.inSuite J3 a
    refine wpAny_handleBy_cons (codeAny_handlers_test ?_) (by intro q; cases q)
    have LT : PySem.W.Looks (model X.prog X.w) h3 (typeOf (.ref a)) cls := fun A Q E s k q => wpAny_typeOf_ref (k _ _ he3) (by rw [hz3.1]; exact q)
    have LM := PySem.W.exm_one (M := model X.prog X.w) (J3.kIn) LT hb1
    have test : ∀ {Q : Value → Shared → Prop} {E : Value → Shared → Prop}, Q c { s' with heap := h3 } → wpAny (model X.prog X.w) (X.A.mark (some (.ref a))) (eval (.Name x np) X.env) Q E { s' with heap := h3 } := fun {Q E} q => by
      obtain ⟨hg, hdbg, hm | ⟨hm, hv, hnn⟩⟩ := hc
      · exact ld_glob (X := X.suite a (X.pn ++ pins)) S3 hg hm q hdbg
      · exact ld_blt (X := X.suite a (X.pn ++ pins)) S3 hg hm hv q hnn hdbg
    refine test (LM.here ?_)
    cases b with
    | true =>
      obtain ⟨C, dx, ec, ed, hy⟩ := hyes rfl
      subst ec ed
      refine codeAny_handlers_suite_as (HandSPX.lands_againZ fl3 fun h4 fl4 up4 => ?_)
      have J4 : Inv X pins σ' H' { s' with heap := h4 } := J.landed nb fl4.1 ((up.trans up3).trans up4) os ag
      obtain ⟨oe4, vs4, he4, hz4, hd4⟩ := fl4.there
      have S4 := Inv.inSuite (Inv.track (o := xo a C dx) J4 na n0 nL nC np' (xo_ok he4 hz4 hd4)) a
      refine store_ok (X := X.suite a (X.pn ++ pins)) (v := .ref a) S4 hN hi hloc rfl (fun s5 S5 => ?_) (.inr hln)
      refine wpAny_mono ((hsu a (X.pn ++ pins)).run [] s5 _ _ _ S5 (hy a na)) (fun f s6 hsp => ?_) (fun _ _ z => False.elim z)
      have end_ : ∀ {σ6 : St} {H6 : Hp} {Q : Shared → Prop}, Inv (X.suite a (X.pn ++ pins)) [] σ6 H6 s6 → (∀ s7, Inv X pins (σ6.set i none) H6 s7 → Q s7) →
          wpAny (model X.prog X.w) X.A (do bindName X.env n .none; unbindBehindTheSuite X.env n pos') (fun _ s7 => Q s7) X.xe s6 := fun {σ6 H6 Q} S6 hq => gone_ok (Inv.outSuite S6 ok) hN hi hln hq
      cases f with
      | next => obtain ⟨σ6, H6, S6, q6⟩ := hsp; exact end_ S6 fun s7 J7 => ⟨_, _, J7, q6⟩
      | brk => obtain ⟨σ6, H6, S6, q6⟩ := hsp; exact end_ S6 fun s7 J7 => ⟨_, _, J7, q6⟩
      | cont => obtain ⟨σ6, H6, S6, q6⟩ := hsp; exact end_ S6 fun s7 J7 => ⟨_, _, J7, q6⟩
      | ret u => obtain ⟨v6, σ6, H6, S6, r6, q6⟩ := hsp; exact end_ S6 fun s7 J7 => ⟨_, _, _, J7, r6, q6⟩
    | false =>
      show wpAny _ X.A (handleBy (.ref a) X.env []) _ _ _
      refine wpAny_handleBy_nil ?_
      obtain ⟨k1, k2, k3, oe, vs, T, oT, ts', he, hz, hd, h1, hr⟩ := id fl3
      unfold PySem.passOn
      refine wpAny_bind (wpAny_field he hd h1 ?_)
      rw [if_neg (show ¬ ((Value.ref T == Value.none) = true) from by simp)]
      have fin : wpAny (model X.prog X.w) X.A (setFlight (.ref a) X.env.frame) (fun _ s4 => wpAny (model X.prog X.w) X.A (throw (.ref a) : Sem Flow) (SP X pins D) X.xe s4) X.xe { s' with heap := h3 } := by
        rw [hf]
        exact HandSPX.setFlight_upZ fl3 fun h4 hh4 up4 => wpAny_throw (tk _ _ ⟨a, B, sI, pins, σ', H', cls, d, rfl, J, nb, (up.trans up3).trans up4, .inr (.inr (by rw [hs]; exact hh4)), na, os, ag, hno rfl⟩)
      first
        | exact wpAny_bind (wpAny_pure (wpAny_bind fin))
        | exact wpAny_bind fin
  · cases f with
    | next => obtain ⟨σ', H', J', q⟩ := hsp; exact wpAny_execs_nil ⟨σ', H', J'.ofTry ok, q⟩
    | brk => obtain ⟨σ', H', J', q⟩ := hsp; exact ⟨σ', H', J'.ofTry ok, q⟩
    | cont => obtain ⟨σ', H', J', q⟩ := hsp; exact ⟨σ', H', J'.ofTry ok, q⟩
    | ret u => obtain ⟨v, σ', H', J', r, q⟩ := hsp; exact ⟨v, σ', H', J'.ofTry ok, r, q⟩
end
end Fw

/-! Fx5: what an exception is, its value, the try. -/
namespace Fw
open PySem PySem.Spec PySem.W PySem.Calls PyProof.Rows
section
variable {prog : Program} {w : World} {A : Around} {E : Value → Shared → Prop} {s : Shared} {K : Frag} {x D C : Addr} {ox : Obj} {od : Option Obj}
theorem find_dat {name : Str} {a g : Value} (hc : (clsIn K C).isSome = true) (ha : findIn K (.ref C) name = some (some a)) (hg : specialIn K a "__get__" = some (some g)) (ht : takesIn K a = some true) : findObj K C od name = some (.bind g a) := by
  obtain ⟨cd, hc⟩ := Option.isSome_iff_exists.mp hc
  unfold findObj; rw [hc, Option.bind_some, ha, Option.bind_some]; simp [hg, ht]
theorem cls_asked {Q : Option Value → Shared → Prop} (T : L2.ExcC K D) (X : K.In s.heap) (I : InstAt s.heap x ox D od) (h : Q (some (.ref D)) { s with toks := s.toks + 1 }) : wpAny (model prog w) A (getAttr? (.ref x) "__class__") Q E s := by
  have hf : findObj K D od "__class__" = some (.bind (.builtin "getset_descriptor.__get__") (.builtin "object.__class__")) := find_dat (by obtain ⟨cd, hc, _⟩ := any_some T.hd; rw [hc]; rfl) T.ha T.hn T.ht
  obtain ⟨hp, g, d, t, os⟩ := s
  have L0 := I.type (M := model prog w); have L1 := looks_findIn (M := model prog w) X T.hg; have L2 := looks_findIn (M := model prog w) X T.hk; have L3 := looks_find (M := model prog w) X I hf
  have sub : Looks (model prog w) hp (isInstance (.ref x) (.type "BaseException")) true := L0.andThen (looks_subIn X T.hs)
  have h0 : (false && onTheHeap (Value.builtin "BaseException.__getattribute__")) = false := rfl
  have h2 : (Value.builtin "BaseException.__getattribute__" == Value.builtin "object.__getattribute__") = false := by decide +kernel
  have h1 : (onTheHeap (Value.ref D) && Value.builtin "BaseException.__getattribute__" == Value.builtin "object.__getattribute__") = false := by rw [h2]; rfl
  unfold getAttr? getAttrBy? getAttrBy; refine wpAny_bind (wpAny_mkText (wpAny_bind (wpAny_attempt (wpAny_holding (wpAny_bind (L0.at (wpAny_bind (L1.at ?_))))))))
  show wpAny _ _ (if (onTheHeap (Value.ref D) && (Value.builtin "BaseException.__getattribute__" == Value.builtin "object.__getattribute__")) = true then _ else _) _ _ _; rw [h1, if_neg Bool.false_ne_true]
  unfold getAttrByItsOwn hookBefore; refine wpAny_bind ?_; rw [if_pos (show onTheHeap (Value.ref D) = true from rfl)]; refine L2.at (wpAny_bind (wpAny_attempt (wpAny_holding ?_)))
  unfold callGetattribute; rw [h0, if_neg Bool.false_ne_true]; unfold boundAndCalled; rw [PySem.F.excAttr_ValueError.ga.bind (.ref x)]; refine wpAny_bind (wpAny_pure ?_)
  show wpAny _ _ (call (.builtin "BaseException.__getattribute__") [.ref x, .str "__class__" t]) _ _ _; refine wpAny_call (codeAny_call_builtin PySem.F.excAttr_ValueError.ga.plain PySem.F.entry_bexc_ga ?_)
  refine @check_slot (model prog w) _ _ ⟨hp, g, d, t + 1, os⟩ "BaseException.__getattribute__" "BaseException" "__getattribute__" (.ref x) [.str "__class__" t] [] _ (by decide +kernel) (by decide +kernel) sub (PySem.F.args_bexc_ga (.ref x) (.str "__class__" t)) ?_
  unfold Builtin.«object.__getattribute__»; refine wpAny_bind (wpAny_of_eq (a := ((Value.ref x : Value), [Value.str "__class__" t])) (by first | rfl | (simp only [slotArgs]; rfl)) ?_); refine wpAny_bind (wpAny_pure (wpAny_bind (L0.at (wpAny_bind (L3.at ?_)))))
  show wpAny _ _ (holding [Value.builtin "object.__class__"] (call (.builtin "getset_descriptor.__get__") [.builtin "object.__class__", .ref x, .ref D]) >>= ret) _ _ _
  refine wpAny_bind (wpAny_holding (wpAny_call (class_get (s := ⟨hp, g, d, t + 1, os⟩) (ox := ox) (od := od) X I T.hm (wpAny_pure ?_))))
  show wpAny _ _ (handedOut (.ref D)) _ _ _; rw [handedOut_of (v := .ref D) rfl]
  first | exact wpAny_pure (wpAny_pure h) | exact wpAny_pure h | exact wpAny_pure (wpAny_bind (wpAny_pure (wpAny_pure h)))
theorem kit_exo (T : L2.ExcC K D) : KitX K (.ref x) (.ref D) (fun h => ∃ ox od, InstAt h x ox D od) where
  ty := fun _ _ _ ⟨_, _, I⟩ => I.type
  it := fun _ _ X _ => by
    obtain ⟨cdD, hcD, _⟩ := any_some T.hd; unfold clsIn at hcD; split at hcD
    · rename_i c' d' cd' sl' ho; intro A' Q' E' s' k q; unfold isType loadHead; exact wpAny_bind (wpAny_loadPart (k _ _ (X _ _ ho)) (wpAny_pure q))
    · cases hcD
  ne := fun h tp dd its n sl X htp => by
    obtain ⟨cdD, hcD, _⟩ := any_some T.hd; unfold clsIn at hcD; split at hcD
    · rename_i c' d' cd' sl' ho; refine Bool.eq_false_iff.mpr fun q => ?_; have e : D = tp := Value.ref.inj (beq_iff_eq.mp q); subst e; have z := (X _ _ ho).symm.trans htp; cases z
    · cases hcD
  ca := fun X ⟨ox, od, I⟩ k => cls_asked T X I k
end
end Fw
namespace Fw
open PySem PySem.Spec PyProof.Rows L2
section
variable {X : Cx} {pins : List (Addr × Obj)} {σ : St} {H : Hp} {s : Shared}
theorem Inv.exo {a C dx : Addr} {vv : V} (I : Inv X pins σ H s) (ha : H a = some (xo a C dx)) (hd : H dx = some (.xd [("value", vv)])) :
    ∃ oe od u, PySem.W.InstAt s.heap a oe C (some od) ∧ PySem.W.lookIn "value" od = some (some u) ∧ RelV vv u := by
  obtain ⟨⟨oe, vs, ho, h1, h2, h3⟩, _⟩ := I.hok a _ ha
  obtain ⟨mA, hns, hr⟩ := I.hok dx _ hd
  obtain ⟨od, hod, hl⟩ := lookIn_ns hns
  obtain ⟨u, hu, ru⟩ := RelO.some_of (v := vv) (o := mA "value") (hr "value")
  exact ⟨oe, od, u, ⟨ho, h1, by unfold PySem.W.notCls; rw [h3] <;> rfl, by rw [h2]; exact hod⟩, by rw [hl, hu], ru⟩
def rIsX (K : PySem.W.Frag) : List V → Hp → VK → Prop := fun xs H Q => ∃ (a C dx : Addr) (vv c : V) (cv : Value) (b : Bool), xs = [.ref a, c] ∧ H a = some (xo a C dx) ∧ H dx = some (.xd [("value", vv)]) ∧ (∀ u, RelV c u → u = cv) ∧ ExcC K C ∧ PySem.W.kitOne K (.ref C) cv = some b ∧ Q (.bl b) H
theorem call_isX : CallR X (.builtin "isinstance") (rIsX X.K) := by
  intro pins s σ H xs us Q I r ⟨a, C, dx, vv, c, cv, b, ex, ha, hd, hcv, T, e, q⟩
  subst ex
  cases r with
  | cons rx rr =>
    cases rr with
    | cons rt rr =>
      cases rr; cases rx
      have ec := hcv _ rt; subst ec
      obtain ⟨oe, od, u, J, _⟩ := Inv.exo I ha hd
      exact PySem.W.kia_one (kit_exo T) I.kIn ⟨oe, some od, J⟩ e (fun z => nomatch z) fun tk => ⟨.bl b, H, I.kept (t' := tk) fun _ _ z => z, rfl, q⟩
end
/-- isinstance(e, D) -/
def eIsX (ns : List Str) (f : Str → Bool) (m : M Res) : M Res := fun en => (eOpd m en).bind fun r en1 => match vw en1 r with
  | some (.exo c d) => if ns.contains c = true then .ok (.dat (.bl (f c))) en1 else .stuck
  | _ => .stuck
/-- e.value -/
def eVle (ns : List Str) (m : M Res) : M Res := fun en => (eOpd m en).bind fun r en1 => match vw en1 r with
  | some (.exo c d) => if ns.contains c = true then .ok (.dat d) en1 else .stuck
  | _ => .stuck
section
variable {X : Cx} {W : WX} {fx : Nat} {m : M Res} {a e : Expr} {pos pos' p tp : Pos} {x tn : Str} {D fI : Addr} {fdI : FuncData} {ns : List Str} {base : Heap}
theorem vw_exo {en : En} {r : Res} {α : Type} {k : Str → Dt → Out α} {P} {F H : Hp} {σ : St} {W : WX} {mg : Str → Option Value} {K : PySem.W.Frag}
    (q : OutOk K mg W F H en σ (match vw en r with | some (.exo c d) => if ns.contains c = true then k c d else .stuck | _ => .stuck) P) : ∃ c d, vw en r = some (.exo c d) ∧ c ∈ ns ∧ OutOk K mg W F H en σ (k c d) P := by
  cases z : vw en r with
  | none => rw [z] at q; exact q.elim
  | some d =>
    rw [z] at q
    cases d with
    | exo c d =>
      dsimp only at q
      by_cases hc : ns.contains c = true
      · rw [if_pos hc] at q; exact ⟨c, d, rfl, by simpa using hc, q⟩
      · rw [if_neg hc] at q; exact q.elim
    | _ => exact q.elim
theorem re_isX_any {te : TE} {f : Str → Bool} {c : V} {cv : Value} (T : XK X.prog X.w X.K X.mg base D fI fdI ns) (hm : X.mg "isinstance" = none) (ha : PE X a (tE X.K X.mg W m)) (hn : PE X (.Name tn tp) (tC c)) (hcv : ∀ u, RelV c u → u = cv)
    (hk : ∀ C n, clsNm X.K C = some n → n ∈ ns → PySem.W.kitOne X.K (.ref C) cv = some (f n)) (hg : Gl X "isinstance" := by rfl)
    (he : starEach [a, .Name tn tp] X.env = [(false, eval a X.env), (false, eval (.Name tn tp) X.env)] := by rfl) :
    PE X (.Call (.Name "isinstance" p) [a, .Name tn tp] [] pos) (tE X.K X.mg W (eIsX ns f m)) :=
  PE.imp (pe_callB call_isX hg hm PyProof.Rows.boot_isinstance (pa_cons ha (pa_cons hn pa_nil (by rfl)) (by rw [he]; rfl)) (by decide) (by decide) (by rw [he]; rfl) (by rfl)) fun σ H Q ⟨F, en, R, h⟩ => ⟨F, en, R, (opd h).imp fun F1 H1 en1 r0 _ q v hv fr => by
    obtain ⟨F2, r, R2, p2, n2, hv2, q⟩ := q v hv fr
    obtain ⟨n, d, z, hnn, q⟩ := vw_exo q
    obtain ⟨a', C, dx, vv, ev, hC, h1, h2, rv⟩ := hv2.vw R2 z
    refine ⟨a', C, dx, vv, c, cv, f n, by rw [ev], R2.sub _ _ h1, R2.sub _ _ h2, hcv, (T.all C n hC hnn).2.2.2.1, hk C n hC hnn, ?_⟩
    exact q F2 H1 R2 .refl (.bl (f n)) rfl trivial⟩
theorem re_isX (T : XK X.prog X.w X.K X.mg base D fI fdI ns) (hx : ClsAt X.K X.mg tn) (hm : X.mg "isinstance" = none) (ha : PE X a (tE X.K X.mg W m)) (hn : tn ∈ ns := by decide) (hg : Gl X "isinstance" := by rfl) (hgt : Gl X tn := by rfl) (htd : (tn == ("__debug__" : Str)) = false := by decide)
    (he : starEach [a, .Name tn tp] X.env = [(false, eval a X.env), (false, eval (.Name tn tp) X.env)] := by rfl) :
    PE X (.Call (.Name "isinstance" p) [a, .Name tn tp] [] pos) (tE X.K X.mg W (eIsX ns (fun c => xsub c tn) m)) := by
  obtain ⟨C', hm', hC'⟩ := hx
  exact re_isX_any (te := tC (.ref C')) (c := .ref C') (cv := .ref C') T hm ha (pe_glob hgt hm' rfl htd) (fun u h => h) (fun C n h1 h2 => (T.is C n C' tn h1 h2 hC' hn).1) hg he
theorem re_isVE (T : XK X.prog X.w X.K X.mg base D fI fdI ns) (hm : X.mg "isinstance" = none) (hmt : X.mg "ValueError" = none) (ha : PE X a (tE X.K X.mg W m)) (hg : Gl X "isinstance" := by rfl) (hgt : Gl X "ValueError" := by rfl)
    (he : starEach [a, .Name "ValueError" tp] X.env = [(false, eval a X.env), (false, eval (.Name "ValueError" tp) X.env)] := by rfl) :
    PE X (.Call (.Name "isinstance" p) [a, .Name "ValueError" tp] [] pos) (tE X.K X.mg W (eIsX ns (fun _ => true) m)) :=
  re_isX_any (te := tC (.ty "ValueError")) (c := .ty "ValueError") (cv := .type "ValueError") T hm ha (pe_bltn hgt hmt (by decide +kernel) rfl (by decide) (by decide)) (fun u h => h) (fun C n h1 h2 => (T.all C n h1 h2).2.2.2.2) hg he
theorem re_vle (T : XK X.prog X.w X.K X.mg base D fI fdI ns) (ha : PE X e (tE X.K X.mg W m)) (hb : attributeBase e "value" X.env (eval e X.env) = eval e X.env := by rfl) : PE X (.Attribute e "value" pos) (tE X.K X.mg W (eVle ns m)) := by
  have key : PE X (.Attribute e "value" pos) (fun σ H Q => (tE X.K X.mg W m) σ H fun x H1 => ∃ a C dx vv, x = .ref a ∧ H1 a = some (xo a C dx) ∧ H1 dx = some (.xd [("value", vv)]) ∧ XfC X.K C ∧ PySem.W.findIn X.K (.ref C) "value" = some none ∧ Q vv H1) := by
    refine ⟨fun pins s σ H Q I h => attr_of hb (thn (ha.run pins s σ H _ I h) fun u s1 hh => ?_)⟩
    obtain ⟨x, H1, I1, rx, a, C, dx, vv, ex, h1, h2, XF, hno, q⟩ := hh
    subst ex
    obtain rfl : u = Value.ref a := rx
    obtain ⟨oe, od, u', J, hl, ru⟩ := Inv.exo I1 h1 h2
    exact HandSPX.exc_get I1.kIn J XF.ga XF.gg XF.exC (PySem.W.findObj_own XF.hdC hno rfl hl) (handed_of ru) ⟨vv, H1, I1.tok _, ru, q⟩
  refine PE.imp key fun σ H Q ⟨F, en, R, h⟩ => ⟨F, en, R, (opd h).imp fun F1 H1 en1 r0 _ q v hv fr => ?_⟩
  obtain ⟨F2, r, R2, p2, n2, hv2, q⟩ := q v hv fr
  obtain ⟨n, d, z, hnn, q⟩ := vw_exo q
  obtain ⟨a', C, dx, vv, ev, hC, h1, h2, rv⟩ := hv2.vw R2 z
  exact ⟨a', C, dx, vv, ev, R2.sub _ _ h1, R2.sub _ _ h2, (T.all C n hC hnn).2.2.1, (T.all C n hC hnn).1.nv, q F2 H1 R2 .refl vv rv trivial⟩
end
end Fw

/-! Fx6: try .. except C as e. -/
namespace Fw
open PySem PySem.Spec PyProof.Rows L2
section
variable {K : PySem.W.Frag} {mg : Str → Option Value} {W : WX} {F F1 H H1 H0 : Hp} {en en1 : En} {σ : St} {fx : Nat} {D : Ends}
theorem own_set_un {i : Nat} {b : Addr} {v : Option V} (h : Own (en.set i .un) (σ.set i v) b) : Own en σ b := by
  obtain ⟨j, fs, e1, e2⟩ := h
  by_cases hj : j = i
  · subst hj; rw [List.getElem?_set] at e1; simp at e1
  · rw [List.getElem?_set_ne (Ne.symm hj)] at e1 e2; exact ⟨j, fs, e1, e2⟩
/-- a slot is emptied -/
theorem store_un {i : Nat} {v : Option V} (R : Rel K F H en σ) : Rel K F H (en.set i .un) (σ.set i v) ∧ Post F H (Own en σ) F H (Own (en.set i .un) (σ.set i v)) := by
  refine ⟨⟨R.sub, by rw [List.length_set, List.length_set]; exact R.len, fun j s o e1 e2 => ?_, fun j k fs gs b e1 e2 e3 e4 => ?_⟩, ⟨Same.refl _, fun _ _ h _ => h, fun _ h => h, fun _ _ h => .inl h, fun b h => .inl (own_set_un h)⟩⟩
  · by_cases hj : j = i
    · subst hj; rw [List.getElem?_set] at e1; simp only [if_pos trivial] at e1
      split at e1
      · cases e1; trivial
      · cases e1
    · rw [List.getElem?_set_ne (Ne.symm hj)] at e1 e2; exact R.ok j s o e1 e2
  · by_cases hj : j = i
    · subst hj; rw [List.getElem?_set] at e1; simp at e1
    · by_cases hk : k = i
      · subst hk; rw [List.getElem?_set] at e2; simp at e2
      · rw [List.getElem?_set_ne (Ne.symm hj)] at e1 e3; rw [List.getElem?_set_ne (Ne.symm hk)] at e2 e4
        exact R.ne j k fs gs b e1 e2 e3 e4
def outOf (i : Nat) : OutS → OutS
  | .nx en => .nx (en.set i .un)
  | .brk en => .brk (en.set i .un)
  | .cont en => .cont (en.set i .un)
  | .ret r en => .ret r (en.set i .un)
  | _ => .stuck
theorem outOf_ok {i : Nat} {o : OutS} (hf : fx ≤ i) (h : SOk K mg W fx F H en σ D (outOf i o)) :
    SOk K mg (fun _ _ _ _ => False) fx F H en σ { nx := fun σ' H' => D.nx (σ'.set i none) H', rt := D.rt, bk := fun σ' H' => D.bk (σ'.set i none) H', ct := fun σ' H' => D.ct (σ'.set i none) H' } o := by
  cases o with
  | nx en' => exact fun σ' F' H' r' p' t => h _ F' H' (store_un r').1 (p'.trans (store_un r').2) ((take_set hf).trans t)
  | brk en' => exact fun σ' F' H' r' p' t => h _ F' H' (store_un r').1 (p'.trans (store_un r').2) ((take_set hf).trans t)
  | cont en' => exact fun σ' F' H' r' p' t => h _ F' H' (store_un r').1 (p'.trans (store_un r').2) ((take_set hf).trans t)
  | ret r en' =>
    intro v σ' F' H' r' p' t q
    refine h v (σ'.set i none) F' H' (store_un r').1 (p'.trans (store_un r').2) ((take_set hf).trans t) ?_
    cases r with
    | dat d => exact q
    | new ds => obtain ⟨a, xs, e, h1, h2, h3, h4, q⟩ := q; exact ⟨a, xs, e, h1, h2, fun z => h3 (own_set_un z), h4, q⟩
    | slt j => exact q
  | exc c d en' => exact h.elim
  | stuck => exact h
end
def sTry (ns : List Str) (c : Str) (i : Nat) (mb ms : MS) : MS := fun en => match mb en with
  | .exc c' d en1 => if ns.contains c' = true then (if xsub c' c = true then outOf i (ms (en1.set i (.val (.exo c' d)))) else .exc c' d en1) else .stuck
  | o => o
/-- a suite's own context -/
structure Cs (X : Cx) : Prop where
  nd : X.N.Nodup
  cl : True
section
variable {X : Cx} {W : WX} {fx k : Nat} {mb ms : MS} {body suite : List Stmt} {b₀ : Stmt} {np pos pos' : Pos} {x n : Str} {D fI : Addr} {fdI : FuncData} {ns : List Str} {base : Heap}
theorem rs_try (i : Nat) (hf : fx ≤ i) (ct : Ct X W k) (T : XK X.prog X.w X.K X.mg base D fI fdI ns) (hx : ClsAt X.K X.mg x) (hex : X.ex = []) (hs : X.stack = X.env :: X.outer) (hfr : X.env.frame = some X.env.locals)
    (hb : ∀ (W : WX) (pn : List (Addr × Obj)) (xe : Value → Shared → Prop), Ct (X.tr pn xe) W k → PSs (X.tr pn xe) body (tS X.K X.mg W fx mb))
    (hsu : ∀ (a : Addr) (pn : List (Addr × Obj)), Cs (X.suite a pn) → PSs (X.suite a pn) (b₀ :: suite) (tS X.K X.mg (fun _ _ _ _ => False) fx ms))
    (hn : x ∈ ns := by decide) (hi : X.N[i]? = some n := by rfl) (hln : X.env.scope.names.lookup n = some .local := by rfl) (hg : Gl X x := by rfl) (hdb : (x == ("__debug__" : Str)) = false := by decide) :
    PS X (.Try body [.ExceptHandler (some (.Name x np)) (some n) (b₀ :: suite) pos'] [] [] pos) (tS X.K X.mg W fx (sTry ns x i mb ms)) := by
  obtain ⟨C, hm, hC⟩ := hx
  refine PS.imp (ps_try_keep (c := .ref C) hex hs hfr ct.nd hi hln ⟨hg, hdb, .inl hm⟩ ct.tk (tb := fun W => tS X.K X.mg W fx mb) (fun W pn xe tk ps => hb W pn xe ⟨ct.calm, ct.nd, tk, ct.room, ps⟩) (fun a pn => hsu a pn ⟨ct.nd, trivial⟩)) fun Ds σ H ⟨F, en, R, h⟩ => ⟨F, en, R, ?_⟩
  unfold sTry at h
  cases z : mb en with
  | nx en' => rw [z] at h; exact h
  | brk en' => rw [z] at h; exact h
  | cont en' => rw [z] at h; exact h
  | ret r en' => rw [z] at h; exact h
  | stuck => rw [z] at h; exact h
  | exc c' d en1 =>
    rw [z] at h
    dsimp only at h
    by_cases hc : ns.contains c' = true
    · rw [if_pos hc] at h
      have hc' : c' ∈ ns := by simpa using hc
      intro cls dx σ' F' H' R' P' t ⟨C', dd, v, hC', ecls, edx, hdd, rv⟩
      refine ⟨xsub c' x, by rw [ecls]; exact (T.is C' c' C x hC' hc' hC hn).2, fun hb => ⟨C', dd, ecls, edx, fun a na => ?_⟩, fun hb => ?_⟩
      · rw [if_pos hb] at h
        have g := grow_frz (o := xo a C' dd) R'.sub na
        have R2 := R'.grow g
        have rx : Rep X.K (upd F' a (xo a C' dd)) (.exo c' d) (.ref a) := ⟨a, C', dd, v, rfl, hC', upd_same, g.sub _ _ hdd, Rep.mono g.sub _ _ rv⟩
        obtain ⟨R3, p3⟩ := store_val (i := i) R2 rx
        exact ⟨_, _, R3, outOf_ok hf ((h.bind P' t).bind (g.post.trans p3) (take_set hf))⟩
      · rw [if_neg (by rw [hb]; exact Bool.false_ne_true)] at h
        exact h cls dx σ' F' H' R' P' t ⟨C', dd, v, hC', ecls, edx, hdd, rv⟩
    · rw [if_neg hc] at h; exact h.elim
end
end Fw

/-! Fx7: the module's exceptions from its written part. -/
namespace Fw
open PySem PySem.Spec PyProof.Rows L2

def oexB (K : PySem.W.Frag) (C : Addr) : Bool := match K.lookup C with
  | some ⟨.type "type", _, .cls cd, sl⟩ => (match cd.mro, sl.toList with
    | .ref C' :: bm, [_, _, _, _, some (.builtin n), _] => C' == C && n == "ValueError.__new__" && !cd.hasDel && cd.hasDict && HandSPX.refsVE bm
    | _, _ => false)
  | _ => false
theorem oexB_ok {K : PySem.W.Frag} {C : Addr} (q : oexB K C = true) : ∃ nm q N bs bm sn sub ab col dd k0 k1 k2 k3 k5, K.lookup C = some (excClassObj nm q C N bs bm true sn sub ab col dd k0 k1 k2 k3 k5 "ValueError.__new__") ∧ HandSPX.refsVE bm = true := by
  unfold oexB at q
  split at q
  · rename_i dd cd sl ho
    split at q
    · rename_i C' bm k0 k1 k2 k3 n k5 hm hs
      simp only [Bool.and_eq_true, beq_iff_eq, Bool.not_eq_true'] at q
      obtain ⟨⟨⟨⟨rfl, rfl⟩, hdel⟩, hdict⟩, ht⟩ := q
      obtain ⟨nm, bs, mro, ns, qn, hd, sn, sub, ab, col, del⟩ := cd
      dsimp only at hm hdel hdict; subst hm hdel hdict
      have hsl : sl = #[k0, k1, k2, k3, some (.builtin "ValueError.__new__"), k5] := by obtain ⟨l⟩ := sl; simp only at hs; rw [hs]
      subst hsl
      exact ⟨nm, qn, ns, bs, bm, sn, sub, ab, col, dd, k0, k1, k2, k3, k5, ho, ht⟩
    · cases q
  · cases q
def xcB (K : PySem.W.Frag) (D fI C : Addr) : Bool :=
  oexB K C && decide (PySem.W.findIn K (.ref C) "__setattr__" = some (some (.builtin "object.__setattr__"))) && decide (PySem.W.subIn K (.ref C) (.type "BaseException") = some true) && decide (PySem.W.typeIn K (.ref C) = some (.type "type")) && PySem.W.keepIn K (.ref C) &&
  decide (PySem.W.ks_superIn K C D "__init__" = some (some (.builtin "ValueError.__init__"))) && decide (PySem.W.subIn K (.ref C) (.type "ValueError") = some true) && decide (PySem.W.mroIn K C (.ref D) = some true) && decide (PySem.W.findIn K (.ref C) "value" = some none) &&
  decide (PySem.W.findIn K (.ref C) "__init__" = some (some (.ref fI))) && xfB K C && decide (PySem.W.findIn K (.ref C) "__class__" = some (some (.builtin "object.__class__"))) && decide (PySem.W.mroIn K C (.type "object") = some true) && decide (PySem.W.kitOne K (.ref C) (.type "ValueError") = some true)
theorem xcB_ok {K : PySem.W.Frag} {D fI C : Addr} (hn : PySem.W.specialIn K (.builtin "object.__class__") "__get__" = some (some (.builtin "getset_descriptor.__get__"))) (ht : PySem.W.takesIn K (.builtin "object.__class__") = some true) (h : xcB K D fI C = true) :
    XcC K D C ∧ PySem.W.findIn K (.ref C) "__init__" = some (some (.ref fI)) ∧ XfC K C ∧ ExcC K C ∧ PySem.W.kitOne K (.ref C) (.type "ValueError") = some true := by
  unfold xcB at h
  simp only [Bool.and_eq_true, decide_eq_true_eq] at h
  obtain ⟨⟨⟨⟨⟨⟨⟨⟨⟨⟨⟨⟨⟨h1, h2⟩, h3⟩, h4⟩, h5⟩, h6⟩, h7⟩, h8⟩, h9⟩, h10⟩, h11⟩, h12⟩, h13⟩, h14⟩ := h
  have X := xfB_ok h11
  exact ⟨⟨⟨oexB_ok h1, h2, h3, h4, h5⟩, h6, h7, h8, h9⟩, h10, X, ⟨X.ga, X.gg, X.exC, X.hdC, h12, hn, ht, h13⟩, h14⟩
/-- each class with such a name is one of these -/
def xnB (K : PySem.W.Frag) (cs : List (Str × Addr)) : Bool := K.all fun p => match clsNm K p.1 with
  | some c => match cs.lookup c with | some C => C == p.1 | none => true
  | none => true
def xpB (K : PySem.W.Frag) (cs : List (Str × Addr)) : Bool := cs.all fun p => cs.all fun q => decide (PySem.W.kitOne K (.ref p.2) (.ref q.2) = some (xsub p.1 q.1)) && decide (PySem.W.exmOne K (.ref p.2) (.ref q.2) = some (xsub p.1 q.1))
theorem lookup_some {α : Type} {x : Str} : ∀ {l : List (Str × α)}, x ∈ l.map (·.1) → ∃ v, l.lookup x = some v
  | (y, w) :: l, h => by
    rw [List.lookup_cons]
    cases e : (x == y) with
    | true => exact ⟨w, rfl⟩
    | false =>
      rcases List.mem_cons.mp h with h | h
      · rw [h] at e; rw [beq_self_eq_true] at e; cases e
      · exact lookup_some h
theorem xn_at {K : PySem.W.Frag} {cs : List (Str × Addr)} (h : xnB K cs = true) {C : Addr} {c : Str} (hC : clsNm K C = some c) (hc : c ∈ cs.map (·.1)) : (c, C) ∈ cs := by
  obtain ⟨C', hl⟩ := lookup_some hc
  unfold xnB at h
  rw [List.all_eq_true] at h
  have hk : ∃ o, (C, o) ∈ K := by
    unfold clsNm PySem.W.clsIn at hC
    cases z : K.lookup C with
    | none => rw [z] at hC; cases hC
    | some o =>
      have := List.lookup_eq_some_iff.mp z
      obtain ⟨l1, l2, e, _⟩ := this
      exact ⟨o, by rw [e]; simp⟩
  obtain ⟨o, hk⟩ := hk
  have q := h _ hk
  dsimp only at q
  rw [hC] at q
  dsimp only at q
  rw [hl] at q
  have e : C' = C := by simpa using q
  rw [← e]
  exact PySem.mem_of_lookup hl
theorem xk_of {P : Program} {w : World} {K : PySem.W.Frag} {mg : Str → Option Value} {base : Heap} {D fI : Addr} {fdI : FuncData} (cs : List (Str × Addr))
    (ok : FnOk P w K mg base (L2.CX P w) 1 fI fdI ["self", "value"] (spI K D)) (bd : Binds K fdI ["self", "value"] []) (bdk : ∀ (s : Shared) (self u : Value), BindsTo s fdI ⟨[self], [("value", u)]⟩ [("self", self), ("value", u)]) (tI : PySem.W.typeIn K (.ref fI) = some (.type "function"))
    (hn : PySem.W.specialIn K (.builtin "object.__class__") "__get__" = some (some (.builtin "getset_descriptor.__get__"))) (ht : PySem.W.takesIn K (.builtin "object.__class__") = some true)
    (h1 : xnB K cs = true) (h2 : (cs.all fun p => xcB K D fI p.2) = true) (h3 : xpB K cs = true) : XK P w K mg base D fI fdI (cs.map (·.1)) :=
  ⟨ok, bd, bdk, tI, fun C c hC hc => by
    have q := List.all_eq_true.mp h2 _ (xn_at h1 hC hc)
    exact xcB_ok hn ht q, fun C c C' c' hC hc hC' hc' => by
    have q := List.all_eq_true.mp (List.all_eq_true.mp h3 _ (xn_at h1 hC hc)) _ (xn_at h1 hC' hc')
    have q := Bool.and_eq_true_iff.mp q
    exact ⟨of_decide_eq_true q.1, of_decide_eq_true q.2⟩⟩
end Fw

/-! Fx8: what is never come to; in; str. -/
namespace Fw
open PySem PySem.Spec PyProof.Rows L2
section
variable {X : Cx} {W : WX} {e tg : Expr} {k : Nat}
def eStuck : M Res := fun _ => .stuck
def iStuck : M (List Dt) := fun _ => .stuck
theorem re_never : PE X e (tE X.K X.mg W eStuck) := ⟨fun pins s σ H Q I ⟨F, en, R, h⟩ => h.elim⟩
theorem ri_never : PI X tg e (tI X.K X.mg W iStuck) := ⟨fun pins s σ H Q I ⟨F, en, R, h⟩ => h.elim⟩
def seqInts : Dt → Option (List Int)
  | .lst ds => asInts ds
  | .tup ds => asInts ds
  | _ => none
def fIn (a b : Dt) : Option Res := match a with
  | .str [s] => match b with
    | .str z => some (.dat (.bl (decide (s ∈ z))))
    | _ => none
  | .int i => (seqInts b).map fun ns => .dat (.bl (decide (i ∈ ns)))
  | _ => none
def fNotIn (a b : Dt) : Option Res := match a with
  | .str [s] => match b with
    | .str z => some (.dat (.bl (!decide (s ∈ z))))
    | _ => none
  | .int i => (seqInts b).map fun ns => .dat (.bl (!decide (i ∈ ns)))
  | _ => none
theorem inV_ints (i : Int) : ∀ ns : List Int, inV (.int i) (ns.map V.int) = decide (i ∈ ns)
  | [] => rfl
  | n :: ns => by
    have h := inV_ints i ns
    unfold inV at h ⊢
    rw [List.map_cons, List.any_cons, h]
    show (decide (n = i) || decide (i ∈ ns)) = _
    by_cases e : n = i
    · subst e; simp
    · have e' : ¬ i = n := fun z => e z.symm
      simp [e, e']
theorem seqInts_at {K : PySem.W.Frag} {F H : Hp} {b : Dt} {ns : List Int} {y : V} (s : Same F H) (hy : Vw K F H b y) (h : seqInts b = some ns) : ∃ p, y = .ref p ∧ (SqL K H p (ns.map V.int) ∨ SqT K H p (ns.map V.int)) := by
  cases b with
  | lst ds =>
    obtain ⟨a, xs, e, q, r⟩ := hy
    have hd := asInts_of h
    subst hd
    exact ⟨a, e, .inl (by rw [← reps_ints r]; exact SqL.of q)⟩
  | tup ds =>
    obtain ⟨a, xs, e, q, r⟩ := hy
    have hd := asInts_of h
    subst hd
    exact ⟨a, e, .inr (by rw [← reps_ints r]; exact Same.seqT s q)⟩
  | _ => cases h
theorem ints_flat : ∀ ns : List Int, (ns.map V.int).all flatV = true
  | [] => rfl
  | n :: ns => by rw [List.map_cons, List.all_cons, ints_flat ns]; rfl
theorem prim_in : Prim2 X (compareOp .In) fIn := by
  refine ⟨_, op_in_sign.or op_in_seq, fun F H a b x y c Q s hx hy e q => ?_⟩
  unfold fIn at e
  split at e
  · split at e
    · rename_i s' _ z
      cases e
      exact .inl ⟨s', st z, hx, hy, by rw [st_toList]; exact q F H _ (Grow.refl s) rfl⟩
    · cases e
  · rename_i i
    cases z : seqInts b with
    | none => rw [z] at e; cases e
    | some ns =>
      rw [z] at e; cases e
      obtain ⟨p, ey, hp⟩ := seqInts_at s hy z
      have hx : x = .int i := hx
      subst hx
      exact .inr ⟨p, _, ey, hp, rfl, ints_flat ns, by rw [if_neg Bool.false_ne_true, inV_ints]; exact q F H _ (Grow.refl s) rfl⟩
  · cases e
theorem prim_notIn : Prim2 X (compareOp .NotIn) fNotIn := by
  refine ⟨_, op_notIn_sign.or op_notIn_seq, fun F H a b x y c Q s hx hy e q => ?_⟩
  unfold fNotIn at e
  split at e
  · split at e
    · rename_i s' _ z
      cases e
      exact .inl ⟨s', st z, hx, hy, by rw [st_toList]; exact q F H _ (Grow.refl s) rfl⟩
    · cases e
  · rename_i i
    cases z : seqInts b with
    | none => rw [z] at e; cases e
    | some ns =>
      rw [z] at e; cases e
      obtain ⟨p, ey, hp⟩ := seqInts_at s hy z
      have hx : x = .int i := hx
      subst hx
      exact .inr ⟨p, _, ey, hp, rfl, ints_flat ns, by rw [if_pos rfl, inV_ints]; exact q F H _ (Grow.refl s) rfl⟩
  · cases e
/-- times, a tuple too -/
def fMulX (a b : Dt) : Option Res := match a with
  | .tup xs => (match b with
    | .int k => if xs.isEmpty = false ∧ 2 ≤ k ∧ k ≤ 1000 ∧ xs.length ≤ 1000 then some (.dat (.tup (List.replicate k.toNat xs).flatten)) else none
    | _ => none)
  | a => fMul a b
theorem prim_mulX : Prim2 X (binaryOp .Mult) fMulX := by
  obtain ⟨r, hr, hf⟩ := prim_mul (X := X)
  refine ⟨_, hr.or op_repT, fun F H a b x y c Q s hx hy e q => ?_⟩
  cases a with
  | tup us =>
    cases b with
    | int k =>
      obtain ⟨l, xs, ex, h1, r1⟩ := hx
      have hy : y = .int k := hy
      unfold fMulX at e
      by_cases hz : us.isEmpty = false ∧ 2 ≤ k ∧ k ≤ 1000 ∧ us.length ≤ 1000
      · simp only [if_pos hz] at e
        cases e
        refine .inr ⟨l, k, xs, ex, hy, Same.seqT s h1, fun z => ?_, hz.2.1, hz.2.2.1, by rw [← r1.length]; exact hz.2.2.2, fun p np => ?_⟩
        · rw [z] at r1; have := r1.length; have h0 := hz.1; cases us <;> simp_all
        · have g : Grow F H (upd F p (.tup (List.replicate k.toNat xs).flatten)) (upd H p (.tup (List.replicate k.toNat xs).flatten)) := grow_frz s np
          exact q _ _ _ g ⟨p, _, rfl, .inl (.inl upd_same), Reps.mono g.sub _ _ (Reps.rep r1 _)⟩
      · simp only [if_neg hz] at e; cases e
    | _ => cases e
  | _ => exact .inl (hf F H _ b x y c Q s hx hy e q)
/-- str of an int or a text -/
def wdOf (x : Str) : Wd := x.cps.toList
def fStr : List Dt → Option Res
  | [.int i] => if i.natAbs.log2 < 1920 then some (.dat (.str (wdOf (toString i : String)))) else none
  | [.str x] => some (.dat (.str x))
  | _ => none
theorem prim_str : PrimN X (.type "str") fStr := by
  refine ⟨_, call_str_int.or SkE.call_str_str, fun F H ds vs c Q s hv e q => ?_⟩
  unfold fStr at e
  split at e
  · rename_i i
    obtain ⟨v, t, ev, hx, ht⟩ := hv
    have ht : t = [] := ht
    have hx : v = .int i := hx
    subst ht hx
    by_cases hz : i.natAbs.log2 < 1920
    · rw [if_pos hz] at e; cases e
      refine .inl ⟨i, ev, hz, q F H _ (Grow.refl s) ?_⟩
      show V.str _ = V.str (st (wdOf _))
      unfold wdOf
      rw [st_of]
    · rw [if_neg hz] at e; cases e
  · rename_i x
    obtain ⟨v, t, ev, hx, ht⟩ := hv
    have ht : t = [] := ht
    have hx : v = .str (st x) := hx
    subst ht hx
    cases e
    exact .inr ⟨st x, ev, q F H _ (Grow.refl s) rfl⟩
  · cases e
end
end Fw
namespace Fw
open PySem PySem.Spec PyProof.Rows L2
/-- the def of a class's __init__ -/
def clsInit (st : Stmt) : Stmt := match st with
  | .ClassDef _ _ _ b _ _ _ _ _ _ _ => b.getD 0 st
  | s => s
theorem cls_any {K : PySem.W.Frag} {D : Addr} (h : (PySem.W.clsIn K D).isSome = true) : ∃ cd, PySem.W.clsIn K D = some cd := Option.isSome_iff_exists.mp h
end Fw

/-! Fx9: an exception made as a value. -/
namespace Fw
open PySem PySem.Spec PyProof.Rows L2
section
variable {X : Cx} {pins : List (Addr × Obj)} {σ : St} {H : Hp} {s : Shared}
/-- what is told of an object of ours may be told otherwise -/
theorem Inv.retag {a : Addr} {φ : Heap → Prop} {o : HO} (I : Inv X pins σ H s) (ha : H a = some (.ext φ)) (new : ObjOk X.prog X.w (upd H a o) s.heap a o) : Inv X pins σ (upd H a o) s := by
  have n0 : ∀ {b : Addr}, H b = none → b ≠ a := fun {b} e z => by rw [z, ha] at e; cases e
  have nT : ∀ {b : Addr} {u : HO}, H b = some u → (∀ ψ, u ≠ .ext ψ) → b ≠ a := fun {b u} e q z => by rw [z, ha] at e; cases e; exact q _ rfl
  refine ⟨I.ok, I.os, I.bare, ⟨I.base.keep, I.base.slot, fun b u e n hx => ?_, I.base.there, fun b xs e => ?_, fun b u v e => ?_, fun b ps e => ?_⟩, I.loc, I.cell, ?_, fun x c e => ?_, fun p hp => ?_, fun b u e => ?_, I.len⟩
  · have q := I.base.free b u e n hx; rw [upd_ne (n0 q)]; exact q
  · have q := I.base.tups b xs e; rw [upd_ne (nT q fun _ z => by cases z)]; exact q
  · have q := I.base.frzs b u v e; rw [upd_ne (nT q fun _ z => by cases z)]; exact q
  · obtain ⟨m, q⟩ := I.base.tbls b ps e; exact ⟨m, by rw [upd_ne (nT q fun _ z => by cases z)]; exact q⟩
  · rw [upd_ne (n0 I.free)]; exact I.free
  · rw [upd_ne (n0 (I.freeC x c e))]; exact I.freeC x c e
  · obtain ⟨h1, h2, h3⟩ := I.pin p hp; exact ⟨h1, by rw [upd_ne (n0 h2)]; exact h2, h3⟩
  · by_cases hb : b = a
    · subst hb; rw [upd_same] at e; cases e; exact new
    · rw [upd_ne hb] at e
      exact (I.hok b u e).stay (fun c v _ q => q) (fun c q => by rw [upd_ne (nT q fun _ z => by cases z)]; exact q) fun c xs q => by rw [upd_ne (nT q fun _ z => by cases z)]; exact q
end
section
variable {X : Cx} {CX : CXT} {x : Str} {C D fI : Addr} {fdI : FuncData} {e : Expr} {te : TE} {p pos : Pos}
theorem pe_newx (T : XcC X.K D C) (iC : PySem.W.findIn X.K (.ref C) "__init__" = some (some (.ref fI))) (tI : PySem.W.typeIn X.K (.ref fI) = some (.type "function"))
    (F1 : FnOk X.prog X.w X.K X.mg X.base CX 1 fI fdI ["self", "value"] (spI X.K D)) (hr : Room 2 X.A) (hb : Binds X.K fdI ["self", "value"] []) (hx : Passes CX X (fun _ _ _ => False)) (hg : Gl X x) (hm : X.mg x = some (.ref C)) (he : PE X e te)
    (hdb : (x == ("__debug__" : Str)) = false := by decide) (hs : starEach [e] X.env = (false, eval e X.env) :: starEach [] X.env := by rfl) (hpl : (backTo pos (starEach [] X.env)).any (·.1) = false := by rfl) :
    PE X (.Call (.Name x p) [e] [] pos) (fun σ H Q => te σ H fun v H1 => ∀ a dx, H1 a = none → H1 dx = none → dx ≠ a → Q (.ref a) (upd (upd H1 dx (.xd [("value", v)])) a (xo a C dx))) := by
  refine ⟨fun pins s σ H Q I h => ?_⟩
  obtain ⟨nm, q, N, bs, bm, sn, sub, ab, col, dd, k0, k1, k2, k3, k5, hC, hbm⟩ := T.ox.cls
  refine wpAny_Call_Name_kw (ld_glob I hg hm ?_ hdb)
  refine PySem.W.callWith_K (h₀ := X.base) I.ok.mod.kin T.ox.kC (thn ((pa_cons he pa_nil hs).run pos pins s σ H (fun vs H1 => match vs with | [v] => ∀ a dx, H1 a = none → H1 dx = none → dx ≠ a → Q (.ref a) (upd (upd H1 dx (.xd [("value", v)])) a (xo a C dx)) | _ => False) I h) fun us s1 ⟨vs, H1, I1, r1, q1⟩ => ⟨I1.kIn, ?_⟩) hs hpl
  match vs, q1 with
  | [v], q1 =>
  show wpAny _ _ (call (.ref C) us) _ _ _
  obtain ⟨u, rfl, rv⟩ : ∃ u, us = [u] ∧ RelV v u := by
    cases r1 with
    | cons rv rr => cases rr; exact ⟨_, rfl, rv⟩
  obtain ⟨hp, g, dr, tk, os⟩ := s1
  have hsz : hp.objs.size ≤ hp.objs.size + 1 := Nat.le_succ _
  have hn : H1 (hp.objs.size + 1) = none := I1.hok.fresh hsz
  have kk : ∀ b o, hp.get? b = some o → ((hp.push (PySem.W.kdv_tup [u])).push (PySem.HandSPX.excO C hp.objs.size)).get? b = some o := fun b o e => Heap.get?_push_of_some _ (Heap.get?_push_of_some _ e)
  have hget : ((hp.push (PySem.W.kdv_tup [u])).push (PySem.HandSPX.excO C hp.objs.size)).get? (hp.objs.size + 1) = some (PySem.HandSPX.excO C hp.objs.size) := by heap_get
  have I2 : Inv X pins σ (upd H1 (hp.objs.size + 1) (exo (hp.objs.size + 1) C none)) ⟨(hp.push (PySem.W.kdv_tup [u])).push (PySem.HandSPX.excO C hp.objs.size), g, dr, tk, os⟩ :=
    I1.laid (t' := tk) (a := hp.objs.size + 1) (o := exo (hp.objs.size + 1) C none) (h' := (hp.push (PySem.W.kdv_tup [u])).push (PySem.HandSPX.excO C hp.objs.size)) kk hsz (exo_ok hget)
  have r2 : Vals [V.ref (hp.objs.size + 1), v] [Value.ref (hp.objs.size + 1), u] := .cons rfl (.cons rv .nil)
  refine wpAny_call (PySem.HandSPX.call_own F.excBase_ValueError (fun Y => PySem.HandSPX.refsVE_contains Y bm hbm) (I1.kIn _ _ hC) (PySem.W.looks_findIn I1.kIn iC) (fun self => PySem.W.bind_fn I1.kIn self tI) (by rw [sizeLine_eq]; exact Nat.le_of_ble_eq_true rfl)
    (codeAny_mono (F1.run _ X.stack _ _ ⟨[Value.ref (hp.objs.size + 1), u], []⟩ [Value.ref (hp.objs.size + 1), u] _ (fun v' H2 => v' = .non ∧ ∃ dx, H1 dx = none ∧ dx ≠ hp.objs.size + 1 ∧ H2 = upd (upd (upd H1 (hp.objs.size + 1) (exo (hp.objs.size + 1) C none)) dx (exd dx [("value", v)])) (hp.objs.size + 1) (exo (hp.objs.size + 1) C (some dx))) (fun _ _ _ => False) (hr.make C [u] []) (I2.env0.make C [u] []) (hb _ [Value.ref (hp.objs.size + 1), u] I2.kIn rfl) r2
      ⟨_, C, v, rfl, T, upd_same, fun dx n1 n2 => ⟨rfl, dx, by rw [upd_ne n2] at n1; exact n1, n2, rfl⟩⟩) fun r s' hq' => ?_))
  cases r with
  | error er => exact hx pins σ _ _ er s' I2 hq'
  | ok fl =>
    cases fl with
    | ret w =>
      obtain ⟨v', H2, os2, bare2, un2, hok2, rv', ev, dx, n1, n2, eH⟩ := hq'
      subst ev eH
      have J := Inv.call' (ch := []) I2 os2 un2 hok2 bare2 (fun b z => absurd z (by simp))
      obtain ⟨t1, ho⟩ := exo_at J.hok upd_same
      have J1 := Inv.retag (o := xo (hp.objs.size + 1) C dx) J (show _ = some (HO.ext _) from upd_same) (xo_ok ho ⟨rfl, rfl⟩ rfl)
      have e1 : upd (upd (upd (upd H1 (hp.objs.size + 1) (exo (hp.objs.size + 1) C none)) dx (exd dx [("value", v)])) (hp.objs.size + 1) (exo (hp.objs.size + 1) C (some dx))) (hp.objs.size + 1) (xo (hp.objs.size + 1) C dx) dx = some (exd dx [("value", v)]) := by
        rw [upd_ne n2, upd_ne n2, upd_same]
      obtain ⟨mA, hns, rel⟩ := exd_at J1.hok e1
      have J2 := Inv.retag (o := .xd [("value", v)]) J1 (show _ = some (HO.ext _) from e1) ⟨mA, hns, rel⟩
      have eH : upd (upd (upd (upd (upd H1 (hp.objs.size + 1) (exo (hp.objs.size + 1) C none)) dx (exd dx [("value", v)])) (hp.objs.size + 1) (exo (hp.objs.size + 1) C (some dx))) (hp.objs.size + 1) (xo (hp.objs.size + 1) C dx)) dx (.xd [("value", v)])
          = upd (upd H1 dx (.xd [("value", v)])) (hp.objs.size + 1) (xo (hp.objs.size + 1) C dx) := by
        funext b
        by_cases hb : b = dx
        · subst hb; rw [upd_same, upd_ne n2, upd_same]
        · rw [upd_ne hb]
          by_cases ha : b = hp.objs.size + 1
          · subst ha; rw [upd_same, upd_same]
          · rw [upd_ne ha, upd_ne ha, upd_ne hb, upd_ne ha, upd_ne ha, upd_ne hb]
      rw [eH] at J2
      exact ⟨rv', .ref (hp.objs.size + 1), _, J2, rfl, q1 _ dx hn n1 n2⟩
    | next => exact False.elim hq'
    | brk => exact False.elim hq'
    | cont => exact False.elim hq'
end
/-- C(e) as a value -/
def eNewX (c : Str) (m : M Res) : M Res := fun en => (eVal m en).bind fun d en1 => .ok (.dat (.exo c d)) en1
section
variable {X : Cx} {W : WX} {m : M Res} {e : Expr} {pos p : Pos} {x : Str} {D fI : Addr} {fdI : FuncData} {ns : List Str}
theorem re_newx (hr : Room 2 X.A) (T : XK X.prog X.w X.K X.mg X.base D fI fdI ns) (hx : ClsAt X.K X.mg x) (he : PE X e (tE X.K X.mg W m)) (hn : x ∈ ns := by decide) (hg : Gl X x := by rfl)
    (hdb : (x == ("__debug__" : Str)) = false := by decide) (hs : starEach [e] X.env = (false, eval e X.env) :: starEach [] X.env := by rfl) (hpl : (backTo pos (starEach [] X.env)).any (·.1) = false := by rfl) :
    PE X (.Call (.Name x p) [e] [] pos) (tE X.K X.mg W (eNewX x m)) := by
  obtain ⟨C, hm, hC⟩ := hx
  obtain ⟨TC, iC, _, _, _⟩ := T.all C x hC hn
  refine PE.imp (pe_newx TC iC T.tI T.ok hr T.bd (cx_none rfl rfl) hg hm he hdb hs hpl) fun σ H Q ⟨F, en, R, h⟩ => ⟨F, en, R, (vald h).imp fun F1 H1 en1 r0 _ q v hv fr => ?_⟩
  obtain ⟨F2, en2, d, R2, p2, rv, q⟩ := q v hv fr
  intro a dx na nd ne
  have g1 := grow_frz (o := .xd [("value", v)]) R2.sub nd
  have hne : a ≠ dx := Ne.symm ne
  have g2 := grow_frz (p := a) (o := xo a C dx) (R2.grow g1).sub (by rw [upd_ne hne]; exact na)
  exact q _ _ ((R2.grow g1).grow g2) (g1.trans g2).post (.ref a) ⟨a, C, dx, v, rfl, hC, upd_same, by rw [upd_ne ne]; exact upd_same, Rep.mono (g1.trans g2).sub _ _ rv⟩ trivial
end
end Fw

/-! Fx10 (under way): an exception made by keyword. -/
namespace Fw
open PySem PySem.Spec PyProof.Rows PySem.HandSPX
section
variable {M : Model} {A : Around} {E : Value → Shared → Prop} {h : Heap} {g : Array GenState} {d : Drawn} {t : Nat} {os : OsState}
variable {nm q : Str} {C N : Addr} {bs bm bmB : List Value} {hdct : Bool} {sn : List Str} {sub : List Value} {ab : Bool} {col : Option Bool} {dd : Option Addr} {k0 k1 k2 k3 k5 : Option Value} {B newId initId : String}
theorem check_new_kw (F : ExcBaseFacts B newId initId bmB) (hT : ∀ X : String, bm.contains (.type X) = bmB.contains (.type X)) {u : Value} {Q : Unit → Shared → Prop}
    (hC : h.get? C = some (excClassObj nm q C N bs bm hdct sn sub ab col dd k0 k1 k2 k3 k5 newId)) (hq : Q () ⟨h, g, d, t, os⟩) : wpAny M A (checkBuiltinCall newId ⟨[.ref C], [("value", u)]⟩) Q E ⟨h, g, d, t, os⟩ := by
  have hc : (Value.ref C :: bm).contains (.type B) = true := by rw [List.contains_cons, hT, F.hasB, Bool.or_true]
  have hs := F.noStar
  simp only [checkBuiltinCall, F.newKind, F.newSplit, F.newRow]
  repeat (first | refine wpAny_loadPart_at hC ?_ | (refine wpAny_isSubtype_exc hC ?_; rw [hc]) | refine wpAny_staticBase_exc hC ?_ | refine wpAny_madeBy_exc hC ?_ | simp only [bne_self_eq_false, Bool.false_eq_true, if_false] | wp_step)
  exact hq
end
end Fw
namespace Fw
open PySem PySem.HandSPX
section
variable {prog : Program} {w : World} {A : Around} {E : Value → Shared → Prop} {R : Result → Shared → Prop} {h : Heap} {g : Array GenState} {d : Drawn} {t : Nat} {os : OsState}
variable {nm q : Str} {C N : Addr} {bs bm bmB : List Value} {hdct : Bool} {sn : List Str} {sub : List Value} {ab : Bool} {col : Option Bool} {dd : Option Addr} {k0 k1 k2 k3 k5 : Option Value} {B newId initId : String}
theorem new_kw (F : ExcBaseFacts B newId initId bmB) (hT : ∀ X : String, bm.contains (.type X) = bmB.contains (.type X)) {u : Value}
    (hC : h.get? C = some (excClassObj nm q C N bs bm hdct sn sub ab col dd k0 k1 k2 k3 k5 newId))
    (hq : R (.ok (.ret (.ref (h.objs.size + 1)))) ⟨(h.push { cls := .type "tuple", data := .seq #[] }).push (excO C h.objs.size), g, d, t, os⟩) :
    codeAny (model prog w) A (.builtin newId ⟨[.ref C], [("value", u)]⟩) R ⟨h, g, d, t, os⟩ := by
  have hends := F.ends
  have cB : (Value.ref C :: bm).contains (.type B) = true := by rw [List.contains_cons, hT, F.hasB, Bool.or_true]
  have cA : (Value.ref C :: bm).contains (.type "AttributeError") = false := by rw [List.contains_cons, hT, F.noAttr]; rfl
  have cN : (Value.ref C :: bm).contains (.type "NameError") = false := by rw [List.contains_cons, hT, F.noName]; rfl
  refine codeAny_builtinAt F.entry ?_
  unfold Builtin.«BaseException.__new__»
  refine wpAt_bind ?_
  show wpAt _ _ _ (stack >>= _) _ _ _
  refine wpAt_bind (wpAt_stack fun p below => wpAt_of_wpAny ?_)
  wp_walk
  refine wpAt_of_wpAny ?_
  rw [F.owner]
  repeat (first | with_reducible refine wpAny_madeHere_exc F.canon hC ?_ | with_reducible refine wpAny_loadPart_at hC ?_ | (with_reducible refine wpAny_isSubtype_exc hC ?_; first | rw [cB] | rw [cA] | rw [cN]) | wp_step)
  show R _ _
  rw [Heap.size_push]
  exact hq
theorem tcall_kw (F : ExcBaseFacts B newId initId bmB) (hT : ∀ X : String, bm.contains (.type X) = bmB.contains (.type X)) {u : Value} {fI : Addr} {Q : Fin → Shared → Prop}
    (hC : h.get? C = some (excClassObj nm q C N bs bm hdct sn sub ab col dd k0 k1 k2 k3 k5 newId))
    (hi : W.Looks (model prog w) h (typeLookup (.ref C) "__init__") (some (.ref fI))) (hb : ∀ self, W.Looks (model prog w) h (bindSpecial (.ref fI) self) (.ref fI, [self]))
    (hq : codeAny (model prog w) A (.call (.ref fI) ⟨[.ref (h.objs.size + 1)], [("value", u)]⟩)
      (fun r s' => match r with | .ok (.ret v) => v = .none ∧ Q (.done (.ret (.ref (h.objs.size + 1)))) s' | .ok _ => False | .error e => E e s')
      ⟨(h.push (W.kdv_tup [])).push (excO C h.objs.size), g, d, t, os⟩) :
    wpAny (model prog w) A (Builtin.«type.__call__» ⟨[.ref C], [("value", u)]⟩) Q E ⟨h, g, d, t, os⟩ := by
  repeat (first | with_reducible refine wpAny_loadPart_at hC ?_ | with_reducible refine wpAny_madeBy_exc hC ?_ | wp_step)
  refine codeAny_call_builtin_code (Code.quiet_builtin _ F.quiet) (check_new_kw F hT hC (new_kw F hT hC ?_))
  show wpAny _ _ _ _ _ _
  have k : ∀ b o, h.get? b = some o → ((h.push (W.kdv_tup [])).push (excO C h.objs.size)).get? b = some o := fun b o e => Heap.get?_push_of_some _ (Heap.get?_push_of_some _ e)
  have hC₁ := k _ _ hC
  have hget : ((h.push (W.kdv_tup [])).push (excO C h.objs.size)).get? (h.objs.size + 1) = some (excO C h.objs.size) := by heap_get
  have hcC : (Value.ref C :: bm).contains (.ref C) = true := by simp
  have i1 := hi.keeps k; have b1 := (hb (.ref (h.objs.size + 1))).keeps k
  unfold isInstance
  repeat (first | with_reducible refine wpAny_loadPart_at hget ?_ | (with_reducible refine wpAny_isSubtype_exc hC₁ ?_; rw [hcC]) | wp_step)
  show wpAny _ _ (typeLookup (.ref C) _) _ _ _
  refine i1.at (wpAny_holding (wpAny_bind (b1.at ?_)))
  refine wpAny_bind (wpAny_call (codeAny_mono hq fun r s' z => ?_))
  rcases r with e | (v | _ | _ | _) <;> first | exact z | exact z.elim | skip
  obtain ⟨rfl, z⟩ := z
  first
    | exact wpAny_pure (wpAny_pure z)
    | (wp_walk; exact z)
theorem call_kw (F : ExcBaseFacts B newId initId bmB) (hT : ∀ X : String, bm.contains (.type X) = bmB.contains (.type X)) {u : Value} {fI : Addr}
    (hC : h.get? C = some (excClassObj nm q C N bs bm hdct sn sub ab col dd k0 k1 k2 k3 k5 newId))
    (hi : W.Looks (model prog w) h (typeLookup (.ref C) "__init__") (some (.ref fI))) (hb : ∀ self, W.Looks (model prog w) h (bindSpecial (.ref fI) self) (.ref fI, [self]))
    (hq : codeAny (model prog w) (A.under (.builtin "type.__call__" ⟨[.ref C], [("value", u)]⟩)) (.call (.ref fI) ⟨[.ref (h.objs.size + 1)], [("value", u)]⟩) (W.InitBack (h.objs.size + 1) R)
      ⟨(h.push (W.kdv_tup [])).push (excO C h.objs.size), g, d, t, os⟩) :
    codeAny (model prog w) A (.call (.ref C) ⟨[], [("value", u)]⟩) R ⟨h, g, d, t, os⟩ := by
  have f1 := tc_lookup; have f2 := tc_bind (.ref C)
  have hTy : (⟨h, g, d, t, os⟩ : Shared).TypeIs (.ref C) "type" := ⟨_, hC, rfl⟩
  refine codeAny_of_tree ?_
  show wpAny _ _ (callAny (.ref C) _) _ _ _
  repeat (any_goals (first | assumption | with_reducible refine wpAny_loadPart_at hC ?_ | wp_step))
  refine ⟨rfl, ?_⟩
  refine codeAny_call_builtin_at (Code.quiet_builtin _ (by decide +kernel)) entry_typeCall (wpAny_check_type_call_sub hC (tcall_kw F hT hC hi hb ?_))
  refine codeAny_mono hq fun r s' z => ?_
  rcases r with e | (v | _ | _ | _) <;> exact z
end
end Fw

/-! Fx11: an exception made as a value by keyword. -/
namespace Fw
open PySem PySem.Spec PyProof.Rows L2
section
variable {X : Cx} {CX : CXT} {x : Str} {C D fI : Addr} {fdI : FuncData} {kws : List Keyword} {te : TE} {p pos : Pos}
theorem pe_newxK (T : XcC X.K D C) (iC : PySem.W.findIn X.K (.ref C) "__init__" = some (some (.ref fI))) (tI : PySem.W.typeIn X.K (.ref fI) = some (.type "function"))
    (F1 : FnOk X.prog X.w X.K X.mg X.base CX 1 fI fdI ["self", "value"] (spI X.K D)) (hr : Room 2 X.A) (hb : ∀ (s : Shared) (self u : Value), BindsTo s fdI ⟨[self], [("value", u)]⟩ [("self", self), ("value", u)]) (hx : Passes CX X (fun _ _ _ => False)) (hg : Gl X x) (hm : X.mg x = some (.ref C)) (ha : PK X kws (tCons te tNil))
    (hks : (backToKw pos (keywordEach kws X.env)).filterMap (·.1) = [("value" : Str)] := by rfl) (hall : (backToKw pos (keywordEach kws X.env)).all (·.1.isSome) = true := by rfl) (hdb : (x == ("__debug__" : Str)) = false := by decide)
    (hpl : ((backTo pos (starEach [] X.env)).any (·.1) || (backToKw pos (keywordEach kws X.env)).any (·.1.isNone)) = false := by rfl) :
    PE X (.Call (.Name x p) [] kws pos) (fun σ H Q => te σ H fun v H1 => ∀ a dx, H1 a = none → H1 dx = none → dx ≠ a → Q (.ref a) (upd (upd H1 dx (.xd [("value", v)])) a (xo a C dx))) := by
  refine ⟨fun pins s σ H Q I h => ?_⟩
  obtain ⟨nm, q, N, bs, bm, sn, sub, ab, col, dd, k0, k1, k2, k3, k5, hC, hbm⟩ := T.ox.cls
  refine wpAny_Call_Name_kw (ld_glob I hg hm ?_ hdb)
  refine PySem.W.callWith_KW0 (h₀ := X.base) I.ok.mod.kin T.ox.kC hall (thn (ha.run pos pins s σ H (fun vs H1 => match vs with | [v] => ∀ a dx, H1 a = none → H1 dx = none → dx ≠ a → Q (.ref a) (upd (upd H1 dx (.xd [("value", v)])) a (xo a C dx)) | _ => False) I h) fun us s1 ⟨vs, H1, I1, r1, q1⟩ => ⟨I1.kIn, ?_⟩) hpl
  match vs, q1 with
  | [v], q1 =>
  obtain ⟨u, rfl, rv⟩ : ∃ u, us = [u] ∧ RelV v u := by
    cases r1 with
    | cons rv rr => cases rr; exact ⟨_, rfl, rv⟩
  rw [hks]
  show wpAny _ _ (call (.ref C) [] [("value", u)]) _ _ _
  obtain ⟨hp, g, dr, tk, os⟩ := s1
  have hsz : hp.objs.size ≤ hp.objs.size + 1 := Nat.le_succ _
  have hn : H1 (hp.objs.size + 1) = none := I1.hok.fresh hsz
  have kk : ∀ b o, hp.get? b = some o → ((hp.push (PySem.W.kdv_tup [])).push (PySem.HandSPX.excO C hp.objs.size)).get? b = some o := fun b o e => Heap.get?_push_of_some _ (Heap.get?_push_of_some _ e)
  have hget : ((hp.push (PySem.W.kdv_tup [])).push (PySem.HandSPX.excO C hp.objs.size)).get? (hp.objs.size + 1) = some (PySem.HandSPX.excO C hp.objs.size) := by heap_get
  have I2 : Inv X pins σ (upd H1 (hp.objs.size + 1) (exo (hp.objs.size + 1) C none)) ⟨(hp.push (PySem.W.kdv_tup [])).push (PySem.HandSPX.excO C hp.objs.size), g, dr, tk, os⟩ :=
    I1.laid (t' := tk) (a := hp.objs.size + 1) (o := exo (hp.objs.size + 1) C none) (h' := (hp.push (PySem.W.kdv_tup [])).push (PySem.HandSPX.excO C hp.objs.size)) kk hsz (exo_ok hget)
  have r2 : Vals [V.ref (hp.objs.size + 1), v] [Value.ref (hp.objs.size + 1), u] := .cons rfl (.cons rv .nil)
  refine wpAny_call (call_kw F.excBase_ValueError (fun Y => PySem.HandSPX.refsVE_contains Y bm hbm) (I1.kIn _ _ hC) (PySem.W.looks_findIn I1.kIn iC) (fun self => PySem.W.bind_fn I1.kIn self tI)
    (codeAny_mono (F1.run _ X.stack _ _ ⟨[Value.ref (hp.objs.size + 1)], [("value", u)]⟩ [Value.ref (hp.objs.size + 1), u] _ (fun v' H2 => v' = .non ∧ ∃ dx, H1 dx = none ∧ dx ≠ hp.objs.size + 1 ∧ H2 = upd (upd (upd H1 (hp.objs.size + 1) (exo (hp.objs.size + 1) C none)) dx (exd dx [("value", v)])) (hp.objs.size + 1) (exo (hp.objs.size + 1) C (some dx))) (fun _ _ _ => False) (hr.make C [] [("value", u)]) (I2.env0.make C [] [("value", u)]) (hb _ _ _) r2
      ⟨_, C, v, rfl, T, upd_same, fun dx n1 n2 => ⟨rfl, dx, by rw [upd_ne n2] at n1; exact n1, n2, rfl⟩⟩) fun r s' hq' => ?_))
  cases r with
  | error er => exact hx pins σ _ _ er s' I2 hq'
  | ok fl =>
    cases fl with
    | ret w =>
      obtain ⟨v', H2, os2, bare2, un2, hok2, rv', ev, dx, n1, n2, eH⟩ := hq'
      subst ev eH
      have J := Inv.call' (ch := []) I2 os2 un2 hok2 bare2 (fun b z => absurd z (by simp))
      obtain ⟨t1, ho⟩ := exo_at J.hok upd_same
      have J1 := Inv.retag (o := xo (hp.objs.size + 1) C dx) J (show _ = some (HO.ext _) from upd_same) (xo_ok ho ⟨rfl, rfl⟩ rfl)
      have e1 : upd (upd (upd (upd H1 (hp.objs.size + 1) (exo (hp.objs.size + 1) C none)) dx (exd dx [("value", v)])) (hp.objs.size + 1) (exo (hp.objs.size + 1) C (some dx))) (hp.objs.size + 1) (xo (hp.objs.size + 1) C dx) dx = some (exd dx [("value", v)]) := by
        rw [upd_ne n2, upd_ne n2, upd_same]
      obtain ⟨mA, hns, rel⟩ := exd_at J1.hok e1
      have J2 := Inv.retag (o := .xd [("value", v)]) J1 (show _ = some (HO.ext _) from e1) ⟨mA, hns, rel⟩
      have eH : upd (upd (upd (upd (upd H1 (hp.objs.size + 1) (exo (hp.objs.size + 1) C none)) dx (exd dx [("value", v)])) (hp.objs.size + 1) (exo (hp.objs.size + 1) C (some dx))) (hp.objs.size + 1) (xo (hp.objs.size + 1) C dx)) dx (.xd [("value", v)])
          = upd (upd H1 dx (.xd [("value", v)])) (hp.objs.size + 1) (xo (hp.objs.size + 1) C dx) := by
        funext b
        by_cases hb : b = dx
        · subst hb; rw [upd_same, upd_ne n2, upd_same]
        · rw [upd_ne hb]
          by_cases ha : b = hp.objs.size + 1
          · subst ha; rw [upd_same, upd_same]
          · rw [upd_ne ha, upd_ne ha, upd_ne hb, upd_ne ha, upd_ne ha, upd_ne hb]
      rw [eH] at J2
      exact ⟨rv', .ref (hp.objs.size + 1), _, J2, rfl, q1 _ dx hn n1 n2⟩
    | next => exact False.elim hq'
    | brk => exact False.elim hq'
    | cont => exact False.elim hq'
end
section
variable {X : Cx} {W : WX} {m : M Res} {kws : List Keyword} {pos p : Pos} {x : Str} {D fI : Addr} {fdI : FuncData} {ns : List Str}
theorem re_newxK (hr : Room 2 X.A) (T : XK X.prog X.w X.K X.mg X.base D fI fdI ns) (hx : ClsAt X.K X.mg x) (ha : PK X kws (tCons (tE X.K X.mg W m) tNil)) (hn : x ∈ ns := by decide) (hg : Gl X x := by rfl)
    (hks : (backToKw pos (keywordEach kws X.env)).filterMap (·.1) = [("value" : Str)] := by rfl) (hall : (backToKw pos (keywordEach kws X.env)).all (·.1.isSome) = true := by rfl) (hdb : (x == ("__debug__" : Str)) = false := by decide)
    (hpl : ((backTo pos (starEach [] X.env)).any (·.1) || (backToKw pos (keywordEach kws X.env)).any (·.1.isNone)) = false := by rfl) :
    PE X (.Call (.Name x p) [] kws pos) (tE X.K X.mg W (eNewX x m)) := by
  obtain ⟨C, hm, hC⟩ := hx
  obtain ⟨TC, iC, _, _, _⟩ := T.all C x hC hn
  refine PE.imp (pe_newxK TC iC T.tI T.ok hr T.bdk (cx_none rfl rfl) hg hm ha hks hall hdb hpl) fun σ H Q ⟨F, en, R, h⟩ => ⟨F, en, R, (vald h).imp fun F1 H1 en1 r0 _ q v hv fr => ?_⟩
  obtain ⟨F2, en2, d, R2, p2, rv, q⟩ := q v hv fr
  intro a dx na nd ne
  have g1 := grow_frz (o := .xd [("value", v)]) R2.sub nd
  have hne : a ≠ dx := Ne.symm ne
  have g2 := grow_frz (p := a) (o := xo a C dx) (R2.grow g1).sub (by rw [upd_ne hne]; exact na)
  exact q _ _ ((R2.grow g1).grow g2) (g1.trans g2).post (.ref a) ⟨a, C, dx, v, rfl, hC, upd_same, by rw [upd_ne ne]; exact upd_same, Rep.mono (g1.trans g2).sub _ _ rv⟩ trivial
end
end Fw

/-! Fz1: zip and enumerate over lists, tuples and texts. -/
namespace Fw
open PySem PySem.Spec PyProof.Rows L2
/-- what is walked: kind 0 a list, 1 a tuple, 2 a text -/
def Src (K : PySem.W.Frag) (H : Hp) (k : Nat) (v : V) (xs : List V) : Prop := match k with
  | 0 => ∃ a, v = .ref a ∧ SqL K H a xs
  | 1 => ∃ a, v = .ref a ∧ SqT K H a xs
  | _ => ∃ z : Str, v = .str z ∧ xs = z.cps.toList.map fun c => V.str ⟨#[c]⟩
/-- its iterator at turn i -/
def ItAt (k : Nat) (u : Value) (it : Addr) (i : Nat) (h : Heap) : Prop := match k with
  | 0 => ∃ a, u = .ref a ∧ h.IsListIter it a i
  | 1 => ∃ a, u = .ref a ∧ h.IsTupleIter it a i
  | _ => ∃ x t, u = .str x t ∧ h.IsStrIter it (strIterType x) x t i
theorem ItAt.keep {k : Nat} {u : Value} {it : Addr} {i : Nat} {h h' : Heap} (st : ItAt k u it i h) (hk : ∀ o, h.get? it = some o → h'.get? it = some o) : ItAt k u it i h' := by
  match k, st with
  | 0, ⟨a, e, q⟩ => exact ⟨a, e, q.at hk⟩
  | 1, ⟨a, e, q⟩ => exact ⟨a, e, q.at hk⟩
  | k + 2, ⟨x, t, e, q⟩ =>
    obtain ⟨o, ho, r⟩ := q
    exact ⟨x, t, e, o, hk o ho, r⟩
theorem ItAt.obj {k : Nat} {u : Value} {it : Addr} {i : Nat} {h : Heap} (st : ItAt k u it i h) : ∃ o, h.get? it = some o ∧ ∀ v, o.data ≠ .cell v := by
  match k, st with
  | 0, ⟨a, e, o, e1, _, d1⟩ => exact ⟨o, e1, fun v q => by rw [d1] at q; cases q⟩
  | 1, ⟨a, e, o, e1, _, d1⟩ => exact ⟨o, e1, fun v q => by rw [d1] at q; cases q⟩
  | k + 2, ⟨x, t, e, o, e1, _, d1⟩ => exact ⟨o, e1, fun v q => by rw [d1] at q; cases q⟩
section
variable {X : Cx} {pins : List (Addr × Obj)} {σ : St} {H : Hp} {s : Shared}
theorem vals_get' {xs : List V} {us : List Value} {j : Nat} {u : Value} (r : Vals xs us) (h : us[j]? = some u) : ∃ x, xs[j]? = some x ∧ RelV x u := by
  have hj : j < us.length := (List.getElem?_eq_some_iff.mp h).1
  have hx : xs[j]? = some (xs[j]'(by rw [r.length]; exact hj)) := by simp
  obtain ⟨u', e, q⟩ := r.get hx
  rw [h] at e; cases e
  exact ⟨_, hx, q⟩
theorem src_inj (I : Inv X pins σ H s) {k : Nat} {v : V} {xs ys : List V} (h : Src X.K H k v xs) (h' : Src X.K H k v ys) : xs = ys := by
  match k, h, h' with
  | 0, ⟨a, e, q⟩, ⟨b, e', q'⟩ => rw [e] at e'; cases e'; exact I.list_inj q q'
  | 1, ⟨a, e, q⟩, ⟨b, e', q'⟩ => rw [e] at e'; cases e'; exact I.tuple_inj q q'
  | k + 2, ⟨a, e, q⟩, ⟨b, e', q'⟩ => rw [e] at e'; cases e'; rw [q, q']
theorem draws_of (I : Inv X pins σ H s) (hc : X.calm = true) {k : Nat} {v : V} {u : Value} {xs : List V} (hq : Src X.K H k v xs) (r : RelV v u) {it : Addr} {i : Nat} (st : ItAt k u it i s.heap) (hne : ∀ b, u = .ref b → b ≠ it) :
    ∃ (fp : List Addr) (P : Nat → Value → Prop) (Sg : Nat → Heap → Prop), Draws X.prog X.w X.A.in1 it fp xs.length P Sg ∧ Sg i s.heap ∧ it ∈ fp ∧ (∀ b ∈ fp, b = it ∨ u = .ref b) ∧ (∀ j x', P j x' → ∃ x, xs[j]? = some x ∧ RelV x x') ∧ ∀ j h', Sg j h' → ItAt k u it j h' := by
  have hh : X.A.in1.handled = none := I.ok.hd hc
  match k, hq, st with
  | 0, ⟨a, e, q⟩, ⟨b, eb, st⟩ =>
    subst e
    have e2 : u = .ref a := r
    rw [e2] at eb; cases eb
    obtain ⟨its, rv, p, _⟩ := I.list q
    have D := Draws.list (prog := X.prog) (w := X.w) hh it a (hne a e2) its.toArray
    rw [show its.toArray.size = xs.length by simp [rv.length]] at D
    refine ⟨_, _, _, D, ⟨st, p.isList⟩, by simp, fun b hb => ?_, fun j x' hj => ?_, fun j h' s' => ⟨a, e2, s'.1⟩⟩
    · have : b = it ∨ b = a := by simpa using hb
      rcases this with z | z
      · exact .inl z
      · exact .inr (by rw [e2, z])
    · exact vals_get' rv (by simpa using hj)
  | 1, ⟨a, e, q⟩, ⟨b, eb, st⟩ =>
    subst e
    have e2 : u = .ref a := r
    rw [e2] at eb; cases eb
    obtain ⟨its, rv, p, _⟩ := I.tuple q
    have D := Draws.tuple (prog := X.prog) (w := X.w) hh it a (hne a e2) its.toArray
    rw [show its.toArray.size = xs.length by simp [rv.length]] at D
    refine ⟨_, _, _, D, ⟨st, p⟩, by simp, fun b hb => ?_, fun j x' hj => ?_, fun j h' s' => ⟨a, e2, s'.1⟩⟩
    · have : b = it ∨ b = a := by simpa using hb
      rcases this with z | z
      · exact .inl z
      · exact .inr (by rw [e2, z])
    · exact vals_get' rv (by simpa using hj)
  | k + 2, ⟨z, e, ex⟩, ⟨x, t, eb, st⟩ =>
    subst e
    obtain ⟨t', e2⟩ := r
    rw [e2] at eb; cases eb
    subst ex
    have D := Draws.text (prog := X.prog) (w := X.w) hh it z t
    rw [show z.cps.size = (z.cps.toList.map fun c => V.str ⟨#[c]⟩).length by simp] at D
    refine ⟨_, _, _, D, st, by simp, fun b hb => .inl (by simpa using hb), fun j x' ⟨c, tk, hj, ev⟩ => ?_, fun j h' s' => ⟨z, t, e2, s'⟩⟩
    refine ⟨.str ⟨#[c]⟩, ?_, ⟨tk, ev⟩⟩
    rw [List.getElem?_map]
    have : z.cps.toList[j]? = some c := by simpa using hj
    rw [this]; rfl
end
/-- the cells of a zip lie apart -/
structure ZA (z TI TO i1 i2 : Addr) (u1 u2 : Value) : Prop where
  TIz : TI ≠ z
  TOz : TO ≠ z
  i1z : i1 ≠ z
  i2z : i2 ≠ z
  TITO : TI ≠ TO
  TIi1 : TI ≠ i1
  TIi2 : TI ≠ i2
  TOi1 : TO ≠ i1
  TOi2 : TO ≠ i2
  i12 : i1 ≠ i2
  r : ∀ b, u1 = .ref b ∨ u2 = .ref b → b ≠ z ∧ b ≠ TI ∧ b ≠ TO ∧ b ≠ i1 ∧ b ≠ i2
def Itzg (K : PySem.W.Frag) (k1 k2 : Nat) (v1 v2 : V) : It :=
  ⟨fun i H => ∃ (xs ys : List V), Src K H k1 v1 xs ∧ Src K H k2 v2 ys ∧ i < xs.length ∧ i < ys.length,
    fun i H v H' => ∃ T x y, v = .ref T ∧ H T = none ∧ H' = upd H T (.tup [x, y]) ∧ (∀ xs, Src K H k1 v1 xs → xs[i]? = some x) ∧ ∀ ys, Src K H k2 v2 ys → ys[i]? = some y,
    fun i H => ∃ xs ys : List V, Src K H k1 v1 xs ∧ Src K H k2 v2 ys ∧ i ≤ xs.length ∧ i ≤ ys.length ∧ (i = xs.length ∨ i = ys.length)⟩
theorem turn_zg {P : Program} {w : World} {K : PySem.W.Frag} {elts : List Expr} {kk : Nat} {tpos : Pos} {z TI TO i1 i2 : Addr} {k1 k2 : Nat} {v1 v2 : V} {u1 u2 : Value} (D : ZA z TI TO i1 i2 u1 u2) (r1 : RelV v1 u1) (r2 : RelV v2 u2) :
    Turn P w K (.Tuple elts kk tpos) (Itzg K k1 k2 v1 v2) [z, TI, TO, i1, i2] z (fun i h => IsZip h z TI TO .none ∧ IsTupOf2 h TI (.ref i1) (.ref i2) ∧ (∃ x y, IsTupOf2 h TO x y) ∧ ItAt k1 u1 i1 i h ∧ ItAt k2 u2 i2 i h) where
  mem := by simp
  obj := fun i h st c hc => by
    obtain ⟨hz, hTI, ⟨x, y, hTO⟩, h1, h2⟩ := st
    have e' : c = z ∨ c = TI ∨ c = TO ∨ c = i1 ∨ c = i2 := by simpa using hc
    rcases e' with q | q | q | q | q
    · rw [q]; exact ⟨_, hz, fun v q => nomatch q⟩
    · rw [q]; exact ⟨_, hTI, fun v q => nomatch q⟩
    · rw [q]; exact ⟨_, hTO, fun v q => nomatch q⟩
    · rw [q]; exact h1.obj
    · rw [q]; exact h2.obj
  keep := fun i h h' st k => by
    obtain ⟨hz, hTI, ⟨x, y, hTO⟩, h1, h2⟩ := st
    exact ⟨k z (by simp) _ hz, k TI (by simp) _ hTI, ⟨x, y, k TO (by simp) _ hTO⟩, h1.keep (k i1 (by simp)), h2.keep (k i2 (by simp))⟩
  item := by
    intro X hP hw hK hc i pins s σ H E I hf st hg
    subst hP hw hK
    obtain ⟨hz, hTI, ⟨x0, y0, hTO⟩, h1, h2⟩ := st
    obtain ⟨xs, ys, hqx, hqy, hx, hy⟩ := hg
    obtain ⟨fp1, P1, S1, D1, s1, m1, f1, p1, t1⟩ := draws_of I hc hqx r1 h1 fun b e => (D.r b (.inl e)).2.2.2.1
    obtain ⟨fp2, P2, S2, D2, s2, m2, f2, p2, t2⟩ := draws_of I hc hqy r2 h2 fun b e => (D.r b (.inr e)).2.2.2.2
    have Z : ZipSep2 z TI TO i1 i2 fp1 fp2 := {
      TIz := D.TIz, TOz := D.TOz, TITO := D.TITO, TIi1 := D.TIi1, mem1 := m1
      zf1 := fun q => (f1 z q).elim (fun e => D.i1z e.symm) fun e => (D.r z (.inl e)).1 rfl
      Tf1 := fun q => (f1 TO q).elim (fun e => D.TOi1 e) fun e => (D.r TO (.inl e)).2.2.1 rfl
      TIi2 := D.TIi2, mem2 := m2
      zf2 := fun q => (f2 z q).elim (fun e => D.i2z e.symm) fun e => (D.r z (.inr e)).1 rfl
      Tf2 := fun q => (f2 TO q).elim (fun e => D.TOi2 e) fun e => (D.r TO (.inr e)).2.2.1 rfl
      sep1_2 := fun q => (f2 i1 q).elim (fun e => D.i12 e) fun e => (D.r i1 (.inr e)).2.2.2.1 rfl
      sep2_1 := fun q => (f1 i2 q).elim (fun e => D.i12 e.symm) fun e => (D.r i2 (.inl e)).2.2.2.2 rfl }
    have hzl : z < s.heap.objs.size := Heap.lt_size hz
    refine wpAny_pyNext_zipD2_item Z D1 D2 hz hTI hTO s1 s2 hx hy fun u u2 h' tk q1 q2 z' TO' st1 st2 hT hsz hk => ?_
    obtain ⟨x, ex, rx⟩ := p1 i u q1
    obtain ⟨y, ey, ry⟩ := p2 i u2 q2
    refine ⟨_, rfl, wpAny_letOwnedTupleGo_zip (s := { s with heap := h', toks := tk }) z' fun h'' z'' sb => ?_⟩
    have hT2 : h''.get? s.heap.objs.size = some { cls := .type "tuple", data := .seq #[u, u2] } := (sb.2 _ (Nat.ne_of_gt hzl)).trans hT
    have new : ObjOk X.prog X.w (upd H s.heap.objs.size (.tup [x, y])) h'' s.heap.objs.size (.tup [x, y]) :=
      ⟨by show 2 ≤ sizeLine; decide, [u, u2], .cons rx (.cons ry .nil), ⟨_, hT2, rfl, _, rfl⟩⟩
    have I1 : Inv X pins σ (upd H s.heap.objs.size (.tup [x, y])) { s with heap := h'', toks := tk } :=
      I.turnedNew (t' := tk) (ch := [z, TI, TO, i1, i2]) (fun c o hb q => (sb.2 c (fun q' => hb (by simp [q']))).trans (hk c o (fun q' => hb (by simp [q'])) (fun q' => hb (by simp [q'])) (fun q' => hb (by simp [q'])) (fun q' => hb (by simp [q'])) q)) hf (Nat.le_refl _) new
    refine ⟨.ref s.heap.objs.size, _, I1, rfl, ⟨_, x, y, rfl, I.hok.fresh (Nat.le_refl _), rfl, fun l hl => by rw [src_inj I hl hqx]; exact ex, fun l hl => by rw [src_inj I hl hqy]; exact ey⟩, ⟨z'', ?_, ⟨u, u2, ?_⟩, ?_, ?_⟩, fun c hcm => ?_⟩
    · exact (sb.2 _ D.TIz).trans (hk _ _ D.TIz D.TITO D.TIi1 D.TIi2 hTI)
    · exact (sb.2 _ D.TOz).trans TO'
    · exact (t1 _ _ st1).keep fun o q => (sb.2 _ D.i1z).trans q
    · exact (t2 _ _ st2).keep fun o q => (sb.2 _ D.i2z).trans q
    · have hlt : c < s.heap.objs.size := by
        have e' : c = z ∨ c = TI ∨ c = TO ∨ c = i1 ∨ c = i2 := by simpa using hcm
        rcases e' with q | q | q | q | q
        · rw [q]; exact hzl
        · rw [q]; exact Heap.lt_size hTI
        · rw [q]; exact Heap.lt_size hTO
        · rw [q]; obtain ⟨_, e1, _⟩ := h1.obj; exact Heap.lt_size e1
        · rw [q]; obtain ⟨_, e1, _⟩ := h2.obj; exact Heap.lt_size e1
      rw [upd_ne (Nat.ne_of_lt hlt)]
      exact (hf c hcm).1
  done := by
    intro X hP hw hK hc i pins s σ H E I hf st hg
    subst hP hw hK
    obtain ⟨hz, hTI, ⟨x0, y0, hTO⟩, h1, h2⟩ := st
    obtain ⟨xs, ys, hqx, hqy, hl1, hl2, hend⟩ := hg
    obtain ⟨fp1, P1, S1, D1, s1, m1, f1, p1, t1⟩ := draws_of I hc hqx r1 h1 fun b e => (D.r b (.inl e)).2.2.2.1
    obtain ⟨fp2, P2, S2, D2, s2, m2, f2, p2, t2⟩ := draws_of I hc hqy r2 h2 fun b e => (D.r b (.inr e)).2.2.2.2
    have Z : ZipSep2 z TI TO i1 i2 fp1 fp2 := {
      TIz := D.TIz, TOz := D.TOz, TITO := D.TITO, TIi1 := D.TIi1, mem1 := m1
      zf1 := fun q => (f1 z q).elim (fun e => D.i1z e.symm) fun e => (D.r z (.inl e)).1 rfl
      Tf1 := fun q => (f1 TO q).elim (fun e => D.TOi1 e) fun e => (D.r TO (.inl e)).2.2.1 rfl
      TIi2 := D.TIi2, mem2 := m2
      zf2 := fun q => (f2 z q).elim (fun e => D.i2z e.symm) fun e => (D.r z (.inr e)).1 rfl
      Tf2 := fun q => (f2 TO q).elim (fun e => D.TOi2 e) fun e => (D.r TO (.inr e)).2.2.1 rfl
      sep1_2 := fun q => (f2 i1 q).elim (fun e => D.i12 e) fun e => (D.r i1 (.inr e)).2.2.2.1 rfl
      sep2_1 := fun q => (f1 i2 q).elim (fun e => D.i12 e.symm) fun e => (D.r i2 (.inl e)).2.2.2.2 rfl }
    exact wpAny_pyNext_zipD2_end Z D1 D2 hz hTI hTO s1 s2 hl1 hl2 hend fun h' tk hk => ⟨rfl, I.turnedL (t' := tk) (ch := [z, TI, TO, i1, i2]) (fun c o hb q =>
      hk c o (fun q' => hb (by simp [q'])) (fun q' => hb (by simp [q'])) (fun q' => hb (by simp [q'])) (fun q' => hb (by simp [q'])) q) hf⟩
  self := fun A i s Q E st h => wpAny_pyIter_zip st.1 h
theorem begins_of {X : Cx} {pins : List (Addr × Obj)} {σ : St} {H : Hp} {s : Shared} (I : Inv X pins σ H s) {k : Nat} {v : V} {u : Value} {xs : List V} (hq : Src X.K H k v xs) (r : RelV v u) :
    ∃ (o : Obj) (G : Heap → Prop), Begins u o G ∧ G s.heap ∧ (∀ (it : Addr) (h : Heap), h.get? it = some o → ItAt k u it 0 h) ∧ ∀ b, u = .ref b → b < s.heap.objs.size := by
  match k, hq with
  | 0, ⟨a, e, q⟩ =>
    subst e
    have e2 : u = .ref a := r
    subst e2
    obtain ⟨its, rv, p, _⟩ := I.list q
    exact ⟨_, _, begins_list a its.toArray, p.isList, fun it h ho => ⟨a, rfl, _, ho, rfl, rfl⟩, fun b e => by cases e; exact p.lt⟩
  | 1, ⟨a, e, q⟩ =>
    subst e
    have e2 : u = .ref a := r
    subst e2
    obtain ⟨its, rv, p, _⟩ := I.tuple q
    exact ⟨_, _, begins_tuple a its.toArray, p, fun it h ho => ⟨a, rfl, _, ho, rfl, rfl⟩, fun b e => by cases e; obtain ⟨o, ho, _⟩ := p; exact Heap.lt_size ho⟩
  | k + 2, ⟨z, e, ex⟩ =>
    subst e
    obtain ⟨t, e2⟩ := r
    subst e2
    exact ⟨_, _, begins_text z t, trivial, fun it h ho => ⟨z, t, rfl, _, ho, rfl, rfl⟩, fun b e => by cases e⟩
theorem za_new (n : Nat) {u1 u2 : Value} (h1 : ∀ b, u1 = .ref b → b < n) (h2 : ∀ b, u2 = .ref b → b < n) : ZA (n + 4) (n + 2) (n + 3) n (n + 1) u1 u2 where
  TIz := fun e => absurd (show (n + 2 : Nat) = n + 4 from e) (by omega)
  TOz := fun e => absurd (show (n + 3 : Nat) = n + 4 from e) (by omega)
  i1z := fun e => absurd (show (n : Nat) = n + 4 from e) (by omega)
  i2z := fun e => absurd (show (n + 1 : Nat) = n + 4 from e) (by omega)
  TITO := fun e => absurd (show (n + 2 : Nat) = n + 3 from e) (by omega)
  TIi1 := fun e => absurd (show (n + 2 : Nat) = n from e) (by omega)
  TIi2 := fun e => absurd (show (n + 2 : Nat) = n + 1 from e) (by omega)
  TOi1 := fun e => absurd (show (n + 3 : Nat) = n from e) (by omega)
  TOi2 := fun e => absurd (show (n + 3 : Nat) = n + 1 from e) (by omega)
  i12 := fun e => absurd (show (n : Nat) = n + 1 from e) (by omega)
  r := fun b e => by
    have q : (show Nat from b) < n := e.elim (h1 b) (h2 b)
    exact ⟨fun z => absurd (show (show Nat from b) = n + 4 from z) (by omega), fun z => absurd (show (show Nat from b) = n + 2 from z) (by omega), fun z => absurd (show (show Nat from b) = n + 3 from z) (by omega), fun z => absurd (show (show Nat from b) = n from z) (by omega), fun z => absurd (show (show Nat from b) = n + 1 from z) (by omega)⟩
def iZipG (K : PySem.W.Frag) (ta : TA) : TI := fun σ H R => ta σ H fun vs H1 => ∃ k1 k2 v1 v2, vs = [v1, v2] ∧ (∃ xs, Src K H1 k1 v1 xs) ∧ (∃ ys, Src K H1 k2 v2 ys) ∧ R (Itzg K k1 k2 v1 v2) H1
theorem pi_zg {X : Cx} {e e2 : Expr} {ta : TA} {p pos tpos : Pos} {elts : List Expr} {kk : Nat} (hg : Gl X "zip") (hm : X.mg "zip" = none) (ha : PA X [e, e2] ta)
    (hs : starEach [e, e2] X.env = (false, eval e X.env) :: starEach [e2] X.env := by rfl) (hpl : (backTo pos (starEach [e2] X.env)).any (·.1) = false := by rfl) :
    PI X (.Tuple elts kk tpos) (.Call (.Name "zip" p) [e, e2] [] pos) (iZipG X.K ta) := by
  refine ⟨fun pins s σ H R I h => ?_⟩
  refine Call_ (ld_blt I hg hm PyProof.Rows.boot_zip (PyProof.Rows.callWith_type1 (thn (ha.run pos pins s σ H _ I h) fun us s1 ⟨vs, H1, I1, r1, q1⟩ => ?_) hs hpl))
  obtain ⟨k1, k2, v1, v2, ex, ⟨xs, hqx⟩, ⟨ys, hqy⟩, q⟩ := q1
  subst ex
  cases r1 with
  | cons r rr =>
    cases rr with
    | cons r' rr =>
      cases rr
      obtain ⟨o1, G1, B1, g1, a1, l1⟩ := begins_of I1 hqx r
      obtain ⟨o2, G2, B2, g2, a2, l2⟩ := begins_of I1 hqy r'
      refine zip_begins2 B1 B2 g1 g2 fun h' hz hTI hTO h1 h2 hsz hk => wpAny_pyIter_zip hz ?_
      have I2 : Inv X pins σ H1 { s1 with heap := h' } := I1.kept (t' := s1.toks) hk
      refine ⟨s1.heap.objs.size + 4, [s1.heap.objs.size + 4, s1.heap.objs.size + 2, s1.heap.objs.size + 3, s1.heap.objs.size, s1.heap.objs.size + 1], _, _, H1, rfl, I2, turn_zg (k1 := k1) (k2 := k2) (za_new s1.heap.objs.size l1 l2) r r', ⟨hz, hTI, ⟨_, _, hTO⟩, a1 _ _ h1, a2 _ _ h2⟩, fun c hcm => ?_, q⟩
      have e' : c = s1.heap.objs.size + 4 ∨ c = s1.heap.objs.size + 2 ∨ c = s1.heap.objs.size + 3 ∨ c = s1.heap.objs.size ∨ c = s1.heap.objs.size + 1 := by simpa using hcm
      have hle : s1.heap.objs.size ≤ c := by
        rcases e' with z | z | z | z | z
        · rw [z]; exact Nat.le_add_right _ _
        · rw [z]; exact Nat.le_add_right _ _
        · rw [z]; exact Nat.le_add_right _ _
        · rw [z]; exact Nat.le_refl _
        · rw [z]; exact Nat.le_add_right _ _
      exact I1.fpOk hle (I1.hok.fresh hle)
end Fw

/-! Fz2: enumerate; the rules of zip and enumerate. -/
namespace Fw
open PySem PySem.Spec PyProof.Rows L2
theorem meets_enum1 {v : Value} {o : Obj} {G : Heap → Prop} (B : Begins v o G) :
    Meets (Builtin.«enumerate.__new__» ⟨[.type "enumerate", v], []⟩) (fun _ R s => G s.heap ∧
      R (.ok (.ret (.ref (s.heap.push o).objs.size))) { s with heap := (s.heap.push o).push { cls := .type "enumerate", data := .fields #[.none, .bool false, .ref s.heap.objs.size, rawInt 0, .none, .none] } }) :=
  .of_wp fun prog w A R s h => by
    obtain ⟨hp, g, d, tk, os⟩ := s; obtain ⟨h1, h⟩ := h
    have hsub := sub_enumerate
    have q1 : ∀ {A' : Around} {E : Value → Shared → Prop} {Q : Value → Shared → Prop}, Q (.ref hp.objs.size) ⟨hp.push o, g, d, tk, os⟩ → wpAny (model prog w) A' (pyIter v) Q E ⟨hp, g, d, tk, os⟩ :=
      fun q => B.iter prog w _ _ ⟨hp, g, d, tk, os⟩ _ h1 q
    wp_walk using q1
    refine wpAny_stack_any fun st => wpAny_pure ?_
    split
    · rename_i c _ _ _ _ _
      cases (c == Value.type "enumerate")
      · wp_walk using q1
        exact ⟨_, rfl, h⟩
      · wp_walk using q1
        exact ⟨_, rfl, h⟩
    · wp_walk using q1
      exact ⟨_, rfl, h⟩
theorem enum1_begins {prog : Program} {w : World} {A : Around} {E : Value → Shared → Prop} {s : Shared} {v : Value} {o : Obj} {G : Heap → Prop} {Q : Value → Shared → Prop} (B : Begins v o G) (h1 : G s.heap)
    (h : ∀ h', IsEnum h' (s.heap.objs.size + 1) s.heap.objs.size 0 .none → h'.get? s.heap.objs.size = some o → h'.objs.size = s.heap.objs.size + 2 →
      (∀ b o, s.heap.get? b = some o → h'.get? b = some o) → Q (.ref (s.heap.objs.size + 1)) { s with heap := h' }) :
    wpAny (model prog w) A (call (.type "enumerate") [v]) Q E s := by
  refine callType_new F.called_enumerate (by decide) (F.typeCall_enumerate_1 _) (F.newCall_enumerate_1 _) (fun obj => F.args_object_init_2 obj _) F.entry_enumerate_new
    (meets_enum1 B) ⟨h1, ?_⟩
  have hz : (s.heap.push o).objs.size = s.heap.objs.size + 1 := Heap.size_push ..
  show _ ∧ _
  rw [hz]
  have he : IsEnum ((s.heap.push o).push { cls := .type "enumerate", data := .fields #[.none, .bool false, .ref s.heap.objs.size, rawInt 0, .none, .none] }) (s.heap.objs.size + 1) s.heap.objs.size 0 .none := by
    have := Heap.get?_push_size (s.heap.push o) (o := { cls := .type "enumerate", data := .fields #[.none, .bool false, .ref s.heap.objs.size, rawInt 0, .none, .none] }) rfl
    rw [hz] at this; exact this
  refine ⟨⟨_, he, rfl⟩, h _ he (Heap.get?_push_of_some _ (Heap.get?_push_size _ B.free)) (by rw [Heap.size_push, hz]) fun b o x => Heap.get?_push_of_some _ (Heap.get?_push_of_some _ x)⟩
def Iteg (K : PySem.W.Frag) (k : Nat) (v : V) : It :=
  ⟨fun i H => ∃ (xs : List V), Src K H k v xs ∧ i < xs.length,
    fun i H y H' => ∃ T x, y = .ref T ∧ H T = none ∧ H' = upd H T (.tup [.int (i : Nat), x]) ∧ (∀ xs, Src K H k v xs → xs[i]? = some x),
    fun i H => ∃ xs : List V, Src K H k v xs ∧ i = xs.length⟩
theorem turn_eg {P : Program} {w : World} {K : PySem.W.Frag} {elts : List Expr} {kk : Nat} {tpos : Pos} {e it : Addr} {k : Nat} {v : V} {u : Value} (r : RelV v u) (hne : e ≠ it) (hr : ∀ b, u = .ref b → b ≠ e ∧ b ≠ it) :
    Turn P w K (.Tuple elts kk tpos) (Iteg K k v) [e, it] e (fun i h => (∃ old, IsEnum h e it ((i : Nat) : Int) old) ∧ ItAt k u it i h) where
  mem := by simp
  obj := fun i h st b hb => by
    obtain ⟨⟨old, he⟩, h1⟩ := st
    have e' : b = e ∨ b = it := by simpa using hb
    rcases e' with z | z
    · rw [z]; exact ⟨_, he, fun v q => nomatch q⟩
    · rw [z]; exact h1.obj
  keep := fun i h h' st k => let ⟨⟨old, he⟩, hi⟩ := st; ⟨⟨old, k e (by simp) _ he⟩, hi.keep (k it (by simp))⟩
  item := by
    intro X hP hw hK hc i pins s σ H E I hf st hg
    subst hP hw hK
    obtain ⟨⟨old, he⟩, hit⟩ := st
    obtain ⟨xs, hq, hx⟩ := hg
    obtain ⟨fp, P1, S1, D1, s1, m1, f1, p1, t1⟩ := draws_of I hc hq r hit fun b e => (hr b e).2
    have hef : e ∉ fp := fun q => (f1 e q).elim hne fun z => (hr e z).1 rfl
    have hel : e < s.heap.objs.size := Heap.lt_size he
    have hil : it < s.heap.objs.size := by obtain ⟨_, q, _⟩ := hit.obj; exact Heap.lt_size q
    refine wpAny_pyNext_enum_itemC D1 he s1 hx hne hef fun u' h' tk q1 ho st1 hT hsz hk => ?_
    obtain ⟨x, ex, rx⟩ := p1 i u' q1
    refine ⟨_, rfl, wpAny_letOwnedTupleGo_enum (s := { s with heap := h', toks := tk + 1 }) ho fun h'' he' sb => ?_⟩
    have hT2 : h''.get? s.heap.objs.size = some { cls := .type "tuple", data := .seq #[.int i tk, u'] } := (sb.2 _ (Nat.ne_of_gt hel)).trans hT
    have new : ObjOk X.prog X.w (upd H s.heap.objs.size (.tup [.int (i : Nat), x])) h'' s.heap.objs.size (.tup [.int (i : Nat), x]) :=
      ⟨by show 2 ≤ sizeLine; decide, [.int i tk, u'], .cons ⟨_, rfl⟩ (.cons rx .nil), ⟨_, hT2, rfl, _, rfl⟩⟩
    have I1 : Inv X pins σ (upd H s.heap.objs.size (.tup [.int (i : Nat), x])) { s with heap := h'', toks := tk + 1 } :=
      I.turnedNew (t' := tk + 1) (ch := [e, it]) (fun b ob hb q => (sb.2 b (fun z => hb (by simp [z]))).trans (hk b ob (fun z => hb (by simp [z])) (fun z => hb (by simp [z])) q)) hf (Nat.le_refl _) new
    refine ⟨.ref s.heap.objs.size, _, I1, rfl, ⟨_, x, rfl, I.hok.fresh (Nat.le_refl _), rfl, fun l hl => by rw [src_inj I hl hq]; exact ex⟩, ⟨⟨u', ?_⟩, (t1 _ _ st1).keep fun o q => (sb.2 it (Ne.symm hne)).trans q⟩, fun b hb => ?_⟩
    · have e1 : ((i + 1 : Nat) : Int) = (i : Int) + 1 := by omega
      rw [e1]; exact he'
    · have hb' : b < s.heap.objs.size := by
        have e' : b = e ∨ b = it := by simpa using hb
        rcases e' with z | z
        · rw [z]; exact hel
        · rw [z]; exact hil
      rw [upd_ne (Nat.ne_of_lt hb')]
      exact (hf b hb).1
  done := by
    intro X hP hw hK hc i pins s σ H E I hf st hg
    subst hP hw hK
    obtain ⟨⟨old, he⟩, hit⟩ := st
    obtain ⟨xs, hq, hx⟩ := hg
    subst hx
    obtain ⟨fp, P1, S1, D1, s1, m1, f1, p1, t1⟩ := draws_of I hc hq r hit fun b e => (hr b e).2
    exact wpAny_pyNext_enum_endD D1 he s1 fun h' hx => ⟨rfl, I.turnedL (t' := s.toks) (ch := [e, it]) (fun b o hb y => hx b o (fun z => hb (by simp [z])) y) hf⟩
  self := fun A i s Q E st h => let ⟨⟨_, he⟩, _⟩ := st; wpAny_pyIter_enum he h
def iEnumG (K : PySem.W.Frag) (ta : TA) : TI := fun σ H R => ta σ H fun vs H1 => ∃ k v, vs = [v] ∧ (∃ xs, Src K H1 k v xs) ∧ R (Iteg K k v) H1
theorem pi_eg {X : Cx} {e : Expr} {ta : TA} {p pos tpos : Pos} {elts : List Expr} {kk : Nat} (hg : Gl X "enumerate") (hm : X.mg "enumerate" = none) (ha : PA X [e] ta) (hs : starEach [e] X.env = [(false, eval e X.env)] := by rfl) :
    PI X (.Tuple elts kk tpos) (.Call (.Name "enumerate" p) [e] [] pos) (iEnumG X.K ta) := by
  refine ⟨fun pins s σ H R I h => ?_⟩
  refine Call_ (ld_blt I hg hm boot_enumerate (PyProof.Rows.callWith_type1 (thn (ha.run pos pins s σ H _ I h) fun us s1 ⟨vs, H1, I1, r1, q1⟩ => ?_) hs rfl))
  obtain ⟨k, v, ex, ⟨xs, hq⟩, q⟩ := q1
  subst ex
  cases r1 with
  | cons r rr =>
    cases rr
    obtain ⟨o1, G1, B1, g1, a1, l1⟩ := begins_of I1 hq r
    refine enum1_begins B1 g1 fun h' he hit hsz hk => wpAny_pyIter_enum he ?_
    have I2 : Inv X pins σ H1 { s1 with heap := h' } := I1.kept (t' := s1.toks) hk
    refine ⟨s1.heap.objs.size + 1, [s1.heap.objs.size + 1, s1.heap.objs.size], _, _, H1, rfl, I2, turn_eg (k := k) r (Nat.succ_ne_self _) (fun b e => ⟨fun z => absurd (l1 b e) (by rw [z]; exact Nat.not_lt.mpr (Nat.le_succ _)), fun z => absurd (l1 b e) (by rw [z]; exact Nat.lt_irrefl _)⟩), ⟨⟨.none, he⟩, a1 _ _ hit⟩, fun b hb => ?_, q⟩
    have e' : b = s1.heap.objs.size + 1 ∨ b = s1.heap.objs.size := by simpa using hb
    have hle : s1.heap.objs.size ≤ b := by
      rcases e' with z | z
      · rw [z]; exact Nat.le_add_right _ _
      · rw [z]; exact Nat.le_refl _
    exact I1.fpOk hle (I1.hok.fresh hle)
/-! ### as functions -/
theorem src_of {K : PySem.W.Frag} {F : Hp} {d : Dt} {ds : List Dt} {v : V} (e : fIter d = some ds) (r : Rep K F d v) : ∃ k xs, Src K F k v xs ∧ Reps K F ds xs := by
  cases d with
  | lst es => cases e; obtain ⟨a, xs, ev, h, q⟩ := r; exact ⟨0, xs, ⟨a, ev, SqL.of h⟩, q⟩
  | tup es => cases e; obtain ⟨a, xs, ev, h, q⟩ := r; exact ⟨1, xs, ⟨a, ev, h⟩, q⟩
  | str x =>
    cases e
    refine ⟨2, _, ⟨st x, r, rfl⟩, ?_⟩
    rw [st_toList]
    clear r
    induction x with
    | nil => exact .nil
    | cons c x ih => exact .cons (show V.str _ = V.str (st [c]) from rfl) ih
  | _ => cases e
theorem Src.mono {K : PySem.W.Frag} {F F' : Hp} (s : Same F F') {k : Nat} {v : V} {xs : List V} (h : Src K F k v xs) : Src K F' k v xs := by
  match k, h with
  | 0, ⟨a, e, q⟩ => exact ⟨a, e, s.seq q⟩
  | 1, ⟨a, e, q⟩ => exact ⟨a, e, Same.seqT s q⟩
  | k + 2, ⟨a, e, q⟩ => exact ⟨a, e, q⟩
def zipD (xs ys : List Dt) : List Dt := List.zipWith (fun x y => Dt.tup [x, y]) xs ys
def enumD : Nat → List Dt → List Dt
  | _, [] => []
  | n, d :: ds => .tup [.int (n : Int), d] :: enumD (n + 1) ds
theorem enumD_get : ∀ (n : Nat) (ds : List Dt) (i : Nat), (enumD n ds)[i]? = (ds[i]?).map fun d => .tup [.int ((n + i : Nat) : Int), d]
  | n, [], i => by simp [enumD]
  | n, d :: ds, 0 => by simp [enumD]
  | n, d :: ds, i + 1 => by
    rw [enumD, List.getElem?_cons_succ, List.getElem?_cons_succ, enumD_get (n + 1) ds i]
    rw [show n + 1 + i = n + (i + 1) by omega]
theorem enumD_len : ∀ (n : Nat) (ds : List Dt), (enumD n ds).length = ds.length
  | n, [] => rfl
  | n, d :: ds => by rw [enumD, List.length_cons, List.length_cons, enumD_len]
section
variable {K : PySem.W.Frag} {F0 : Hp}
theorem rep_pair {F : Hp} {T : Addr} {a b : Dt} {x y : V} (n : F T = none) (ha : Rep K F a x) (hb : Rep K F b y) : Rep K (upd F T (.tup [x, y])) (.tup [a, b]) (.ref T) :=
  ⟨T, [x, y], rfl, .inl (.inl upd_same), .cons (Rep.mono (same_new n) _ _ ha) (.cons (Rep.mono (same_new n) _ _ hb) .nil)⟩
theorem wk_zip {k1 k2 : Nat} {v1 v2 : V} {xs ys : List V} {ds es : List Dt} (h1 : Src K F0 k1 v1 xs) (h2 : Src K F0 k2 v2 ys) (r1 : Reps K F0 ds xs) (r2 : Reps K F0 es ys) : Wk K (Itzg K k1 k2 v1 v2) F0 (zipD ds es) := fun F H i s1 s2 => by
  have q1 := (h1.mono s1).mono s2
  have q2 := (h2.mono s1).mono s2
  have l1 := r1.length
  have l2 := r2.length
  have hl : (zipD ds es).length = min ds.length es.length := by simp [zipD]
  refine ⟨fun d e => ?_, fun hi => ⟨xs, ys, q1, q2, by omega, by omega, by omega⟩⟩
  have hlt : i < (zipD ds es).length := (List.getElem?_eq_some_iff.mp e).1
  refine ⟨⟨xs, ys, q1, q2, by omega, by omega⟩, fun x H' ⟨T, a, b, ex, n, eH, g1, g2⟩ => ?_⟩
  subst ex eH
  obtain ⟨a', b', ea, eb, ed⟩ : ∃ a' b', ds[i]? = some a' ∧ es[i]? = some b' ∧ d = .tup [a', b'] := by
    unfold zipD at e
    rw [List.getElem?_zipWith] at e
    cases p : ds[i]? with
    | none => rw [p] at e; cases e
    | some a' =>
      cases p2 : es[i]? with
      | none => rw [p, p2] at e; cases e
      | some b' => rw [p, p2] at e; cases e; exact ⟨a', b', rfl, rfl, rfl⟩
  subst ed
  obtain ⟨va, e1, ra⟩ := r1.get ea
  obtain ⟨vb, e2, rb⟩ := r2.get eb
  have z1 := g1 xs q1
  have z2 := g2 ys q2
  rw [e1] at z1; cases z1
  rw [e2] at z2; cases z2
  exact ⟨_, grow_frz s2 n, rep_pair (s2.free n) (Rep.mono s1 _ _ ra) (Rep.mono s1 _ _ rb)⟩
theorem wk_enum {k : Nat} {v : V} {xs : List V} {ds : List Dt} (h : Src K F0 k v xs) (r : Reps K F0 ds xs) : Wk K (Iteg K k v) F0 (enumD 0 ds) := fun F H i s1 s2 => by
  have q1 := (h.mono s1).mono s2
  have l1 := r.length
  have hl := enumD_len 0 ds
  refine ⟨fun d e => ?_, fun hi => ⟨xs, q1, by omega⟩⟩
  have hlt : i < (enumD 0 ds).length := (List.getElem?_eq_some_iff.mp e).1
  refine ⟨⟨xs, q1, by omega⟩, fun x H' ⟨T, a, ex, n, eH, g1⟩ => ?_⟩
  subst ex eH
  rw [enumD_get] at e
  cases p : ds[i]? with
  | none => rw [p] at e; cases e
  | some a' =>
    rw [p] at e
    cases e
    obtain ⟨va, e1, ra⟩ := r.get p
    have z1 := g1 xs q1
    rw [e1] at z1; cases z1
    exact ⟨_, grow_frz s2 n, rep_pair (s2.free n) (show V.int _ = V.int _ by rw [Nat.zero_add]) (Rep.mono s1 _ _ ra)⟩
end
def zip2O : List Dt → Option (List Dt)
  | [a, b] => (fIter a).bind fun xs => (fIter b).bind fun ys => some (zipD xs ys)
  | _ => none
def enumO : List Dt → Option (List Dt)
  | [a] => (fIter a).bind fun xs => some (enumD 0 xs)
  | _ => none
def oIt (o : Option (List Dt)) (en : En) : Out (List Dt) := match o with
  | some zs => .ok zs en
  | none => .stuck
def iZip2 (m : M (List Dt)) : M (List Dt) := fun en => (m en).bind fun ds en1 => oIt (zip2O ds) en1
def iEnum1 (m : M (List Dt)) : M (List Dt) := fun en => (m en).bind fun ds en1 => oIt (enumO ds) en1
section
variable {X : Cx} {W : WX} {m : M (List Dt)} {p pos tpos : Pos} {elts : List Expr} {kk : Nat} {e e2 : Expr}
theorem ri_zip2 (hm : X.mg "zip" = none) (ha : PA X [e, e2] (tVs X.K X.mg W m)) (hg : Gl X "zip" := by rfl)
    (hs : starEach [e, e2] X.env = (false, eval e X.env) :: starEach [e2] X.env := by rfl) (hpl : (backTo pos (starEach [e2] X.env)).any (·.1) = false := by rfl) :
    PI X (.Tuple elts kk tpos) (.Call (.Name "zip" p) [e, e2] [] pos) (tI X.K X.mg W (iZip2 m)) :=
  PI.imp (pi_zg hg hm ha hs hpl) fun σ H R ⟨F, en, Re, h⟩ => ⟨F, en, Re, (OutOk.ofBind h).imp fun F1 H1 en1 ds _ ⟨R1, p1, q⟩ vs hv => by
    cases hz : zip2O ds with
    | none => rw [hz] at q; exact q.elim
    | some zs =>
      rw [hz] at q
      match ds, hv, hz with
      | [a, b], ⟨v1, t1, e1, r1, v2, t2, e2, r2, e3⟩, hz =>
        cases ha : fIter a with
        | none => simp [zip2O, ha] at hz
        | some xs =>
          cases hb : fIter b with
          | none => simp [zip2O, ha, hb] at hz
          | some ys =>
            simp only [zip2O, ha, hb, Option.bind_some, Option.some.injEq] at hz
            subst hz
            obtain ⟨k1, us, s1, q1⟩ := src_of ha r1
            obtain ⟨k2, ws, s2, q2⟩ := src_of hb r2
            have e3' : t2 = [] := e3
            exact ⟨k1, k2, v1, v2, by rw [e1, e2, e3'], ⟨us, s1.mono R1.sub⟩, ⟨ws, s2.mono R1.sub⟩, q F1 H1 R1 p1 _ (wk_zip s1 s2 q1 q2)⟩
      | [], _, hz => cases hz
      | [_], _, hz => cases hz
      | _ :: _ :: _ :: _, _, hz => cases hz⟩
theorem ri_enum (hm : X.mg "enumerate" = none) (ha : PA X [e] (tVs X.K X.mg W m)) (hg : Gl X "enumerate" := by rfl) (hs : starEach [e] X.env = [(false, eval e X.env)] := by rfl) :
    PI X (.Tuple elts kk tpos) (.Call (.Name "enumerate" p) [e] [] pos) (tI X.K X.mg W (iEnum1 m)) :=
  PI.imp (pi_eg hg hm ha hs) fun σ H R ⟨F, en, Re, h⟩ => ⟨F, en, Re, (OutOk.ofBind h).imp fun F1 H1 en1 ds _ ⟨R1, p1, q⟩ vs hv => by
    cases hz : enumO ds with
    | none => rw [hz] at q; exact q.elim
    | some zs =>
      rw [hz] at q
      match ds, hv, hz with
      | [a], ⟨v1, t1, e1, r1, e3⟩, hz =>
        cases ha : fIter a with
        | none => simp [enumO, ha] at hz
        | some xs =>
          simp only [enumO, ha, Option.bind_some, Option.some.injEq] at hz
          subst hz
          obtain ⟨k1, us, s1, q1⟩ := src_of ha r1
          have e3' : t1 = [] := e3
          exact ⟨k1, v1, by rw [e1, e3'], ⟨us, s1.mono R1.sub⟩, q F1 H1 R1 p1 _ (wk_enum s1 q1)⟩
      | [], _, hz => cases hz
      | _ :: _ :: _, _, hz => cases hz⟩
end
end Fw

/-! Gs1: sorted of a list, a tuple, a text, by plain data. -/
namespace Fw
open PySem PySem.Spec PyProof.Rows L2
/-- the heap has grown, else nothing changed -/
structure KeptS (s s' : Shared) : Prop where
  heap : ∀ b o, s.heap.get? b = some o → s'.heap.get? b = some o
  gens : s'.gens = s.gens
  drawn : s'.drawn = s.drawn
  os : s'.os = s.os
section
variable {X : Cx} {pins : List (Addr × Obj)} {σ : St} {H : Hp} {s : Shared}
theorem inv_kept {s' : Shared} (I : Inv X pins σ H s) (k : KeptS s s') : Inv X pins σ H s' := by
  obtain ⟨h', g', d', t', o'⟩ := s'
  obtain ⟨k1, k2, k3, k4⟩ := k
  have e1 : g' = s.gens := k2
  have e2 : d' = s.drawn := k3
  have e3 : o' = s.os := k4
  subst e1 e2 e3
  exact I.kept k1
/-- collecting the items -/
theorem collect_src {K : PySem.W.Frag} {k : Nat} {v : V} {u : Value} {xs : List V} (I : Inv X pins σ H s) (hK : X.K = K) (hz : xs.length ≤ sizeLine) (q : Src K H k v xs) (r : RelV v u) {A : Around} {E : Value → Shared → Prop} {Q : List Value → Shared → Prop}
    (hh : A.handled = none) (h : ∀ s' us, KeptS s s' → Vals xs us → Q us s') : wpAny (model X.prog X.w) A (collect u) Q E s := by
  subst hK
  match k, q with
  | 0, ⟨a, e, q2⟩ =>
    subst e
    cases r
    obtain ⟨its, rv, ⟨o, n, ho, hc, _, hd⟩, _⟩ := I.list q2
    refine wpAny_collect_seq a (T := "list") (.inl rfl) ho hc hd (fun h' hk => h _ _ ⟨hk, rfl, rfl, rfl⟩ (by simpa using rv)) (by simp [← rv.length]; exact hz)
  | 1, ⟨a, e, q2⟩ =>
    subst e
    cases r
    obtain ⟨its, rv, ⟨o, ho, hc, n, hd⟩, _⟩ := I.tuple q2
    refine wpAny_collect_seq a (T := "tuple") (.inr rfl) ho hc hd (fun h' hk => h _ _ ⟨hk, rfl, rfl, rfl⟩ (by simpa using rv)) (by simp [← rv.length]; exact hz)
  | k + 2, ⟨z, e, ex⟩ =>
    subst e
    obtain ⟨t', e2⟩ := r
    subst ex
    cases e2
    have hz' : z.cps.size ≤ sizeLine := by simpa using hz
    refine wpAny_collect_str hh z t' (fun s' acc k1 k2 k3 k4 hi => h s' _ ⟨k1, k2, k3, k4⟩ ?_) hz'
    obtain ⟨h1, h2⟩ := hi
    refine vals_of_idx _ _ (by simp [h1]) fun j u hu => ?_
    obtain ⟨c, tk, e1, e2⟩ := h2 j u (by simpa using hu)
    refine ⟨.str ⟨#[c]⟩, ?_, ⟨tk, e2⟩⟩
    rw [List.getElem?_map, show z.cps.toList[j]? = some c by simpa using e1]; rfl
/-- every two are alike -/
def allAlike (ds : List PyData) : Bool := ds.all fun d => ds.all fun e => PySem.W.alike d e
def tupB : PyData → Bool
  | .tuple (_ :: _) => true
  | _ => false
def plainB : PyData → Bool
  | .tuple _ => false
  | .none => false
  | _ => true
/-- what sorted can put in order -/
def sortB (ds : List Dt) : Bool := (dpls ds && allAlike (ds.map py)) && (((ds.map py).all tupB || (ds.map py).all plainB) && ((ds.map py).all (fun d => decide (d.depth ≤ 60)) && decide (ds.length ≤ sizeLine)))
theorem allAlike_of {ds : List PyData} (h : allAlike ds = true) : PySem.W.AllAlike ds := fun d hd e he => List.all_eq_true.mp (List.all_eq_true.mp h d hd) e he
theorem sortable_of {ds : List PyData} (h : (ds.all tupB || ds.all plainB) = true) : PySem.W.Sortable ds := by
  rcases Bool.or_eq_true_iff.mp h with h | h
  · refine .inl fun d hd => ?_
    have := List.all_eq_true.mp h d hd
    unfold tupB at this
    split at this
    · exact ⟨_, _, rfl⟩
    · cases this
  · refine .inr fun d hd => ?_
    have := List.all_eq_true.mp h d hd
    unfold plainB at this
    split at this
    · cases this
    · cases this
    · rename_i h1 h2
      exact ⟨h2, h1⟩
theorem each_dp (I : Inv X pins σ H s) {F : Hp} (sm : Same F H) : ∀ (ds : List Dt) (xs : List V) (us : List Value), dpls ds = true → Reps X.K F ds xs → Vals xs us →
    PySem.W.EachIs (fun u (b : V × Dt) => (RelV b.1 u ∧ Rep X.K F b.2 b.1) ∧ ∃ as, Reads s.heap u (py b.2) as) us (xs.zip ds)
  | [], xs, us, _, h, r => by cases (show xs = [] from h); cases r; exact .nil
  | d :: ds, xs, us, hd, ⟨v, r, e, q, t⟩, rv => by
    subst e
    cases rv with
    | cons r1 r2 =>
      exact .cons ⟨⟨r1, q⟩, Dp.reads I _ _ _ (rep_dp sm d v (Bool.and_eq_true_iff.mp hd).1 q) r1⟩ (each_dp I sm ds r _ (Bool.and_eq_true_iff.mp hd).2 t r2)
theorem reps_zip {K : PySem.W.Frag} {F : Hp} : ∀ {ds : List Dt} {xs : List V}, Reps K F ds xs → (xs.zip ds).map (fun b => b.2) = ds
  | [], xs, h => by cases (show xs = [] from h); rfl
  | d :: ds, xs, ⟨v, r, e, q, t⟩ => by subst e; exact congrArg (d :: ·) (reps_zip t)
theorem each_out {K : PySem.W.Frag} {F : Hp} {P : Value → V × Dt → Prop} : ∀ {us : List Value} {bs : List (V × Dt)}, PySem.W.EachIs (fun u b => (RelV b.1 u ∧ Rep K F b.2 b.1) ∧ P u b) us bs → Vals (bs.map (fun b => b.1)) us ∧ Reps K F (bs.map (fun b => b.2)) (bs.map (fun b => b.1))
  | _, _, .nil => ⟨.nil, rfl⟩
  | _, _, .cons ⟨⟨h1, h2⟩, _⟩ t => ⟨.cons h1 (each_out t).1, _, _, rfl, h2, (each_out t).2⟩
/-- the order of sorted -/
def leD (a b : Dt) : Bool := PySem.W.dataLe false py a b
def sortD (ds : List Dt) : List Dt := ds.mergeSort leD
def rSortG (X : Cx) : List V → Hp → VK → Prop := fun vs H Q => ∃ (v : V) (xs : List V) (ds : List Dt) (k : Nat) (F : Hp), vs = [v] ∧ Src X.K H k v xs ∧ Same F H ∧ Reps X.K F ds xs ∧ sortB ds = true ∧
  ∀ (p : Addr) (ys : List V), H p = none → Reps X.K F (sortD ds) ys → Q (.ref p) (upd H p (.lst ys))
theorem cr_sortG (hc : X.calm = true) (hu : X.A.units + 64 < cLine) : CallR X (.builtin "sorted") (rSortG X) := by
  intro pins s σ H vs us Q I r h
  obtain ⟨v, xs, ds, k, F, rfl, src, sm, rp, ok, q⟩ := h
  cases r with
  | cons r rr =>
  cases rr
  obtain ⟨ok1, ok2⟩ := Bool.and_eq_true_iff.mp ok
  obtain ⟨ok2, ok3⟩ := Bool.and_eq_true_iff.mp ok2
  obtain ⟨ok3, ok4⟩ := Bool.and_eq_true_iff.mp ok3
  obtain ⟨ok0, ok1⟩ := Bool.and_eq_true_iff.mp ok1
  have hz : xs.length ≤ sizeLine := by rw [← rp.length]; exact of_decide_eq_true ok4
  refine Calls.call_function_entry kind_sorted plain_sorted entry_sorted (args_sorted1 _) ?_
  unfold Builtin.«sorted»
  refine wpAny_bind (m := checkCount "sorted" 1 1 _) (wpAny_pure ?_)
  refine wpAny_bind (collect_src I rfl hz src r (I.ok.hd hc) fun s1 us1 kp rv => ?_)
  have hz1 : us1.length ≤ sizeLine := by rw [← rv.length]; exact hz
  refine wpAny_bind (wpAny_newList ?_ hz1)
  have I1 := inv_kept I kp
  have E := each_dp I1 sm ds xs us1 ok0 rp rv
  have hl : (s1.heap.push (seqObj "list" us1.toArray 0)).get? s1.heap.objs.size = some (seqObj "list" us1.toArray 0) := Heap.get?_push_size _ rfl
  have kk : ∀ b o, s1.heap.get? b = some o → (PySem.W.sortingHeap (s1.heap.push (seqObj "list" us1.toArray 0)) s1.heap.objs.size us1).get? b = some o := fun b o e =>
    PySem.W.sortingHeap_old (Nat.ne_of_lt (Heap.lt_size e)) (Heap.get?_push_of_some _ e)
  have E' := E.mono fun _ _ h => (⟨h.2.choose, PyProof.Rows.Reads.keeps kk h.2.choose_spec⟩ : ∃ as, Reads (PySem.W.sortingHeap (s1.heap.push (seqObj "list" us1.toArray 0)) s1.heap.objs.size us1) _ (py _) as)
  have hmap : (xs.zip ds).map (fun b : V × Dt => py b.2) = ds.map py := by
    have z := congrArg (List.map py) (reps_zip rp)
    rw [List.map_map] at z
    exact z
  have hal : PySem.W.AllAlike ((xs.zip ds).map fun b : V × Dt => py b.2) := by rw [hmap]; exact allAlike_of ok1
  have hsk : PySem.W.Sortable ((xs.zip ds).map fun b : V × Dt => py b.2) := by rw [hmap]; exact sortable_of ok2
  have hub : ∀ d, d ∈ (xs.zip ds).map (fun b : V × Dt => py b.2) → X.A.in1.in1.units + d.depth < cLine := by
    rw [hmap]
    intro d hd
    have h60 : d.depth ≤ 60 := of_decide_eq_true (List.all_eq_true.mp ok3 d hd)
    have : X.A.in1.in1.units = X.A.units + 2 := rfl
    omega
  refine wpAny_bind (wpAny_holding (wpAny_call_entry slot_list_sort ⟨_, hl, rfl⟩ entry_list_sort
    (PySem.W.list_sort_vals (κ := PySem.W.dataKind (PySem.W.sortingHeap (s1.heap.push (seqObj "list" us1.toArray 0)) s1.heap.objs.size us1) ((xs.zip ds).map fun b : V × Dt => py b.2)) hl
      (PySem.W.SortsAt.data (s := { s1 with heap := PySem.W.sortingHeap (s1.heap.push (seqObj "list" us1.toArray 0)) s1.heap.objs.size us1 }) (PySem.W.each_map (R := fun v d => ∃ as, Reads (PySem.W.sortingHeap (s1.heap.push (seqObj "list" us1.toArray 0)) s1.heap.objs.size us1) v d as) (fun b : V × Dt => py b.2) E') hal hsk hub) hz1 ⟨.none, rfl, ?_⟩) (args_list_sort _)))
  refine wpAny_pure ⟨_, rfl, ?_⟩
  have out := each_out (PySem.W.sortVals_data (h' := PySem.W.sortingHeap (s1.heap.push (seqObj "list" us1.toArray 0)) s1.heap.objs.size us1) (enc := fun b : V × Dt => py b.2) false E E' hal)
  obtain ⟨o1, o2⟩ := out
  have hsr : ((xs.zip ds).mergeSort (PySem.W.dataLe false fun b : V × Dt => py b.2)).map (fun b => b.2) = sortD ds := by
    have := List.map_mergeSort (r := PySem.W.dataLe false fun b : V × Dt => py b.2) (s := leD) (f := fun b : V × Dt => b.2) (l := xs.zip ds) fun a _ b _ => rfl
    rw [this, reps_zip rp]; rfl
  rw [hsr] at o2
  obtain ⟨c, hc'⟩ := sortedHeap_at (vs := us1) (out := (PySem.W.sortVals (PySem.W.dataKind (PySem.W.sortingHeap (s1.heap.push (seqObj "list" us1.toArray 0)) s1.heap.objs.size us1) ((xs.zip ds).map fun b : V × Dt => py b.2)) false us1 us1).toArray) hl
  have hlen : (((xs.zip ds).mergeSort (PySem.W.dataLe false fun b : V × Dt => py b.2)).map (fun b => b.1)).length ≤ sizeLine := by
    rw [← o2.length, ← hsr]
    simp only [List.length_map, List.length_mergeSort, List.length_zip]
    omega
  refine ⟨.ref s1.heap.objs.size, upd H s1.heap.objs.size (.lst (((xs.zip ds).mergeSort (PySem.W.dataLe false fun b : V × Dt => py b.2)).map (fun b => b.1))), I1.laid (t' := s1.toks) (fun b o e => ?_) (Nat.le_refl _) ⟨hlen, _, c, o1, hc'⟩, rfl, q _ _ (I1.hok.fresh (Nat.le_refl _)) o2⟩
  rw [sortedHeap_old (Nat.ne_of_lt (Heap.lt_size e)) (Nat.lt_of_lt_of_le (Heap.lt_size e) (by rw [size_push']; exact Nat.le_succ _))]
  exact Heap.get?_push_of_some _ e
end
end Fw

/-! Gs2: sets of keys (ints, texts) made of a list, and put in order. -/
namespace Fw
open PySem PySem.Spec PyProof.Rows L2
section
variable {P : Program} {w : World} {K : Type} [DecidableEq K] {kd : PySem.KeyKind P w K}
/-- the set at a holds the keys of L, each once; it can be walked -/
structure SetG (kd : PySem.KeyKind P w K) (h : Heap) (a : Addr) (L : List (K × Value)) : Prop where
  ob : ∃ o es ep t, h.get? a = some o ∧ o.ExactSet ∧ o.data = .set es ep t ∧ List.Perm es.toList (L.map fun p => (kd.hash p.1, p.2)) ∧ es.size < scanBound ∧ t.fits es.size = true ∧ Ris t.place.toList ∧ (w.params.followText "set-order" = true ∨ t.led = true)
  keys : ∀ p ∈ L, kd.is p.1 p.2 = true ∧ p.2.scannable = true
  nd : (L.map (·.1)).Nodup
theorem SetG.keep {h h' : Heap} {a : Addr} {L : List (K × Value)} (R : SetG kd h a L) (k : ∀ o, h.get? a = some o → h'.get? a = some o) : SetG kd h' a L := by
  obtain ⟨⟨o, es, ep, t, ho, r⟩, b, c⟩ := R
  exact ⟨⟨o, es, ep, t, k o ho, r⟩, b, c⟩
/-- with one more key, unless it is there -/
def addG (k : K) (v : Value) (L : List (K × Value)) : List (K × Value) := if k ∈ L.map (·.1) then L else (k, v) :: L
theorem elemsG {es : Array (Int × Value)} {L : List (K × Value)} (pm : List.Perm es.toList (L.map fun p => (kd.hash p.1, p.2))) (hk : ∀ p ∈ L, kd.is p.1 p.2 = true ∧ p.2.scannable = true) : ElemsOf kd es.toList := fun e he => by
  obtain ⟨p, hp, rfl⟩ := List.mem_map.mp (pm.mem_iff.mp he)
  exact ⟨⟨p.1, (hk p hp).1, rfl⟩, (hk p hp).2⟩
theorem hasG {es : Array (Int × Value)} {L : List (K × Value)} (pm : List.Perm es.toList (L.map fun p => (kd.hash p.1, p.2))) (hk : ∀ p ∈ L, kd.is p.1 p.2 = true ∧ p.2.scannable = true) (k : K) :
    (∃ e ∈ es.toList, kd.is k e.2 = true) ↔ k ∈ L.map (·.1) := by
  constructor
  · rintro ⟨e, he, q⟩
    obtain ⟨p, hp, rfl⟩ := List.mem_map.mp (pm.mem_iff.mp he)
    exact List.mem_map.mpr ⟨p, hp, kd.inj _ _ _ (hk p hp).1 q⟩
  · intro hm
    obtain ⟨p, hp, rfl⟩ := List.mem_map.mp hm
    exact ⟨_, pm.mem_iff.mpr (List.mem_map.mpr ⟨p, hp, rfl⟩), (hk p hp).1⟩
section
variable {A : Around} {E : Value → Shared → Prop} {s : Shared} {a : Addr} {L : List (K × Value)}
/-- what is written at the end of an add -/
theorem tailG {give : Bool → Sem Unit} (hgive : ∀ (b : Bool) (s1 : Shared) (Q1 : Unit → Shared → Prop), Q1 () s1 → wpAny (model P w) A (give b) Q1 E s1)
    {o : Obj} {es : Array (Int × Value)} {ep : Nat} {t : SetTable} (ho : s.heap.get? a = some o) (hx : o.ExactSet) (hd : o.data = .set es ep t)
    {fs : Array (Int × Value)} {u : SetTable} (pm : List.Perm fs.toList (L.map fun p => (kd.hash p.1, p.2))) (hk : ∀ p ∈ L, kd.is p.1 p.2 = true ∧ p.2.scannable = true) (nd : (L.map (·.1)).Nodup)
    (hz : fs.size < scanBound) (hf : u.fits fs.size = true) (hr : Ris u.place.toList) (hl : w.params.followText "set-order" = true ∨ u.led = true) {dm : Bool} {Q : Option Bool → Shared → Prop}
    (h : ∀ h', Heap.SameBut a s.heap h' → SetG kd h' a L → Q (some true) { s with heap := h' }) :
    wpAny (model P w) A (do
        storeSet a fs u
        if (!dm && u.tooFull) = true then do
            give (relayAll u fs (SetTable.grown fs.size)).2.2
            storeSet a (relayAll u fs (SetTable.grown fs.size)).1 (relayAll u fs (SetTable.grown fs.size)).2.1
            pure (some true)
          else pure (some true)) Q E s := by
  refine wpAny_bind (wpAny_storeSet_of ho hd ?_ (fits_of_scanBound hz))
  have at1 := store_at (es' := fs) (t' := u) ho hd
  have same1 := Heap.SameBut.update s.heap a (Obj.putSet fs u)
  split
  · have p2 := relayAll_perm u fs (SetTable.grown fs.size)
    have f2 := relayAll_fits u fs (SetTable.grown fs.size)
    have r2 := relayAll_ris u fs (SetTable.grown fs.size)
    have l2 := relayAll_led u fs (SetTable.grown fs.size)
    generalize relayAll u fs (SetTable.grown fs.size) = Y at p2 f2 r2 l2 ⊢
    obtain ⟨gs, u2, gv⟩ := Y
    dsimp only at p2 f2 r2 l2 ⊢
    have z2 : gs.size < scanBound := by rw [← Array.length_toList, p2.length_eq, Array.length_toList]; exact hz
    refine wpAny_bind (hgive _ _ _ ?_)
    refine wpAny_bind (wpAny_storeSet_of at1 rfl ?_ (fits_of_scanBound z2))
    exact wpAny_pure (h _ (same1.trans (Heap.SameBut.update _ a _)) ⟨⟨_, gs, _, u2, store_at (es' := gs) (t' := u2) at1 rfl, hx, rfl, p2.trans pm, z2, f2, r2, hl.imp id fun z => by rw [l2]; exact z⟩, hk, nd⟩)
  · exact wpAny_pure (h _ same1 ⟨⟨_, fs, _, u, at1, hx, rfl, pm, hz, hf, hr, hl⟩, hk, nd⟩)
theorem addHashedG {k : K} {v : Value} {Q : Bool → Shared → Prop} (R : SetG kd s.heap a L) (hkey : kd.is k v = true) (hsc : v.scannable = true) (room : L.length + 1 < scanBound)
    (h : ∀ b h', Heap.SameBut a s.heap h' → SetG kd h' a (addG k v L) → Q b { s with heap := h' }) :
    wpAny (model P w) A (setAddHashed a v (kd.hash k)) Q E s := by
  obtain ⟨⟨o, es, ep, t, ho, hx, hd, pm, hz, hf, hr, hl⟩, hk, nd⟩ := R
  have hel := elemsG pm hk
  unfold setAddHashed setAddHashedIn
  refine wpAny_holding (wpAny_bind (wpAny_setState_of ho hd hf ?_))
  dsimp only
  rw [byScan_of hsc hz hel]
  simp only [↓reduceIte]
  unfold setAddByScan
  refine wpAny_bind ?_
  refine wpAny_bind (wpAny_rule ?_)
  refine wpAny_bind (wpAny_setScan_of hkey ho hd hf hel ?_)
  cases hfi : List.findIdx? (fun e => kd.is k e.2) es.toList with
  | some j =>
    dsimp only
    obtain ⟨hj, pj, _⟩ := List.findIdx?_eq_some_iff_getElem.mp hfi
    have hin : k ∈ L.map (·.1) := (hasG pm hk k).mp ⟨es.toList[j], List.getElem_mem hj, pj⟩
    refine wpAny_pure (wpAny_pure (h false s.heap (Heap.SameBut.refl a s.heap) ?_))
    unfold addG
    rw [if_pos hin]
    exact ⟨⟨o, es, ep, t, ho, hx, hd, pm, hz, hf, hr, hl⟩, hk, nd⟩
  | none =>
    dsimp only
    have hno : k ∉ L.map (·.1) := fun z => by
      obtain ⟨e, he, q⟩ := (hasG pm hk k).mpr z
      have c := List.findIdx?_eq_none_iff.mp hfi e he
      rw [q] at c
      cases c
    have hgw : ∀ (b : Bool) {s₁ : Shared} {Q' : Unit → Shared → Prop}, Q' () s₁ → wpAny (model P w) A (match b with | true => rule "set.scan.the-table-gave-way" | false => pure ()) Q' E s₁ :=
      fun b s₁ Q' q => by cases b <;> first | exact wpAny_pure q | exact wpAny_rule q
    have p1 := layNew_perm t es (kd.hash k) v
    have f1 := layNew_fits t es (kd.hash k) v
    have r1 := layNew_ris t es (kd.hash k) v hr
    have l1 := layNew_led t es (kd.hash k) v
    generalize layNew t es (kd.hash k) v = Y at p1 f1 r1 l1 ⊢
    obtain ⟨fs, t1, dm, gv⟩ := Y
    dsimp only at p1 f1 r1 l1 ⊢
    rw [Array.toList_push] at p1
    have pc : List.Perm fs.toList (((k, v) :: L).map fun p => (kd.hash p.1, p.2)) := p1.trans ((List.perm_append_singleton _ _).trans (List.Perm.cons _ pm))
    have hk1 : ∀ p ∈ (k, v) :: L, kd.is p.1 p.2 = true ∧ p.2.scannable = true := fun p hp => by
      rcases List.mem_cons.mp hp with z | z
      · rw [z]; exact ⟨hkey, hsc⟩
      · exact hk p z
    have nd1 : (((k, v) :: L).map (·.1)).Nodup := List.nodup_cons.mpr ⟨hno, nd⟩
    have z1 : fs.size < scanBound := by rw [← Array.length_toList, pc.length_eq, List.length_map, List.length_cons]; exact room
    have hled : w.params.followText "set-order" = true ∨ t1.led = true := hl.imp id fun z => by rw [l1]; exact z
    have fin : ∀ h', Heap.SameBut a s.heap h' → SetG kd h' a ((k, v) :: L) → Q true { s with heap := h' } := fun h' sb r => h true h' sb (by unfold addG; rw [if_neg hno]; exact r)
    refine wpAny_bind (hgw _ ?_)
    split
    · refine wpAny_bind ?_
      rw [hashByValue_scannable 8 hsc]
      refine wpAny_pure ?_
      refine tailG (L := (k, v) :: L) ?_ ho hx hd pc hk1 nd1 z1 ?_ ?_ ?_ ?_
      · intro b s₁ Q' q; cases b <;> first | exact wpAny_pure q | exact wpAny_rule q
      · first | (split <;> first | exact f1 | exact SetTable.fits_plain_off f1) | exact f1
      · first | (split <;> exact r1) | exact r1
      · first | (split <;> exact hled) | exact hled
      · intro h' sb r; dsimp only; exact wpAny_pure (fin h' sb r)
    · refine wpAny_bind (wpAny_pure ?_)
      simp only [↓reduceIte]
      refine tailG (L := (k, v) :: L) ?_ ho hx hd pc hk1 nd1 z1 f1 r1 hled ?_
      · intro b s₁ Q' q; cases b <;> first | exact wpAny_pure q | exact wpAny_rule q
      · intro h' sb r; dsimp only; exact wpAny_pure (fin h' sb r)
end
end
end Fw

/-! Gs3: set(xs) of a list of keys. -/
namespace Fw
open PySem PySem.Spec PyProof.Rows L2
section
variable {P : Program} {w : World} {K : Type} [DecidableEq K] {kd : PySem.KeyKind P w K}
theorem addG_mem {k : K} {v : Value} {L : List (K × Value)} (j : K) : j ∈ (addG k v L).map (·.1) ↔ j ∈ L.map (·.1) ∨ j = k := by
  unfold addG
  by_cases h : k ∈ L.map (·.1)
  · rw [if_pos h]
    exact ⟨.inl, fun z => z.elim id fun e => e ▸ h⟩
  · rw [if_neg h, List.map_cons, List.mem_cons]
    exact Or.comm
theorem addG_len (k : K) (v : Value) (L : List (K × Value)) : (addG k v L).length ≤ L.length + 1 := by
  unfold addG
  split
  · omega
  · exact Nat.le_refl _
/-- the keys of L are those of ks -/
def Hasks (L : List (K × Value)) (ks : List K) : Prop := ∀ j, j ∈ L.map (·.1) ↔ j ∈ ks
theorem setG_fresh {h : Heap} {a : Addr} (ho : h.get? a = some { cls := .type "set", dict := none, data := .set #[] 0 (.fresh 0 0 (!w.params.followText "set-order")) }) : SetG kd h a [] :=
  ⟨⟨_, #[], 0, _, ho, ⟨rfl, rfl, rfl⟩, rfl, List.Perm.refl _, by decide, by rfl, List.Pairwise.nil, by
    show _ ∨ (!w.params.followText "set-order") = true
    cases w.params.followText "set-order"
    · exact .inr rfl
    · exact .inl rfl⟩, (fun p hp => by cases hp), List.nodup_nil⟩
section
variable {A : Around} {E : Value → Shared → Prop} {s : Shared}
theorem loopG {I : Addr} {fp wr : List Addr} {G : Array GenState → Array GenState → Prop} {n : Nat} {Pv : Nat → Value → Prop} {St : Nat → Shared → Prop} {R : Result → Shared → Prop}
    (W : WalksS P w A.in1 I fp wr G n Pv St) (S : Addr) (hSf : S ∉ fp) (ks : List K) (hn : n = ks.length) (hb : ks.length + 1 < scanBound) (hval : ∀ i v, Pv i v → ∃ k, ks[i]? = some k ∧ kd.is k v = true ∧ v.scannable = true) :
    ∀ (m i : Nat) (s : Shared), n - i = m → i ≤ n → St i s → (∃ L, L.length ≤ i ∧ SetG kd s.heap S L ∧ Hasks L (ks.take i)) →
      (∀ s' L, Moved (S :: wr) G s s' → SetG kd s'.heap S L → Hasks L ks → R (.ok (.ret .none)) s') → codeAny (model P w) A (.builtin "set.update.loop" ⟨[.ref S, .ref I], []⟩) R s := by
  have away : S ∉ wr := fun z => hSf (W.sub _ z)
  have more : ∀ b ∈ wr, b ∈ S :: wr := fun b z => List.mem_cons_of_mem _ z
  intro m
  induction m with
  | zero =>
    intro i s hm hi hst ⟨L, _, hS, hL⟩ hR
    have hin : i = n := by omega
    subst hin
    refine codeAny_builtin F.entry_set_update_loop ?_
    rw [Around.under_plainId F.plain_set_update_loop _]
    show wpAny _ A.in1 (pyNext (.ref I) >>= _) _ _ s
    refine wpAny_bind (W.done s _ _ hst fun s' mv => ?_)
    show wpAny _ A.in1 (ret Value.none) _ _ s'
    rw [List.take_of_length_le (Nat.le_of_eq hn.symm)] at hL
    exact wpAny_pure (hR s' L (mv.mono more) (hS.keep fun o e => mv.heap S o away e) hL)
  | succ m ih =>
    intro i s hm hi hst ⟨L, hz, hS, hL⟩ hR
    have lt : i < n := by omega
    refine codeAny_builtin F.entry_set_update_loop ?_
    rw [Around.under_plainId F.plain_set_update_loop _]
    show wpAny _ A.in1 (pyNext (.ref I) >>= _) _ _ s
    refine wpAny_bind (W.item i s _ _ lt hst fun v s' hP hst' mv => ?_)
    obtain ⟨k, ek, kis, ksc⟩ := hval i v hP
    have hS1 : SetG kd s'.heap S L := hS.keep fun o e => mv.heap S o away e
    show wpAny _ A.in1 (holding [v] (setAdd S v) >>= _) _ _ s'
    refine wpAny_bind (wpAny_holding ?_)
    unfold setAdd
    refine wpAny_holding (wpAny_bind (kd.pyHash (k := k) kis ?_))
    refine addHashedG (s := { s' with toks := s'.toks + 1 }) hS1 kis ksc (by omega) fun b h' sb hS2 => ?_
    have hL2 : Hasks (addG k v L) (ks.take (i + 1)) := fun j => by
      rw [addG_mem, List.take_add_one, ek, List.mem_append, hL j]
      simp
    refine wpAny_pure ⟨plainId_quiet F.plain_set_update_loop _, ih (i + 1) _ (by omega) lt (W.frame _ s' _ _ hst' (Nat.le_succ _) fun c hc o e => ?_) ⟨_, Nat.le_trans (addG_len k v L) (by omega), hS2, hL2⟩ fun s2 L2 mv2 hS3 hL3 => ?_⟩
    · exact (sb.2 c fun z => hSf (z ▸ hc)).trans e
    · refine hR s2 L2 (Moved.trans W.gtrans ((mv.mono more).then_heap (Nat.le_succ _) fun c o hc e => ?_) mv2) hS3 hL3
      exact (sb.2 c fun z => hc (z ▸ List.mem_cons_self)).trans e
theorem callSetG {l : Addr} {items : Array Value} (ks : List K) {Q : Value → Shared → Prop} (hh : A.handled = none) (hl : s.heap.IsList l items) (hit : ∀ (i : Nat) (v : Value), items[i]? = some v → ∃ k, ks[i]? = some k ∧ kd.is k v = true ∧ v.scannable = true)
    (hz : items.size = ks.length) (hb : ks.length + 1 < scanBound)
    (h : ∀ (h' : Heap) (tk : Nat) L, SetG kd h' s.heap.objs.size L → Hasks L ks → (∀ b o, s.heap.get? b = some o → h'.get? b = some o) → Q (.ref s.heap.objs.size) { s with heap := h', toks := tk }) :
    wpAny (model P w) A (call (.type "set") [.ref l]) Q E s := by
  obtain ⟨c, tl, hmro⟩ := F.called_set.mro
  have hmade := F.called_set.made
  have hsub := F.called_set.sub
  refine wpAny_call (codeAny_of_tree ?_)
  show wpAny _ _ (callAny (.type "set") _) _ _ _
  refine wpAny_pure ⟨Code.quiet_builtin _ (by decide +kernel), codeAny_builtin F.entry_type_call ?_⟩
  rw [Around.under_plain (weight_type_call_type "set" [.ref l] []) rfl]
  have h1 := F.called_set.notType
  have h2 := F.called_set.canCreate
  have hct := F.typeCall_set_1 (.ref l)
  repeat (any_goals (first | assumption | wp_step))
  refine codeAny_mono (code_set_led1 (.ref l) (E := E) (Q₁ := fun obj s₁ => obj = .ref s.heap.objs.size ∧ s₁ = { s with heap := s.heap.push { cls := .type "set", dict := none, data := .set #[] 0 (.fresh 0 0 (!w.params.followText "set-order")) } }) ⟨rfl, rfl⟩) fun r s₁ hr => ?_
  cases r with
  | error e => exact hr
  | ok fl =>
    cases fl with
    | ret obj =>
      obtain ⟨rfl, rfl⟩ := hr
      have hS : (s.heap.push { cls := .type "set", dict := none, data := .set #[] 0 (.fresh 0 0 (!w.params.followText "set-order")) }).get? s.heap.objs.size = some { cls := .type "set", dict := none, data := .set #[] 0 (.fresh 0 0 (!w.params.followText "set-order")) } := Heap.get?_push_size _ rfl
      have hT : Shared.TypeIs { s with heap := s.heap.push { cls := .type "set", dict := none, data := .set #[] 0 (.fresh 0 0 (!w.params.followText "set-order")) } } (.ref s.heap.objs.size) "set" := ⟨_, hS, rfl⟩
      have hli := F.called_set.init.lookup
      have hbi := F.called_set.init.bind (.ref s.heap.objs.size)
      repeat (any_goals (first | assumption | wp_step))
      refine codeAny_mono (codeAny_call_builtin (R := wants (fun r s₂ => r = .none ∧ ∃ h' tk L, s₂ = { s with heap := h', toks := tk } ∧ SetG kd h' s.heap.objs.size L ∧ Hasks L ks ∧
          (∀ b o, s.heap.get? b = some o → h'.get? b = some o)) E) F.called_set.init.plain F.entry_set_init (check_set_init_1 hT ?_)) fun r₂ s₂ hr₂ => ?_
      · obtain ⟨ol, hol, hcl, nl, hdl⟩ := hl
        obtain ⟨ocls, odict, odata, oslots⟩ := ol
        simp only at hcl hdl
        subst hcl; subst hdl
        have hol' : (s.heap.push { cls := .type "set", dict := none, data := .set #[] 0 (.fresh 0 0 (!w.params.followText "set-order")) }).get? l = some { cls := .type "list", dict := odict, data := .seq items nl, slots := oslots } := Heap.get?_push_of_some _ hol
        have hsls := F.sub_list_set
        have hslf := F.sub_list_frozenset
        have hne : (Value.type "list" == Value.type "dict") = false := by decide
        have hl1 : (s.heap.push { cls := .type "set", dict := none, data := .set #[] 0 (.fresh 0 0 (!w.params.followText "set-order")) }).IsList l items := ⟨_, hol', rfl, nl, rfl⟩
        unfold Builtin.«set.__init__» noKeywords Builtin.Frozenset.updateFrom
        generalize hPI : pyIter = PI
        wp_walk
        subst hPI
        refine wpAny_pyIter_list hl1 ?_
        refine wpAny_bind (wpAny_runValue ?_)
        have lt : l < s.heap.objs.size := Heap.lt_size hol
        have hsz : (s.heap.push { cls := .type "set", dict := none, data := .set #[] 0 (.fresh 0 0 (!w.params.followText "set-order")) }).objs.size = s.heap.objs.size + 1 := Heap.size_push ..
        have nl2 : l ≠ (s.heap.push { cls := .type "set", dict := none, data := .set #[] 0 (.fresh 0 0 (!w.params.followText "set-order")) }).objs.size := by rw [hsz]; exact Nat.ne_of_lt (Nat.lt_succ_of_lt lt)
        have nS : s.heap.objs.size ∉ [(s.heap.push { cls := .type "set", dict := none, data := .set #[] 0 (.fresh 0 0 (!w.params.followText "set-order")) }).objs.size, l] := by
          rw [hsz]
          simp only [List.mem_cons, List.not_mem_nil, or_false, not_or]
          exact ⟨Nat.ne_of_lt (Nat.lt_succ_self _), Nat.ne_of_gt lt⟩
        refine loopG ((Walks.list (show A.in1.in1.in1.handled = none by simp [hh]) _ l nl2 items).toS) s.heap.objs.size nS ks hz hb hit (items.size - 0) 0 _ (by omega) (Nat.zero_le _)
          ⟨⟨_, Heap.get?_push_size _ rfl, rfl, rfl⟩, (hl1.push _)⟩ ⟨[], Nat.le_refl _, setG_fresh (Heap.get?_push_of_some _ hS), fun j => by simp⟩ fun s' L mv hS' hL => ?_
        obtain ⟨h', g2, d', tk', os'⟩ := s'
        have eg : g2 = s.gens := mv.gens
        have ed : d' = s.drawn := mv.drawn
        have eo : os' = s.os := mv.os
        subst eg; subst ed; subst eo
        show wpAny _ _ _ _ _ _
        refine wpAny_pure ?_
        show wpAny _ _ (ret Value.none) _ _ _
        refine wpAny_pure ⟨rfl, h', tk', L, rfl, hS', hL, fun b o e => ?_⟩
        have hb0 : b < s.heap.objs.size := Heap.lt_size e
        refine mv.heap b o ?_ (Heap.get?_push_of_some _ (Heap.get?_push_of_some _ e))
        rw [hsz]
        simp only [List.mem_cons, List.not_mem_nil, or_false, not_or]
        exact ⟨Nat.ne_of_lt hb0, Nat.ne_of_lt (Nat.lt_succ_of_lt hb0)⟩
      · cases r₂ with
        | error e => exact hr₂
        | ok fl₂ =>
          cases fl₂ with
          | ret r =>
            obtain ⟨rfl, h', tk, L, rfl, hS', hL, hk'⟩ := hr₂
            repeat (any_goals (first | assumption | wp_step))
            exact h _ _ _ hS' hL hk'
          | _ => exact hr₂.elim
    | _ => exact hr.elim
end
end
end Fw

/-! Gs4: sorted(xs); sorted(set(xs)), xs ints or texts. -/
namespace Fw
open PySem PySem.Spec PyProof.Rows L2
/-! ### the order of keys -/
def pk : Key → PyData
  | .inl i => .int i
  | .inr x => .str x
def leK (a b : Key) : Bool := PySem.W.dataLe false pk a b
theorem leK_total : PySem.W.TotalLe leK := PySem.W.sortLe_total (listOrd itemOrd) false fun b => PySem.W.keyToks (pk b)
theorem pk_inj {a b : Key} (h : PySem.W.keyToks (pk a) = PySem.W.keyToks (pk b)) : a = b := by
  cases a with
  | inl i => cases b with
    | inl j => simp [pk, PySem.W.keyToks] at h; rw [h]
    | inr y => simp [pk, PySem.W.keyToks] at h
  | inr x => cases b with
    | inl j => simp [pk, PySem.W.keyToks] at h
    | inr y => simp [pk, PySem.W.keyToks] at h; rw [PySem.W.str_of_cps (x := x) (y := y) (by simpa using h)]
theorem leK_anti {a b : Key} (h1 : leK a b = true) (h2 : leK b a = true) : a = b := by
  have e1 : lexLt itemOrd (PySem.W.keyToks (pk b)) (PySem.W.keyToks (pk a)) = false := by simpa [leK, PySem.W.dataLe, PySem.W.sortLe] using h1
  have e2 : lexLt itemOrd (PySem.W.keyToks (pk a)) (PySem.W.keyToks (pk b)) = false := by simpa [leK, PySem.W.dataLe, PySem.W.sortLe] using h2
  exact pk_inj (lex_total (O := itemOrd) _ _ e2 e1)
theorem sort_same {l m : List Key} (p : l.Perm m) : l.mergeSort leK = m.mergeSort leK :=
  List.Perm.eq_of_pairwise (le := fun a b => leK a b = true) (fun a b _ _ h1 h2 => leK_anti h1 h2) (PySem.W.sort_pairwise leK_total l) (PySem.W.sort_pairwise leK_total m)
    ((List.mergeSort_perm l leK).trans (p.trans (List.mergeSort_perm m leK).symm))
instance (k : Key) (ks : List Key) : Decidable (k ∈ ks) := @List.instDecidableMemOfLawfulBEq Key instBEqOfDecidableEq inferInstance k ks
def nubK : List Key → List Key
  | [] => []
  | k :: ks => if k ∈ ks then nubK ks else k :: nubK ks
theorem nubK_mem : ∀ (ks : List Key) (j : Key), j ∈ nubK ks ↔ j ∈ ks
  | [], j => Iff.rfl
  | k :: ks, j => by
    unfold nubK
    by_cases h : k ∈ ks
    · rw [if_pos h, nubK_mem ks j, List.mem_cons]
      exact ⟨.inr, fun z => z.elim (fun e => e ▸ h) id⟩
    · rw [if_neg h, List.mem_cons, List.mem_cons, nubK_mem ks j]
theorem nubK_nodup : ∀ (ks : List Key), (nubK ks).Nodup
  | [] => List.nodup_nil
  | k :: ks => by
    unfold nubK
    by_cases h : k ∈ ks
    · rw [if_pos h]; exact nubK_nodup ks
    · rw [if_neg h]; exact List.nodup_cons.mpr ⟨fun z => h ((nubK_mem ks k).mp z), nubK_nodup ks⟩
def sortK (ks : List Key) : List Key := (nubK ks).mergeSort leK
theorem perm_back {α β : Type} {f : β → α} : ∀ {us : List α} {l : List β}, us.Perm (l.map f) → ∃ l' : List β, l'.Perm l ∧ us = l'.map f := by
  intro us l h
  generalize e : l.map f = vs at h
  induction h generalizing l with
  | nil => exact ⟨l, List.Perm.refl _, e.symm⟩
  | cons x _ ih =>
    cases l with
    | nil => cases e
    | cons a l =>
      injection e with e1 e2
      obtain ⟨l', p, q⟩ := ih e2
      exact ⟨a :: l', p.cons a, by rw [List.map_cons, e1, q]⟩
  | swap x y t =>
    match l, e with
    | a :: b :: l, e =>
      injection e with e1 e2
      injection e2 with e2 e3
      exact ⟨b :: a :: l, List.Perm.swap _ _ _, by rw [List.map_cons, List.map_cons, e1, e2, e3]⟩
  | trans _ _ ih1 ih2 =>
    obtain ⟨l1, p1, q1⟩ := ih2 e
    obtain ⟨l2, p2, q2⟩ := ih1 q1.symm
    exact ⟨l2, p2.trans p1, q2⟩
/-- all of one kind -/
def oneKind (ks : List Key) : Bool := ks.all (fun k => k.isLeft) || ks.all (fun k => k.isRight)
theorem alikeK {ks : List Key} (h : oneKind ks = true) : PySem.W.AllAlike (ks.map pk) := by
  intro d hd e he
  obtain ⟨a, ha, rfl⟩ := List.mem_map.mp hd
  obtain ⟨b, hb, rfl⟩ := List.mem_map.mp he
  rcases Bool.or_eq_true_iff.mp h with h | h
  · have h1 := List.all_eq_true.mp h a ha
    have h2 := List.all_eq_true.mp h b hb
    cases a <;> cases b <;> first | (cases h1; done) | (cases h2; done) | simp [pk, PySem.W.alike]
  · have h1 := List.all_eq_true.mp h a ha
    have h2 := List.all_eq_true.mp h b hb
    cases a <;> cases b <;> first | (cases h1; done) | (cases h2; done) | simp [pk, PySem.W.alike]
theorem sortableK (ks : List Key) : PySem.W.Sortable (ks.map pk) := .inr fun d hd => by
  obtain ⟨a, _, rfl⟩ := List.mem_map.mp hd
  cases a <;> simp [pk]
section
variable {X : Cx}
/-- the set at a -/
def SetGO (P : Program) (w : World) (a : Addr) (ks : List Key) : HO := .ext fun h => ∃ L, SetG (mixKind P w) h a L ∧ Hasks L ks
theorem setGO_new {P : Program} {w : World} {H : Hp} {h : Heap} {a : Addr} {ks : List Key} {L : List (Key × Value)} (R : SetG (mixKind P w) h a L) (q : Hasks L ks) : ObjOk P w H h a (SetGO P w a ks) := by
  have ⟨o, _, _, _, ho, _⟩ := R.ob
  exact ⟨⟨L, R, q⟩, ⟨o, ho⟩, fun h1 h2 ⟨L, p, q⟩ k => ⟨L, p.keep k, q⟩⟩
def rSetGO (X : Cx) : List V → Hp → VK → Prop := fun vs H Q => ∃ (l : Addr) (ks : List Key), vs = [V.ref l] ∧ SqL X.K H l (ks.map kV) ∧ ks.length + 1 < scanBound ∧ ∀ p, H p = none → Q (.ref p) (upd H p (SetGO X.prog X.w p ks))
theorem cr_setGO (hc : X.calm = true) : CallR X (.type "set") (rSetGO X) := by
  intro pins s σ H vs us Q I r h
  obtain ⟨l, ks, rfl, hl, hb, q⟩ := h
  rw [Vals.ref1 r]
  obtain ⟨its, rv, pl, hz⟩ := I.list hl
  have hn : H s.heap.objs.size = none := I.hok.fresh (Nat.le_refl _)
  have hlen : its.length = ks.length := by rw [← rv.length, List.length_map]
  refine callSetG (kd := mixKind X.prog X.w) ks (I.ok.hd hc) pl.isList (fun i v hv => ?_) (by simpa using hlen) hb fun h' tk L R hL k => ?_
  · obtain ⟨x, hx, rx⟩ := vals_get' (j := i) (u := v) rv (by simpa using hv)
    rw [List.getElem?_map] at hx
    obtain ⟨kk, e1, rfl⟩ := Option.map_eq_some_iff.mp hx
    exact ⟨kk, e1, kV_is rx, key_scan rx⟩
  · exact ⟨.ref s.heap.objs.size, upd H s.heap.objs.size (SetGO X.prog X.w s.heap.objs.size ks), I.laid (t' := tk) k (Nat.le_refl _) (setGO_new R hL), rfl, q _ hn⟩
theorem key_rel {P : Program} {w : World} {k : Key} {v : Value} (h : (mixKind P w).is k v = true) : RelV (kV k) v := by
  rcases keyIs_shape h with ⟨i, t, rfl, e⟩ | ⟨x, t, rfl, e⟩
  · exact ⟨t, e⟩
  · exact ⟨t, e⟩
theorem key_reads {P : Program} {w : World} {h : Heap} {k : Key} {v : Value} (q : (mixKind P w).is k v = true) : ∃ as, Reads h v (pk k) as := by
  rcases keyIs_shape q with ⟨i, t, rfl, e⟩ | ⟨x, t, rfl, e⟩
  · rw [e]; exact ⟨_, Reads.int i t⟩
  · rw [e]; exact ⟨_, Reads.str x t⟩
theorem each_keysG {P : Program} {w : World} {h : Heap} : ∀ (L : List (Key × Value)), (∀ p ∈ L, (mixKind P w).is p.1 p.2 = true) → PySem.W.EachIs (fun v (p : Key × Value) => v = p.2 ∧ (mixKind P w).is p.1 p.2 = true) (L.map fun p : Key × Value => p.2) L ∧
    PySem.W.EachIs (fun v (p : Key × Value) => ∃ as, Reads h v (pk p.1) as) (L.map fun p : Key × Value => p.2) L
  | [], _ => ⟨.nil, .nil⟩
  | p :: L, hk => ⟨.cons ⟨rfl, hk p List.mem_cons_self⟩ (each_keysG (h := h) L fun q hq => hk q (List.mem_cons_of_mem _ hq)).1, .cons (key_reads (hk p List.mem_cons_self)) (each_keysG L fun q hq => hk q (List.mem_cons_of_mem _ hq)).2⟩
theorem each_valsG {P : Program} {w : World} : ∀ {us : List Value} {L : List (Key × Value)}, PySem.W.EachIs (fun v (p : Key × Value) => v = p.2 ∧ (mixKind P w).is p.1 p.2 = true) us L → Vals ((L.map (·.1)).map kV) us
  | _, _, .nil => .nil
  | _, _, .cons ⟨e, q⟩ t => .cons (by rw [e]; exact key_rel q) (each_valsG t)
def rSortGO (X : Cx) : List V → Hp → VK → Prop := fun vs H Q => ∃ (a : Addr) (ks : List Key), vs = [V.ref a] ∧ H a = some (SetGO X.prog X.w a ks) ∧ oneKind ks = true ∧ ∀ p, H p = none → Q (.ref p) (upd H p (.lst ((sortK ks).map kV)))
theorem cr_sortGO (hc : X.calm = true) (hu : X.A.units + 64 < cLine) : CallR X (.builtin "sorted") (rSortGO X) := by
  intro pins s σ H vs us Q I r h
  obtain ⟨a, ks, rfl, ha, hone, q⟩ := h
  rw [Vals.ref1 r]
  obtain ⟨L, R, hL⟩ : ∃ L, SetG (mixKind X.prog X.w) s.heap a L ∧ Hasks L ks := (I.hok a _ ha).1
  obtain ⟨⟨o, es, ep, t, ho, hx, hd, pm, hz, hf, hr, hl⟩, hk, nd⟩ := R
  refine Calls.call_function_entry kind_sorted plain_sorted entry_sorted (args_sorted1 _) ?_
  unfold Builtin.«sorted»
  refine wpAny_bind (m := checkCount "sorted" 1 1 _) (wpAny_pure ?_)
  refine wpAny_bind (collect_set (A := X.A.in1) (I.ok.hd hc) ⟨o, ho, hx.1, hd⟩ hf hz hr hl fun s1 vs k1 hz1 g1 o1 pv => ?_)
  have pv2 : vs.Perm (L.map fun p : Key × Value => p.2) := by
    have e := pm.map (·.2)
    rw [List.map_map] at e
    exact pv.trans e
  obtain ⟨M, pM, rfl⟩ := perm_back pv2
  have hkM : ∀ p ∈ M, (mixKind X.prog X.w).is p.1 p.2 = true := fun p hp => (hk p (pM.mem_iff.mp hp)).1
  have hlen : (M.map fun p : Key × Value => p.2).length ≤ sizeLine := by
    rw [List.length_map, pM.length_eq]
    have e1 : L.length = es.size := by rw [← Array.length_toList, pm.length_eq, List.length_map]
    rw [e1, sizeLine_eq]
    unfold scanBound at hz
    omega
  have I1 : Inv X pins σ H s1 := I.call' (ch := []) o1 (Un.kept k1) (I.hok.kept k1) (by rw [g1]; exact I.bare) (fun _ z => nomatch z)
  refine wpAny_bind (wpAny_newList ?_ hlen)
  have hp : (s1.heap.push (seqObj "list" (M.map fun p : Key × Value => p.2).toArray 0)).get? s1.heap.objs.size = some (seqObj "list" (M.map fun p : Key × Value => p.2).toArray 0) := Heap.get?_push_size _ rfl
  have hmem : ∀ k ∈ M.map (·.1), k ∈ ks := fun k z => (hL k).mp ((pM.map (·.1)).mem_iff.mp z)
  have hone' : oneKind (M.map (·.1)) = true := by
    unfold oneKind at hone ⊢
    rcases Bool.or_eq_true_iff.mp hone with z | z
    · exact Bool.or_eq_true_iff.mpr (.inl (List.all_eq_true.mpr fun k hk' => List.all_eq_true.mp z k (hmem k hk')))
    · exact Bool.or_eq_true_iff.mpr (.inr (List.all_eq_true.mpr fun k hk' => List.all_eq_true.mp z k (hmem k hk')))
  have hmm : (M.map (·.1)).map pk = M.map fun p : Key × Value => pk p.1 := by rw [List.map_map]; rfl
  have hal : PySem.W.AllAlike (M.map fun p : Key × Value => pk p.1) := by rw [← hmm]; exact alikeK hone'
  have hsk : PySem.W.Sortable (M.map fun p : Key × Value => pk p.1) := by rw [← hmm]; exact sortableK _
  have hub : ∀ d, d ∈ (M.map fun p : Key × Value => pk p.1) → X.A.in1.in1.units + d.depth < cLine := by
    intro d hd'
    obtain ⟨p, _, rfl⟩ := List.mem_map.mp hd'
    have e1 : X.A.in1.in1.units = X.A.units + 2 := rfl
    have e2 : (pk p.1).depth = 0 := by cases p.1 <;> simp [pk, PyData.depth]
    omega
  have E1 := (each_keysG (P := X.prog) (w := X.w) (h := s1.heap) M hkM).1
  have E2 := (each_keysG (P := X.prog) (w := X.w) (h := PySem.W.sortingHeap (s1.heap.push (seqObj "list" (M.map fun p : Key × Value => p.2).toArray 0)) s1.heap.objs.size (M.map fun p : Key × Value => p.2)) M hkM).2
  refine wpAny_bind (wpAny_holding (wpAny_call_entry slot_list_sort ⟨_, hp, rfl⟩ entry_list_sort
    (PySem.W.list_sort_vals (κ := PySem.W.dataKind (PySem.W.sortingHeap (s1.heap.push (seqObj "list" (M.map fun p : Key × Value => p.2).toArray 0)) s1.heap.objs.size (M.map fun p : Key × Value => p.2)) (M.map fun p : Key × Value => pk p.1)) hp
      (PySem.W.SortsAt.data (s := { s1 with heap := PySem.W.sortingHeap (s1.heap.push (seqObj "list" (M.map fun p : Key × Value => p.2).toArray 0)) s1.heap.objs.size (M.map fun p : Key × Value => p.2) }) (PySem.W.each_map (R := fun v d => ∃ as, Reads (PySem.W.sortingHeap (s1.heap.push (seqObj "list" (M.map fun p : Key × Value => p.2).toArray 0)) s1.heap.objs.size (M.map fun p : Key × Value => p.2)) v d as) (fun p : Key × Value => pk p.1) E2) hal hsk hub) hlen ⟨.none, rfl, ?_⟩) (args_list_sort _)))
  refine wpAny_pure ⟨_, rfl, ?_⟩
  have out := each_valsG (PySem.W.sortVals_data (h' := PySem.W.sortingHeap (s1.heap.push (seqObj "list" (M.map fun p : Key × Value => p.2).toArray 0)) s1.heap.objs.size (M.map fun p : Key × Value => p.2)) (enc := fun p : Key × Value => pk p.1) false E1 E2 hal)
  have hso : (M.mergeSort (PySem.W.dataLe false fun p : Key × Value => pk p.1)).map (·.1) = sortK ks := by
    rw [List.map_mergeSort (r := PySem.W.dataLe false fun p : Key × Value => pk p.1) (s := leK) (f := fun p : Key × Value => p.1) (l := M) fun x _ y _ => rfl]
    exact sort_same ((List.perm_ext_iff_of_nodup ((pM.map (·.1)).nodup_iff.mpr nd) (nubK_nodup ks)).mpr fun k => by rw [(pM.map (·.1)).mem_iff, hL k, nubK_mem])
  rw [hso] at out
  obtain ⟨c, hc'⟩ := sortedHeap_at (vs := M.map (·.2)) (out := (PySem.W.sortVals (PySem.W.dataKind (PySem.W.sortingHeap (s1.heap.push (seqObj "list" (M.map fun p : Key × Value => p.2).toArray 0)) s1.heap.objs.size (M.map fun p : Key × Value => p.2)) (M.map fun p : Key × Value => pk p.1)) false (M.map fun p : Key × Value => p.2) (M.map fun p : Key × Value => p.2)).toArray) hp
  have hl3 : ((sortK ks).map kV).length ≤ sizeLine := by
    rw [List.length_map, ← hso, List.length_map, List.length_mergeSort]
    rw [List.length_map] at hlen
    exact hlen
  refine ⟨.ref s1.heap.objs.size, upd H s1.heap.objs.size (.lst ((sortK ks).map kV)), I1.laid (t' := s1.toks) (fun b o e => ?_) (Nat.le_refl _) ⟨hl3, _, c, out, hc'⟩, rfl, q _ (I1.hok.fresh (Nat.le_refl _))⟩
  rw [sortedHeap_old (Nat.ne_of_lt (Heap.lt_size e)) (Nat.lt_of_lt_of_le (Heap.lt_size e) (by rw [size_push']; exact Nat.le_succ _))]
  exact Heap.get?_push_of_some _ e
end
end Fw

/-! Gs5: sorted as a function of plain data. -/
namespace Fw
open PySem PySem.Spec PyProof.Rows L2
def fSorted : List Dt → Option Res
  | [d] => (fIter d).bind fun ds => if sortB ds = true then some (.new (.l (sortD ds))) else none
  | _ => none
def asKs : List Dt → Option (List Key)
  | [] => some []
  | .int i :: ds => (asKs ds).map (.inl i :: ·)
  | .str x :: ds => (asKs ds).map (.inr (st x) :: ·)
  | _ => none
def dK : Key → Dt
  | .inl i => .int i
  | .inr x => .str x.cps.toList
def fSortSet : Dt → Option Res
  | .lst ds => (asKs ds).bind fun ks => if (oneKind ks && decide (ks.length + 1 < scanBound)) = true then some (.new (.l ((sortK ks).map dK))) else none
  | _ => none
theorem reps_ks {K : PySem.W.Frag} {F : Hp} : ∀ {ds : List Dt} {ks : List Key} {xs : List V}, asKs ds = some ks → Reps K F ds xs → xs = ks.map kV
  | [], ks, xs, e, r => by cases e; exact r
  | .int i :: ds, ks, xs, e, ⟨v, t, e1, q, r⟩ => by
    obtain ⟨ks', e2, rfl⟩ := Option.map_eq_some_iff.mp e
    rw [e1, show v = .int i from q, reps_ks e2 r]; rfl
  | .str x :: ds, ks, xs, e, ⟨v, t, e1, q, r⟩ => by
    obtain ⟨ks', e2, rfl⟩ := Option.map_eq_some_iff.mp e
    rw [e1, show v = .str (st x) from q, reps_ks e2 r]; rfl
theorem ks_reps {K : PySem.W.Frag} {F : Hp} : ∀ (ks : List Key), Reps K F (ks.map dK) (ks.map kV)
  | [] => rfl
  | .inl i :: ks => ⟨_, _, rfl, rfl, ks_reps ks⟩
  | .inr x :: ks => ⟨_, _, rfl, by show V.str x = V.str (st x.cps.toList); rw [st_of], ks_reps ks⟩
section
variable {X : Cx}
theorem prim_sorted {k : Nat} (hc : X.calm = true) (hr : Room k X.A) : PrimN X (.builtin "sorted") fSorted := ⟨_, cr_sortG hc hr.units, fun F H ds vs c Q s h e q => by
  unfold fSorted at e
  split at e
  · rename_i d
    obtain ⟨v, rfl, hv⟩ := vwAll1 h
    cases ed : fIter d with
    | none => rw [ed] at e; cases e
    | some es =>
      rw [ed, Option.bind_some] at e
      by_cases hb : sortB es = true
      · rw [if_pos hb] at e
        cases e
        have fin : ∀ xs kk, Src X.K H kk v xs → Reps X.K F es xs → rSortG X [v] H Q := fun xs kk sr rp =>
          ⟨v, xs, es, kk, F, rfl, sr, s, rp, hb, fun l ys nl ry => q F _ _ (grow_own s nl) ⟨l, _, rfl, nl, upd_same, s.free nl, ry⟩⟩
        cases d with
        | lst ds => cases ed; obtain ⟨p, xs, ev, h1, r⟩ := hv; exact fin xs 0 ⟨p, ev, SqL.of h1⟩ r
        | tup ds => cases ed; obtain ⟨p, xs, ev, h1, r⟩ := hv; exact fin xs 1 ⟨p, ev, Same.seqT s h1⟩ r
        | str x =>
          obtain ⟨kk, xs, h1, r⟩ := src_of (K := X.K) (F := F) (d := .str x) ed hv
          exact fin xs kk (h1.mono s) r
        | _ => cases ed
      · rw [if_neg hb] at e; cases e
  · cases e⟩
variable {W : WX} {a : Expr} {m : M Res} {p p2 q pos : Pos} {k : Nat}
theorem re_sortset (ct : Ct X W k) (hm : X.mg "sorted" = none) (hm2 : X.mg "set" = none) (ha : PE X a (tE X.K X.mg W m)) (hg : Gl X "sorted" := by rfl) (hg2 : Gl X "set" := by rfl)
    (s1 : starEach [.Call (.Name "set" p2) [a] [] q] X.env = (false, eval (.Call (.Name "set" p2) [a] [] q) X.env) :: starEach [] X.env := by rfl) (s2 : starEach [a] X.env = (false, eval a X.env) :: starEach [] X.env := by rfl) :
    PE X (.Call (.Name "sorted" p) [.Call (.Name "set" p2) [a] [] q] [] pos) (tE X.K X.mg W (eUn fSortSet m)) :=
  PE.imp (pe_callB (cr_sortGO ct.calm ct.room.units) hg hm boot_sorted (pa_cons (pe_callTy (cr_setGO ct.calm) hg2 hm2 PyProof.Rows.boot_set (pa_cons ha pa_nil s2) (by decide) (by decide) s2 rfl) pa_nil s1) (by decide) (by decide) s1 rfl)
    fun σ H Q ⟨F, en, R, h⟩ => ⟨F, en, R, (opd h).imp fun F1 H1 en1 r0 _ q x hx fx => by
      obtain ⟨F2, ra, R2, p2, n2, hx2, q⟩ := q x hx fx
      obtain ⟨c, ec, fin⟩ := lift_ok p2.there R2 q
      cases e1 : vw en1 ra with
      | none => rw [e1] at ec; cases ec
      | some da =>
        rw [e1, Option.bind_some] at ec
        have hv := hx2.vw R2 e1
        cases da with
        | lst ds =>
          obtain ⟨l, xs, ev, h1, rp⟩ := hv
          unfold fSortSet at ec
          cases ek : asKs ds with
          | none => simp [ek] at ec
          | some ks =>
            simp only [ek, Option.bind_some] at ec
            by_cases hb : (oneKind ks && decide (ks.length + 1 < scanBound)) = true
            · rw [if_pos hb] at ec
              cases ec
              obtain ⟨b1, b2⟩ := Bool.and_eq_true_iff.mp hb
              rw [reps_ks ek rp] at h1
              refine ⟨l, ks, by rw [ev], SqL.of h1, of_decide_eq_true b2, fun p0 hp0 => ?_⟩
              refine ⟨p0, ks, rfl, upd_same, b1, fun p1 hp1 => ?_⟩
              have hne : p1 ≠ p0 := fun z => by rw [z, upd_same] at hp1; cases hp1
              have hp1' : H1 p1 = none := by rw [upd_ne hne] at hp1; exact hp1
              have g1 := grow_own (o := SetGO X.prog X.w p0 ks) R2.sub hp0
              exact fin F2 _ _ (g1.trans (grow_own g1.in' hp1)) ⟨p1, _, rfl, hp1', upd_same, R2.sub.free hp1', ks_reps _⟩
            · rw [if_neg hb] at ec; cases ec
        | _ => cases ec⟩
end
end Fw

/-! Gs6: min and max of a list or a tuple of ints. -/
namespace Fw
open PySem PySem.Spec PyProof.Rows L2
def bestI (mx : Bool) (n : Int) (ns : List Int) : Int := if mx then ns.foldl max n else ns.foldl min n
def fBest (mx : Bool) : List Dt → Option Res
  | [.lst ds] => (asInts ds).bind fun ns => match ns with | [] => none | n :: ns => some (.dat (.int (bestI mx n ns)))
  | [.tup ds] => (asInts ds).bind fun ns => match ns with | [] => none | n :: ns => some (.dat (.int (bestI mx n ns)))
  | _ => none
abbrev fMinL := fBest false
abbrev fMaxL := fBest true
theorem alikeI (ns : List Int) : PySem.W.AlikeAll (ns.map PyData.int) := ⟨fun x hx y hy => by
  obtain ⟨i, _, rfl⟩ := List.mem_map.mp hx
  obtain ⟨j, _, rfl⟩ := List.mem_map.mp hy
  first | rfl | simp [PySem.W.alike], fun x hx => by
  obtain ⟨i, _, rfl⟩ := List.mem_map.mp hx
  exact fun z => nomatch z⟩
theorem depthI : ∀ ns : List Int, PyData.depthAll (ns.map PyData.int) = 0
  | [] => by simp [PyData.depthAll]
  | n :: ns => by simp [PyData.depthAll, PyData.depth, depthI ns]
theorem readsI {h : Heap} : ∀ {us : List Value} {ns : List Int}, IntsAre us ns → ∃ as, ReadsAll h us (ns.map PyData.int) as
  | _, _, .nil => ⟨_, .nil⟩
  | _, _, .cons n t r => let ⟨_, q⟩ := readsI (h := h) r; ⟨_, .cons (.int n t) q⟩
def idBest (mx : Bool) : String := if mx then "max" else "min"
def rBest (X : Cx) (mx : Bool) : List V → Hp → VK → Prop := fun vs H Q => ∃ (a : Addr) (n : Int) (ns : List Int), vs = [V.ref a] ∧ (SqL X.K H a ((n :: ns).map V.int) ∨ SqT X.K H a ((n :: ns).map V.int)) ∧ Q (.int (bestI mx n ns)) H
section
variable {X : Cx}
theorem cr_best (mx : Bool) (hc : X.calm = true) (hu : X.A.units + 64 < cLine) : CallR X (.builtin (idBest mx)) (rBest X mx) := by
  intro pins s σ H vs us Q I r h
  obtain ⟨a, n, ns, rfl, hs, q⟩ := h
  rw [Vals.ref1 r]
  have hd := I.ok.hd hc
  have hdep : X.A.units + 1 + PyData.depthAll (PyData.int n :: ns.map PyData.int) < cLine := by
    have := depthI (n :: ns)
    rw [List.map_cons] at this
    omega
  have fin : ∀ (v : Value) (h' : Heap) (tk : Nat) (bs : List Addr), Reads h' v (.int (bestI mx n ns)) bs → (∀ b o, s.heap.get? b = some o → h'.get? b = some o) → EP X pins σ Q v { s with heap := h', toks := tk } := fun v h' tk bs rd hk => by
    cases rd
    exact ⟨.int _, H, I.kept hk, ⟨_, rfl⟩, q⟩
  rcases hs with hs | hs
  · obtain ⟨its, rv, pl, _⟩ := I.list hs
    obtain ⟨as, ra⟩ := readsI (h := s.heap) rv.ints
    cases mx with
    | true => exact PySem.W.max_list_data hd pl.isList (by simpa using ra) (alikeI (n :: ns)) hdep fun i v h' tk bs _ rd hk => fin v h' tk bs (by rw [PySem.W.maxD_ints] at rd; exact rd) hk
    | false => exact PySem.W.min_list_data hd pl.isList (by simpa using ra) (alikeI (n :: ns)) hdep fun i v h' tk bs _ rd hk => fin v h' tk bs (by rw [PySem.W.minD_ints] at rd; exact rd) hk
  · obtain ⟨its, rv, pl, _⟩ := I.tuple hs
    obtain ⟨as, ra⟩ := readsI (h := s.heap) rv.ints
    cases mx with
    | true => exact PySem.W.max_tuple_data hd pl (by simpa using ra) (alikeI (n :: ns)) hdep fun i v h' tk bs _ rd hk => fin v h' tk bs (by rw [PySem.W.maxD_ints] at rd; exact rd) hk
    | false => exact PySem.W.min_tuple_data hd pl (by simpa using ra) (alikeI (n :: ns)) hdep fun i v h' tk bs _ rd hk => fin v h' tk bs (by rw [PySem.W.minD_ints] at rd; exact rd) hk
theorem prim_best {k : Nat} (mx : Bool) (hc : X.calm = true) (hr : Room k X.A) : PrimN X (.builtin (idBest mx)) (fBest mx) := ⟨_, cr_best mx hc hr.units, fun F H ds vs c Q s h e q => by
  unfold fBest at e
  split at e
  · rename_i ds
    obtain ⟨v, rfl, p, xs, ev, h1, r⟩ := vwAll1 h
    obtain ⟨ns, en, e2⟩ := Option.bind_eq_some_iff.mp e
    cases ns with
    | nil => cases e2
    | cons n ns =>
      cases e2
      rw [asInts_of en] at r
      rw [reps_ints r] at h1
      exact ⟨p, n, ns, by rw [ev], .inl (SqL.of h1), q F H _ (Grow.refl s) rfl⟩
  · rename_i ds
    obtain ⟨v, rfl, p, xs, ev, h1, r⟩ := vwAll1 h
    obtain ⟨ns, en, e2⟩ := Option.bind_eq_some_iff.mp e
    cases ns with
    | nil => cases e2
    | cons n ns =>
      cases e2
      rw [asInts_of en] at r
      rw [reps_ints r] at h1
      exact ⟨p, n, ns, by rw [ev], .inr (Same.seqT s h1), q F H _ (Grow.refl s) rfl⟩
  · cases e⟩
theorem prim_minL {k : Nat} (hc : X.calm = true) (hr : Room k X.A) : PrimN X (.builtin "min") fMinL := prim_best false hc hr
theorem prim_maxL {k : Nat} (hc : X.calm = true) (hr : Room k X.A) : PrimN X (.builtin "max") fMaxL := prim_best true hc hr
end
end Fw

/-! Fy1: weakest preconditions of the plain functions. -/
namespace Fw
open PySem PySem.Spec PyProof.Rows L2
structure Wq where
  nx : En → Prop
  rt : Res → En → Prop
  ex : Str → Dt → En → Prop
  bk : En → Prop
  co : En → Prop
def Wq.setNx (P : Wq) (k : En → Prop) : Wq := { P with nx := k }
@[simp ↓] theorem Wq.sn_nx (P : Wq) (k : En → Prop) (en : En) : (P.setNx k).nx en = k en := id rfl
@[simp] theorem Wq.sn_rt (P : Wq) (k : En → Prop) : (P.setNx k).rt = P.rt := id rfl
@[simp] theorem Wq.sn_ex (P : Wq) (k : En → Prop) : (P.setNx k).ex = P.ex := id rfl
@[simp] theorem Wq.sn_bk (P : Wq) (k : En → Prop) : (P.setNx k).bk = P.bk := id rfl
@[simp] theorem Wq.sn_co (P : Wq) (k : En → Prop) : (P.setNx k).co = P.co := id rfl
/-- keeps what follows out of simp's way -/
inductive Tg {α : Sort _} (a : α) : Type where
  | mk
inductive Tg2 {α : Sort _} {β : Sort _} (a : α) (b : β) : Type where
  | mk
def wE {α : Type} (o : Out α) (Q : α → En → Prop) (X : Str → Dt → En → Prop) (_ : Tg2 Q X := .mk) : Prop := match o with
  | .ok a en => Q a en
  | .exc c d en => X c d en
  | .stuck => False
def wS (o : OutS) (P : Wq) (_ : Tg P := .mk) : Prop := match o with
  | .nx en => P.nx en
  | .ret r en => P.rt r en
  | .exc c d en => P.ex c d en
  | .brk en => P.bk en
  | .cont en => P.co en
  | .stuck => False
def wL {α : Type} (o : Option α) (k : α → Prop) (_ : Tg k := .mk) : Prop := match o with
  | some a => k a
  | none => False
/-- a guard -/
def wG (c k : Prop) (_ : Tg k := .mk) : Prop := c ∧ k
/-- two ways -/
def wI (b : Bool) (A B : Prop) (_ : Tg2 A B := .mk) : Prop := if b = true then A else B
def wF (o : FOut) (Q : Res → Prop) (X : Str → Dt → Prop) (_ : Tg2 Q X := .mk) : Prop := match o with
  | .ret (.dat d) => Q (.dat d)
  | .ret (.new ds) => Q (.new ds)
  | .ret (.slt _) => False
  | .exc c d => X c d
  | .stuck => False
def wFR (o : FOutR) (Q : Res → Cn → Prop) (_ : Tg Q := .mk) : Prop := match o with
  | .ret (.dat d) cs => Q (.dat d) cs
  | .ret (.new ds) cs => Q (.new ds) cs
  | .ret (.slt _) _ => False
  | .stuck => False
/-- what stands in a slot -/
def wV (s : Sl) (kv : Dt → Prop) (ko : Cn → Prop) (_ : Tg2 kv ko := .mk) : Prop := match s with
  | .val d => kv d
  | .own ds => ko ds
  | _ => False
/-- what is held, kept out of simp's way -/
def Hold {α : Type} (R : α → Prop) (e : α) (_ : Tg R := .mk) : Prop := R e
theorem hold {α : Type} {R : α → Prop} {e : α} (h : R e) : Hold R e := h
theorem wE_ext {α : Type} {o : Out α} {Q Q' : α → En → Prop} {X : Str → Dt → En → Prop} (h : ∀ a e, Q a e = Q' a e) : wE o Q X = wE o Q' X := by
  cases o <;> first | exact h _ _ | rfl
theorem wL_ext {α : Type} {o : Option α} {Q Q' : α → Prop} (h : ∀ a, Q a = Q' a) : wL o Q = wL o Q' := by
  cases o <;> first | exact h _ | rfl
section
variable {α β : Type} {Q : α → En → Prop} {X : Str → Dt → En → Prop} {P : Wq} {en : En} {k : α → Prop}
@[simp] theorem wE_ok (a : α) : wE (.ok a en) Q X = Q a en := id rfl
@[simp] theorem wE_exc (c : Str) (d : Dt) : wE (.exc c d en : Out α) Q X = X c d en := id rfl
@[simp] theorem wS_nx : wS (.nx en) P = P.nx en := id rfl
@[simp] theorem wS_ret (r : Res) : wS (.ret r en) P = P.rt r en := id rfl
@[simp] theorem wS_exc (c : Str) (d : Dt) : wS (.exc c d en) P = P.ex c d en := id rfl
@[simp] theorem wS_brk : wS (.brk en) P = P.bk en := id rfl
@[simp] theorem wS_cont : wS (.cont en) P = P.co en := id rfl
@[simp] theorem wL_some (a : α) : wL (some a) k = k a := id rfl
@[simp] theorem wL_none : wL (none : Option α) k = False := id rfl
@[simp ↓] theorem wL_ite (c : Prop) [Decidable c] (a : α) : wL (if c then some a else none) k = wG c (k a) := by
  unfold wL wG
  by_cases h : c
  · simp [h]
  · simp [h]
@[simp ↓] theorem wL_map (o : Option β) (f : β → α) : wL (o.map f) k = wL o (fun b => k (f b)) := by cases o <;> rfl
@[simp ↓] theorem wL_bind (o : Option β) (f : β → Option α) : wL (o.bind f) k = wL o (fun b => wL (f b) k) := by cases o <;> rfl
@[simp ↓] theorem wG_and (a b k : Prop) : wG (a ∧ b) k = wG a (wG b k) := by unfold wG; simp [and_assoc]
@[simp] theorem wG_true (k : Prop) : wG True k = k := by unfold wG; simp
@[simp] theorem wI_true (A B : Prop) : wI true A B = A := id rfl
@[simp] theorem wI_false (A B : Prop) : wI false A B = B := id rfl
@[simp] theorem wF_dat (d : Dt) (Q : Res → Prop) (X : Str → Dt → Prop) : wF (.ret (.dat d)) Q X = Q (.dat d) := id rfl
@[simp] theorem wF_new (d : Cn) (Q : Res → Prop) (X : Str → Dt → Prop) : wF (.ret (.new d)) Q X = Q (.new d) := id rfl
@[simp] theorem wF_exc (c : Str) (d : Dt) (Q : Res → Prop) (X : Str → Dt → Prop) : wF (.exc c d) Q X = X c d := id rfl
@[simp] theorem wFR_dat (d : Dt) (cs : Cn) (Q : Res → Cn → Prop) : wFR (.ret (.dat d) cs) Q = Q (.dat d) cs := id rfl
@[simp] theorem wFR_new (d : Cn) (cs : Cn) (Q : Res → Cn → Prop) : wFR (.ret (.new d) cs) Q = Q (.new d) cs := id rfl
@[simp] theorem wV_val (d : Dt) (kv : Dt → Prop) (ko : Cn → Prop) : wV (.val d) kv ko = kv d := id rfl
@[simp] theorem wV_own (d : Cn) (kv : Dt → Prop) (ko : Cn → Prop) : wV (.own d) kv ko = ko d := id rfl
theorem wG_mk {c k : Prop} (h : c) (q : k) : wG c k := ⟨h, q⟩
theorem wI_mk {b : Bool} {A B : Prop} (h1 : b = true → A) (h2 : b = false → B) : wI b A B := by
  cases b
  · exact h2 rfl
  · exact h1 rfl
theorem wL_of {o : Option α} {a : α} (h : o = some a) (q : k a) : wL o k := by rw [h]; exact q
@[simp ↓] theorem wE_bind (o : Out β) (f : β → En → Out α) : wE (o.bind f) Q X = wE o (fun b e => wE (f b e) Q X) X := by cases o <;> rfl
@[simp ↓] theorem wS_then (o : Out β) (f : β → En → OutS) : wS (o.then f) P = wE o (fun b e => wS (f b e) P) P.ex := by cases o <;> rfl
@[simp ↓] theorem wS_seq (o : OutS) (f : MS) : wS (o.seq f) P = wS o (P.setNx fun e => wS (f e) P) := by cases o <;> rfl
@[simp ↓] theorem wS_sSeq (m f : MS) : wS (sSeq m f en) P = wS (m en) (P.setNx fun e => wS (f e) P) := wS_seq _ _
@[simp ↓] theorem wS_skip : wS (sSkip en) P = P.nx en := id rfl
@[simp ↓] theorem wE_lift (o : Option Res) (Q : Res → En → Prop) : wE (lift en o) Q X = wL o (fun r => Q r en) := by cases o <;> rfl
@[simp ↓] theorem wE_cLift (o : Option Bool) (Q : Bool → En → Prop) : wE (cLift en o) Q X = wL o (fun r => Q r en) := by cases o <;> rfl
/-- a new list kept -/
def asO : Res → Res
  | .new ds => .dat ds.frz
  | r => r
@[simp] theorem asO_dat (d : Dt) : asO (.dat d) = .dat d := id rfl
@[simp] theorem asO_slt (i : Nat) : asO (.slt i) = .slt i := id rfl
@[simp] theorem asO_new (ds : Cn) : asO (.new ds) = .dat ds.frz := id rfl
theorem toO_eq (r : Res) (en : En) : toO r en = .ok (asO r) en := by cases r <;> rfl
@[simp ↓] theorem wE_opd (m : M Res) (Q : Res → En → Prop) : wE (eOpd m en) Q X = wE (m en) (fun r e => Q (asO r) e) X := by
  show wE ((m en).bind toO) Q X = _
  rw [wE_bind]
  refine congrArg (fun z => wE (m en) z X) (funext fun r => funext fun e => ?_)
  rw [toO_eq]; rfl
@[simp ↓] theorem wE_val (m : M Res) (Q : Dt → En → Prop) : wE (eVal m en) Q X = wE (m en) (fun r e => wE (toV r e) Q X) X := wE_bind _ _
@[simp ↓] theorem wE_toV_dat (d : Dt) (Q : Dt → En → Prop) : wE (toV (.dat d) en) Q X = Q d en := id rfl
@[simp ↓] theorem wE_toV_new (d : Cn) (Q : Dt → En → Prop) : wE (toV (.new d) en) Q X = Q d.frz en := id rfl
@[simp ↓] theorem wE_toV_slt (i : Nat) (Q : Dt → En → Prop) : wE (toV (.slt i) en) Q X = wL en[i]? (fun s => wV s (fun d => Q d en) (fun ds => Q ds.frz (en.set i (.val ds.frz)))) := by
  show wE (match en[i]? with
    | some (.val d) => .ok d en
    | some (.own ds) => .ok ds.frz (en.set i (.val ds.frz))
    | _ => .stuck) Q X = _
  cases en[i]? with
  | none => rfl
  | some s => cases s <;> rfl
@[simp ↓] theorem wE_toR_dat (d : Dt) (Q : Res → En → Prop) : wE (toR (.dat d) en) Q X = Q (.dat d) en := id rfl
@[simp ↓] theorem wE_toR_new (d : Cn) (Q : Res → En → Prop) : wE (toR (.new d) en) Q X = Q (.new d) en := id rfl
@[simp ↓] theorem wE_toR_slt (i : Nat) (Q : Res → En → Prop) : wE (toR (.slt i) en) Q X = wE (toV (.slt i) en) (fun d e => Q (.dat d) e) X := wE_bind _ _
def slD : Option Sl → Option Dt
  | some (.val d) => some d
  | some (.own ds) => some ds.frz
  | _ => none
@[simp] theorem frz_l (ds : List Dt) : Cn.frz (.l ds) = .lst ds := id rfl
@[simp] theorem frz_d (ks : List Ky) (ds : List Dt) : Cn.frz (.d ks ds) = .dic ks ds := id rfl
@[simp] theorem slD_val (d : Dt) : slD (some (.val d)) = some d := id rfl
@[simp] theorem slD_own (d : Cn) : slD (some (.own d)) = some d.frz := id rfl
@[simp] theorem vw_dat_ (d : Dt) : vw en (.dat d) = some d := id rfl
@[simp] theorem vw_new_ (d : Cn) : vw en (.new d) = some d.frz := id rfl
@[simp] theorem vw_slt_ (i : Nat) : vw en (.slt i) = slD en[i]? := by
  show (match en[i]? with
    | some (.val d) => some d
    | some (.own ds) => some ds.frz
    | _ => none) = _
  cases en[i]? with
  | none => rfl
  | some s => cases s <;> rfl
@[simp] theorem vws_nil_ : vws en [] = some [] := id rfl
@[simp] theorem vws_cons_ (r : Res) (rs : List Res) : vws en (r :: rs) = (vw en r).bind fun d => (vws en rs).bind fun ds => some (d :: ds) := by
  rw [vws]; cases vw en r with
  | none => rfl
  | some d => cases vws en rs <;> rfl
@[simp] theorem some_bind_ (a : β) (f : β → Option α) : (some a).bind f = f a := id rfl
@[simp] theorem some_map_ (a : β) (f : β → α) : (some a).map f = some (f a) := id rfl
/-- a slot that is told -/
def isSl : Option Sl → Bool
  | some .un => false
  | none => false
  | _ => true
@[simp] theorem isSl_val (d : Dt) : isSl (some (.val d)) = true := id rfl
@[simp] theorem isSl_own (d : Cn) : isSl (some (.own d)) = true := id rfl
@[simp] theorem isSl_scr (d : List Int) : isSl (some (.scr d)) = true := id rfl
@[simp ↓] theorem wE_var (i : Nat) (Q : Res → En → Prop) : wE (eVar i en) Q X = wG (isSl en[i]? = true) (Q (.slt i) en) := by
  unfold eVar wG
  cases en[i]? with
  | none => simp [isSl, wE]
  | some s => cases s <;> simp [isSl, wE]
@[simp ↓] theorem wE_dat (d : Dt) (Q : Res → En → Prop) : wE (eDat d en) Q X = Q (.dat d) en := id rfl
@[simp ↓] theorem wE_un (f : Dt → Option Res) (m : M Res) (Q : Res → En → Prop) : wE (eUn f m en) Q X = wE (m en) (fun r e => wL (vw e (asO r)) (fun d => wL (f d) (fun r => Q r e))) X := by
  show wE ((eOpd m en).bind _) Q X = _
  repeat (first | rfl | refine wE_ext fun _ _ => ?_ | refine wL_ext fun _ => ?_ | simp only [wE_bind, wE_opd, wE_lift, wL_bind])
@[simp ↓] theorem wE_bin (f : Dt → Dt → Option Res) (ma mb : M Res) (Q : Res → En → Prop) : wE (eBin f ma mb en) Q X =
    wE (ma en) (fun ra e1 => wE (mb e1) (fun rb e2 => wL (vw e2 (asO ra)) (fun a => wL (vw e2 (asO rb)) (fun b => wL (f a b) (fun r => Q r e2)))) X) X := by
  show wE ((eOpd ma en).bind _) Q X = _
  repeat (first | rfl | refine wE_ext fun _ _ => ?_ | refine wL_ext fun _ => ?_ | simp only [wE_bind, wE_opd, wE_lift, wL_bind])
@[simp ↓] theorem wE_cb (f : List Dt → Option Res) (ms : M (List Res)) (Q : Res → En → Prop) : wE (eCB f ms en) Q X = wE (ms en) (fun rs e => wL (vws e rs) (fun ds => wL (f ds) (fun r => Q r e))) X := by
  show wE ((ms en).bind _) Q X = _
  repeat (first | rfl | refine wE_ext fun _ _ => ?_ | refine wL_ext fun _ => ?_ | simp only [wE_bind, wE_lift, wL_bind])
@[simp ↓] theorem wE_nil (Q : List Res → En → Prop) : wE (eNil en) Q X = Q [] en := id rfl
@[simp ↓] theorem wE_cons (m : M Res) (ms : M (List Res)) (Q : List Res → En → Prop) : wE (eCons m ms en) Q X = wE (m en) (fun r e1 => wE (ms e1) (fun rs e2 => Q (asO r :: rs) e2) X) X := by
  show wE ((eOpd m en).bind _) Q X = _
  repeat (first | rfl | refine wE_ext fun _ _ => ?_ | refine wL_ext fun _ => ?_ | simp only [wE_bind, wE_opd, wE_ok])
@[simp ↓] theorem wE_vnil (Q : List Dt → En → Prop) : wE (vNil en) Q X = Q [] en := id rfl
@[simp ↓] theorem wE_vcons (m : M Res) (ms : M (List Dt)) (Q : List Dt → En → Prop) : wE (vCons m ms en) Q X = wE (m en) (fun r e1 => wE (toV r e1) (fun d e2 => wE (ms e2) (fun ds e3 => Q (d :: ds) e3) X) X) X := by
  show wE ((eVal m en).bind _) Q X = _
  repeat (first | rfl | refine wE_ext fun _ _ => ?_ | refine wL_ext fun _ => ?_ | simp only [wE_bind, wE_val, wE_ok])
@[simp ↓] theorem wE_tup (ms : M (List Dt)) (Q : Res → En → Prop) : wE (eTup ms en) Q X = wE (ms en) (fun ds e => wG (ds.length ≤ sizeLine) (Q (.dat (.tup ds)) e)) X := by
  show wE ((ms en).bind _) Q X = _
  rw [wE_bind]
  refine congrArg (fun z => wE (ms en) z X) (funext fun ds => funext fun e => ?_)
  by_cases h : ds.length ≤ sizeLine <;> simp [h, wG, wE]
@[simp ↓] theorem wE_lst (ms : M (List Dt)) (Q : Res → En → Prop) : wE (eLst ms en) Q X = wE (ms en) (fun ds e => wG (ds.length ≤ sizeLine) (Q (.new ds) e)) X := by
  show wE ((ms en).bind _) Q X = _
  rw [wE_bind]
  refine congrArg (fun z => wE (ms en) z X) (funext fun ds => funext fun e => ?_)
  by_cases h : ds.length ≤ sizeLine <;> simp [h, wG, wE]
@[simp ↓] theorem wE_cTru (m : M Res) (Q : Bool → En → Prop) : wE (cTru m en) Q X = wE (m en) (fun r e => wL (vw e (asO r)) (fun d => wL (fTru d) (fun b => Q b e))) X := by
  show wE ((eOpd m en).bind _) Q X = _
  repeat (first | rfl | refine wE_ext fun _ _ => ?_ | refine wL_ext fun _ => ?_ | simp only [wE_bind, wE_opd, wE_cLift, wL_bind])
@[simp ↓] theorem wE_cBl (m : M Res) (Q : Bool → En → Prop) : wE (cBl m en) Q X = wE (m en) (fun r e => wL (vw e (asO r)) (fun d => wL (asBl d) (fun b => Q b e))) X := by
  show wE ((eOpd m en).bind _) Q X = _
  repeat (first | rfl | refine wE_ext fun _ _ => ?_ | refine wL_ext fun _ => ?_ | simp only [wE_bind, wE_opd, wE_cLift, wL_bind])
@[simp ↓] theorem wE_cNot (c : M Bool) (Q : Bool → En → Prop) : wE (cNot c en) Q X = wE (c en) (fun b e => Q (!b) e) X := wE_bind _ _
theorem wE_if {γ : Type} {R : γ → En → Prop} (b : Bool) (o o' : Out γ) : wE (if b = true then o else o') R X = wI b (wE o R X) (wE o' R X) := by cases b <;> rfl
theorem wS_if (b : Bool) (o o' : OutS) : wS (if b = true then o else o') P = wI b (wS o P) (wS o' P) := by cases b <;> rfl
@[simp ↓] theorem wE_cAnd (c d : M Bool) (Q : Bool → En → Prop) : wE (cAnd c d en) Q X = wE (c en) (fun b e => wI b (wE (d e) Q X) (Q false e)) X := by
  show wE ((c en).bind _) Q X = _
  repeat (first | rfl | refine wE_ext fun _ _ => ?_ | refine wL_ext fun _ => ?_ | simp only [wE_bind, wE_if, wE_ok])
@[simp ↓] theorem wE_cOr (c d : M Bool) (Q : Bool → En → Prop) : wE (cOr c d en) Q X = wE (c en) (fun b e => wI b (Q true e) (wE (d e) Q X)) X := by
  show wE ((c en).bind _) Q X = _
  repeat (first | rfl | refine wE_ext fun _ _ => ?_ | refine wL_ext fun _ => ?_ | simp only [wE_bind, wE_if, wE_ok])
@[simp ↓] theorem wE_and (ma mb : M Res) (Q : Res → En → Prop) : wE (eAnd ma mb en) Q X = wE (cBl ma en) (fun b e => wI b (wE (mb e) Q X) (Q (.dat (.bl false)) e)) X := by
  show wE ((cBl ma en).bind _) Q X = _
  repeat (first | rfl | refine wE_ext fun _ _ => ?_ | refine wL_ext fun _ => ?_ | simp only [wE_bind, wE_if, wE_ok])
@[simp ↓] theorem wE_or (ma mb : M Res) (Q : Res → En → Prop) : wE (eOr ma mb en) Q X = wE (cBl ma en) (fun b e => wI b (Q (.dat (.bl true)) e) (wE (mb e) Q X)) X := by
  show wE ((cBl ma en).bind _) Q X = _
  repeat (first | rfl | refine wE_ext fun _ _ => ?_ | refine wL_ext fun _ => ?_ | simp only [wE_bind, wE_if, wE_ok])
@[simp ↓] theorem wE_not (ma : M Res) (Q : Res → En → Prop) : wE (eNot ma en) Q X = wE (cBl ma en) (fun b e => Q (.dat (.bl (!b))) e) X := wE_bind _ _
@[simp ↓] theorem wE_eif (c : M Bool) (ma mb : M Res) (Q : Res → En → Prop) : wE (eIf c ma mb en) Q X = wE (c en) (fun b e => wI b (wE (ma e) Q X) (wE (mb e) Q X)) X := by
  show wE ((c en).bind _) Q X = _
  repeat (first | rfl | refine wE_ext fun _ _ => ?_ | refine wL_ext fun _ => ?_ | simp only [wE_bind, wE_if])
@[simp ↓] theorem wE_yes (Q : Bool → En → Prop) : wE (cYes en) Q X = Q true en := id rfl
@[simp] theorem asBl_ (b : Bool) : asBl (.bl b) = some b := id rfl
@[simp] theorem fTru_bl_ (b : Bool) : fTru (.bl b) = some b := id rfl
@[simp] theorem fTru_int_ (i : Int) : fTru (.int i) = some (i != 0) := id rfl
@[simp] theorem fTru_non_ : fTru .non = some false := id rfl
@[simp] theorem fTru_tup_ (ds : List Dt) : fTru (.tup ds) = some (!ds.isEmpty) := id rfl
@[simp] theorem fTru_lst_ (ds : List Dt) : fTru (.lst ds) = some (!ds.isEmpty) := id rfl
-- statements
@[simp ↓] theorem wS_sif (c : M Bool) (ma mb : MS) : wS (sIf c ma mb en) P = wE (c en) (fun b e => wI b (wS (ma e) P) (wS (mb e) P)) P.ex := by
  show wS ((c en).then _) P = _
  repeat (first | rfl | refine wE_ext fun _ _ => ?_ | refine wL_ext fun _ => ?_ | simp only [wS_then, wS_if])
@[simp ↓] theorem wS_drop (m : M Res) : wS (sDrop m en) P = wE (m en) (fun _ e => P.nx e) P.ex := wS_then _ _
@[simp ↓] theorem wS_set (i : Nat) (m : M Res) : wS (sSet i m en) P = wE (m en) (fun r e => wS (putR i r e) P) P.ex := wS_then _ _
@[simp ↓] theorem wS_put_dat (i : Nat) (d : Dt) : wS (putR i (.dat d) en) P = P.nx (en.set i (.val d)) := id rfl
@[simp ↓] theorem wS_put_new (i : Nat) (d : Cn) : wS (putR i (.new d) en) P = P.nx (en.set i (.own d)) := id rfl
@[simp ↓] theorem wS_put_slt (i j : Nat) : wS (putR i (.slt j) en) P = wL en[j]? (fun s => wV s (fun d => P.nx (en.set i (.val d))) (fun ds => P.nx ((en.set j (.val ds.frz)).set i (.val ds.frz)))) := by
  unfold putR
  cases h : en[j]? with
  | none => simp [h, wS, wL]
  | some s => cases s <;> simp [h, wS, wL, wV]
/-- what is handed back -/
def wR (fx : Nat) (r : Res) (en : En) (k : Res → En → Prop) : Prop := match r with
  | .dat d => k (.dat d) en
  | .new ds => k (.new ds) en
  | .slt i => wL en[i]? fun s => wV s (fun d => k (.dat d) en) (fun ds => wG (fx ≤ i) (k (.new ds) (en.set i .un)))
@[simp ↓] theorem wR_dat (fx : Nat) (d : Dt) (k : Res → En → Prop) : wR fx (.dat d) en k = k (.dat d) en := id rfl
@[simp ↓] theorem wR_new (fx : Nat) (d : Cn) (k : Res → En → Prop) : wR fx (.new d) en k = k (.new d) en := id rfl
@[simp ↓] theorem wR_slt (fx i : Nat) (k : Res → En → Prop) : wR fx (.slt i) en k = wL en[i]? fun s => wV s (fun d => k (.dat d) en) (fun ds => wG (fx ≤ i) (k (.new ds) (en.set i .un))) := id rfl
@[simp ↓] theorem wS_sret (fx : Nat) (m : M Res) : wS (sRet fx m en) P = wE (m en) (fun r e => wR fx r e P.rt) P.ex := by
  show wS ((m en).then _) P = _
  rw [wS_then]
  refine congrArg (fun z => wE (m en) z P.ex) (funext fun r => funext fun e => ?_)
  cases r with
  | dat d => rfl
  | new ds => rfl
  | slt i =>
    rw [wR]
    cases h : e[i]? with
    | none => simp [h, wS, wL]
    | some s =>
      cases s with
      | own ds => by_cases g : fx ≤ i <;> simp [h, g, wS, wL, wV, wG]
      | _ => simp [h, wS, wL, wV]
@[simp ↓] theorem wS_raise (c : Str) (m : M Res) : wS (sRaise c m en) P = wE (m en) (fun r e => wE (toV r e) (fun d e1 => P.ex c d e1) P.ex) P.ex := by
  show wS ((eVal m en).then _) P = _
  repeat (first | rfl | refine wE_ext fun _ _ => ?_ | refine wL_ext fun _ => ?_ | simp only [wS_then, wE_val, wS_exc])
@[simp ↓] theorem wS_sfor (mi : M (List Dt)) (g : Dt → En → Option En) (mb : MS) : wS (sFor mi g mb en) P = wE (mi en) (fun ds e => wS (forL g mb ds e) P) P.ex := wS_then _ _
@[simp ↓] theorem wS_for_nil (g : Dt → En → Option En) (mb : MS) : wS (forL g mb [] en) P = P.nx en := id rfl
theorem wS_for_cons (g : Dt → En → Option En) (mb : MS) (d : Dt) (ds : List Dt) : wS (forL g mb (d :: ds) en) P = wL (g d en) (fun e => wS (mb e) ⟨fun e2 => wS (forL g mb ds e2) P, P.rt, P.ex, P.nx, fun e2 => wS (forL g mb ds e2) P⟩) := by
  rw [forL]
  cases g d en with
  | none => rfl
  | some e =>
    simp only [wL_some]
    cases mb e <;> rfl
/-- a loop by what holds ahead of each turn -/
theorem wS_for {g : Dt → En → Option En} {mb : MS} (I : List Dt → En → Prop) {ds : List Dt} (h0 : I ds en) (hn : ∀ e, I [] e → P.nx e)
    (hs : ∀ d ds e, I (d :: ds) e → wL (g d e) (fun e1 => wS (mb e1) ⟨fun e => Hold (I ds) e, P.rt, P.ex, P.nx, fun e => Hold (I ds) e⟩)) : wS (forL g mb ds en) P := by
  induction ds generalizing en with
  | nil => exact hn _ h0
  | cons d ds ih =>
    have q := hs d ds en h0
    rw [wS_for_cons]
    cases e : g d en with
    | none => rw [e] at q; exact q
    | some e1 =>
      rw [e] at q
      simp only [wL_some] at q ⊢
      cases z : mb e1 <;> rw [z] at q <;> first | exact ih q | exact q
theorem wS_cut {m f : MS} {P : Wq} {en : En} (R : En → Prop) (h1 : wS (m en) (P.setNx fun e => Hold R e)) (h2 : ∀ e, R e → wS (f e) P) : wS (sSeq m f en) P := by
  rw [wS_sSeq]
  cases z : m en <;> rw [z] at h1 <;> first | exact h2 _ h1 | exact h1
@[simp ↓] theorem wS_asg (m : M Res) (g : Dt → En → Option En) : wS (sAsg m g en) P = wE (m en) (fun r e => wE (toV r e) (fun d e1 => wL (g d e1) P.nx) P.ex) P.ex := by
  show wS ((eVal m en).then _) P = _
  repeat (first | rfl | refine wE_ext fun _ _ => ?_ | refine wL_ext fun _ => ?_ | simp only [wS_then, wE_val])
  rename_i d e1
  cases g d e1 <;> rfl
@[simp ↓] theorem wL_gNm (i : Nat) (d : Dt) (k : En → Prop) : wL (gNm i d en) k = k (en.set i (.val d)) := id rfl
@[simp ↓] theorem wL_gN0 (k : En → Prop) : wL (gN0 [] en) k = k en := id rfl
@[simp ↓] theorem wL_gC (g : Dt → En → Option En) (gs : List Dt → En → Option En) (d : Dt) (ds : List Dt) (k : En → Prop) : wL (gC g gs (d :: ds) en) k = wL (g d en) (fun e => wL (gs ds e) k) := wL_bind _ _
@[simp ↓] theorem wL_gTp (n : Nat) (gs : List Dt → En → Option En) (ds : List Dt) (k : En → Prop) : wL (gTp n gs (.tup ds) en) k = wG (ds.length = n) (wL (gs ds en) k) := by
  show wL (if ds.length = n then gs ds en else none) k = _
  by_cases h : ds.length = n <;> simp [h, wG]
@[simp ↓] theorem wL_gTpL (n : Nat) (gs : List Dt → En → Option En) (ds : List Dt) (k : En → Prop) : wL (gTp n gs (.lst ds) en) k = wG (ds.length = n) (wL (gs ds en) k) := by
  show wL (if ds.length = n then gs ds en else none) k = _
  by_cases h : ds.length = n <;> simp [h, wG]
@[simp ↓] theorem wS_par2 (i j : Nat) (m1 m2 : M Res) : wS (sPar2 i j m1 m2 en) P = wE (m1 en) (fun r1 e1 => wE (m2 e1) (fun r2 e2 => wE (toR r1 e2) (fun s1 e3 => wE (toR r2 e3) (fun s2 e4 => wS (putR i s1 e4) (P.setNx fun e => wS (putR j s2 e) P)) P.ex) P.ex) P.ex) P.ex := by
  show wS ((m1 en).then _) P = _
  repeat (first | rfl | refine wE_ext fun _ _ => ?_ | refine wL_ext fun _ => ?_ | simp only [wS_then, wS_seq])
@[simp ↓] theorem wS_par3 (i j l : Nat) (m1 m2 m3 : M Res) : wS (sPar3 i j l m1 m2 m3 en) P = wE (m1 en) (fun r1 e1 => wE (m2 e1) (fun r2 e2 => wE (m3 e2) (fun r3 e3 => wE (toR r1 e3) (fun s1 e4 => wE (toR r2 e4) (fun s2 e5 => wE (toR r3 e5) (fun s3 e6 => wS (putR i s1 e6) (P.setNx fun e => wS (putR j s2 e) (P.setNx fun e => wS (putR l s3 e) P))) P.ex) P.ex) P.ex) P.ex) P.ex) P.ex := by
  show wS ((m1 en).then _) P = _
  repeat (first | rfl | refine wE_ext fun _ _ => ?_ | refine wL_ext fun _ => ?_ | simp only [wS_then, wS_seq])
  rename_i e6
  exact congrArg (fun z => wS (putR i _ _) (P.setNx z)) (funext fun e => wS_seq _ _)
/-- behind a caught exception -/
def Wq.off (P : Wq) (i : Nat) : Wq := ⟨fun e => P.nx (e.set i .un), fun r e => P.rt r (e.set i .un), fun _ _ _ => False, fun e => P.bk (e.set i .un), fun e => P.co (e.set i .un)⟩
@[simp ↓] theorem Wq.off_nx (i : Nat) : (P.off i).nx en = P.nx (en.set i .un) := id rfl
@[simp ↓] theorem Wq.off_rt (i : Nat) (r : Res) : (P.off i).rt r en = P.rt r (en.set i .un) := id rfl
@[simp ↓] theorem Wq.off_ex (i : Nat) (c : Str) (d : Dt) : (P.off i).ex c d en = False := id rfl
theorem wS_outOf (i : Nat) (o : OutS) : wS (outOf i o) P = wS o (P.off i) := by cases o <;> rfl
def Wq.try (P : Wq) (ns : List Str) (c : Str) (i : Nat) (ms : MS) : Wq := { P with ex := fun c' d e => wG (ns.contains c' = true) (wI (xsub c' c) (wS (ms (e.set i (.val (.exo c' d)))) (P.off i)) (P.ex c' d e)) }
@[simp ↓] theorem Wq.try_nx (ns : List Str) (c : Str) (i : Nat) (ms : MS) : (P.try ns c i ms).nx en = P.nx en := id rfl
@[simp ↓] theorem Wq.try_rt (ns : List Str) (c : Str) (i : Nat) (ms : MS) (r : Res) : (P.try ns c i ms).rt r en = P.rt r en := id rfl
@[simp ↓] theorem Wq.try_ex (ns : List Str) (c : Str) (i : Nat) (ms : MS) (c' : Str) (d : Dt) : (P.try ns c i ms).ex c' d en = wG (ns.contains c' = true) (wI (xsub c' c) (wS (ms (en.set i (.val (.exo c' d)))) (P.off i)) (P.ex c' d en)) := id rfl
@[simp ↓] theorem wS_try (ns : List Str) (c : Str) (i : Nat) (mb ms : MS) : wS (sTry ns c i mb ms en) P = wS (mb en) (P.try ns c i ms) := by
  unfold sTry
  cases h : mb en with
  | exc c' d e =>
    show wS (if ns.contains c' = true then (if xsub c' c = true then outOf i (ms (e.set i (.val (.exo c' d)))) else .exc c' d e) else .stuck) P = wG (ns.contains c' = true) (wI (xsub c' c) (wS (ms (e.set i (.val (.exo c' d)))) (P.off i)) (P.ex c' d e))
    by_cases h1 : ns.contains c' = true
    · rw [if_pos h1, eq_true h1, wG_true, wS_if, wS_outOf, wS_exc]
    · rw [if_neg h1]
      exact (eq_false fun z : wG (ns.contains c' = true) _ => h1 z.1).symm
  | _ => rfl
-- calls
@[simp ↓] theorem wE_out (o : FOut) (Q : Res → En → Prop) : wE (o.out en) Q X = wF o (fun r => Q r en) (fun c d => X c d en) := by
  cases o with
  | ret r => cases r <;> rfl
  | exc c d => rfl
  | stuck => rfl
theorem wE_iteG {γ : Type} {R : γ → En → Prop} (c : Prop) [Decidable c] (o : Out γ) : wE (if c then o else .stuck) R X = wG c (wE o R X) := by
  by_cases h : c <;> simp [h, wG, wE]
theorem wS_iteG (c : Prop) [Decidable c] (o : OutS) : wS (if c then o else .stuck) P = wG c (wS o P) := by
  by_cases h : c <;> simp [h, wG, wS]
@[simp ↓] theorem wE_call (n : Nat) (sem : FS) (ms : M (List Dt)) (Q : Res → En → Prop) : wE (eCall n sem ms en) Q X = wE (ms en) (fun ds e => wG (ds.length = n) (wF (sem ds) (fun r => Q r e) (fun c d => X c d e))) X := by
  show wE ((ms en).bind _) Q X = _
  rw [wE_bind]
  refine wE_ext fun ds e => ?_
  rw [wE_iteG, wE_out]
@[simp ↓] theorem wE_callK (n nk : Nat) (pm : List Nat) (sem : FS) (ms : M (List Dt)) (Q : Res → En → Prop) : wE (eCallK n nk pm sem ms en) Q X = wE (ms en) (fun ds e => wG (ds.length = nk) (wG ((pmL pm ds).length = n) (wF (sem (pmL pm ds)) (fun r => Q r e) (fun c d => X c d e)))) X := by
  show wE (eCall n sem _ en) Q X = _
  rw [wE_call]
  show wE ((ms en).bind _) _ X = _
  rw [wE_bind]
  refine wE_ext fun ds e => ?_
  rw [wE_iteG]; rfl
def asL : Sl → Option (List Dt)
  | .own (.l ds) => some ds
  | _ => none
@[simp] theorem asL_ (ds : List Dt) : asL (.own (.l ds)) = some ds := id rfl
@[simp] theorem ownAt_ (i : Nat) : ownAt en i = en[i]?.bind asL := by
  unfold ownAt
  cases en[i]? with
  | none => rfl
  | some s =>
    cases s with
    | own c => cases c <;> rfl
    | _ => rfl
def asC : Sl → Option Cn
  | .own c => some c
  | _ => none
@[simp] theorem asC_ (c : Cn) : asC (.own c) = some c := id rfl
def ownC (en : En) (i : Nat) : Option Cn := en[i]?.bind asC
@[simp] theorem ownC_ (i : Nat) : ownC en i = en[i]?.bind asC := id rfl
@[simp] theorem isOwn_ (i : Nat) : isOwn en i = (ownC en i).isSome := by
  unfold isOwn ownC
  cases en[i]? with
  | none => rfl
  | some s => cases s <;> rfl
theorem wFR_out (o : FOutR) (i : Nat) (Q : Res → En → Prop) : wE (o.out i en) Q X = wFR o (fun r cs => Q r (en.set i (.own cs))) := by
  cases o with
  | ret r cs => cases r <;> rfl
  | stuck => rfl
@[simp ↓] theorem wE_callR (n : Nat) (sem : FSR) (i : Nat) (ms : M (List Dt)) (Q : Res → En → Prop) : wE (eCallR n sem i ms en) Q X = wG (isOwn en i = true) (wE (ms en) (fun ds e => wL (ownC e i) (fun cs => wG (ds.length + 1 = n) (wFR (sem cs ds) (fun r cs' => Q r (e.set i (.own cs')))))) X) := by
  show wE (if isOwn en i = true then (ms en).bind _ else .stuck) Q X = _
  rw [wE_iteG, wE_bind]
  refine congrArg (fun z => wG (isOwn en i = true) (wE (ms en) z X)) (funext fun ds => funext fun e => ?_)
  unfold ownC
  cases e[i]? with
  | none => rfl
  | some s =>
    cases s with
    | own cs =>
      show wE (if ds.length + 1 = n then (sem cs ds).out i e else .stuck) Q X = _
      rw [wE_iteG, wFR_out]; rfl
    | _ => rfl
theorem wF_sem (n : Nat) (m : MS) (ds : List Dt) (Q : Res → Prop) (X : Str → Dt → Prop) : wF (semF n m ds) Q X = wS (m (startE n ds)) ⟨fun _ => Q (.dat .non), fun r _ => wF (.ret r) Q X, fun c d _ => X c d, fun _ => False, fun _ => False⟩ := by
  unfold semF
  cases m (startE n ds) <;> rfl
theorem wF_eq {o : FOut} {R : Res} (h : wF o (fun r => r = R) (fun _ _ => False)) : o = .ret R := by
  cases o with
  | ret r => cases r <;> first | exact congrArg FOut.ret h | exact h.elim
  | exc c d => exact h.elim
  | stuck => exact h.elim
theorem wF_eqx {o : FOut} {c : Str} {d : Dt} (h : wF o (fun _ => False) (fun c' d' => c' = c ∧ d' = d)) : o = .exc c d := by
  cases o with
  | ret r => cases r <;> exact h.elim
  | exc c d => obtain ⟨h1, h2⟩ := h; rw [h1, h2]
  | stuck => exact h.elim
theorem wFR_sem (n : Nat) (m : MS) (cs : Cn) (ds : List Dt) (Q : Res → Cn → Prop) : wFR (semR n m cs ds) Q = wS (m (startR n cs ds)) ⟨fun e => wL (ownC e 0) fun cs => Q (.dat .non) cs, fun r e => wL (ownC e 0) fun cs => wFR (.ret r cs) Q, fun _ _ _ => False, fun _ => False, fun _ => False⟩ := by
  unfold semR
  cases m (startR n cs ds) with
  | nx en =>
    unfold OutS.foutR ownC
    simp only [wS_nx]
    cases en[(0 : Nat)]? with
    | none => rfl
    | some s => cases s <;> rfl
  | ret r en =>
    unfold OutS.foutR ownC
    simp only [wS_ret]
    cases en[(0 : Nat)]? with
    | none => rfl
    | some s => cases s <;> rfl
  | _ => rfl
/-- the law's end -/
theorem law_of {m : MS} {en : En} (h : wS (m en) ⟨fun _ => False, fun r _ => r = .dat (.bl true), fun _ _ _ => False, fun _ => False, fun _ => False⟩) : ∃ e, m en = .ret (.dat (.bl true)) e := by
  cases z : m en <;> rw [z] at h <;> first | exact ⟨_, by rw [show _ = Res.dat (.bl true) from h]⟩ | exact h.elim
-- comprehensions
def rsl : Option Sl → Sl
  | some s => s
  | none => .un
@[simp] theorem rsl_some (s : Sl) : rsl (some s) = s := id rfl
@[simp] theorem restE_nil (a b : En) : restE a b [] = b := id rfl
@[simp] theorem restE_cons (a b : En) (v : Nat) (vs : List Nat) : restE a b (v :: vs) = (restE a b vs).set v (rsl a[v]?) := by
  rw [restE]; cases a[v]? <;> rfl
@[simp] theorem wipeE_nil (a : En) : wipeE a [] = a := id rfl
@[simp] theorem wipeE_cons (a : En) (v : Nat) (vs : List Nat) : wipeE a (v :: vs) = (wipeE a vs).set v .un := id rfl
theorem wE_calm {γ : Type} (o : Out γ) (R : γ → En → Prop) : wE o.calm R (fun _ _ _ => False) = wE o R (fun _ _ _ => False) := by cases o <;> rfl
@[simp ↓] theorem wE_comp (mi : M (List Dt)) (g : Dt → En → Option En) (c : M Bool) (me : M Res) (vs : List Nat) (Q : Res → En → Prop) : wE (eComp mi g c me vs en) Q X = wE (mi en) (fun ds e => wE (compL g c me vs ds [] (wipeE e vs)) (fun ys e2 => Q (.new ys) (restE e e2 vs)) X) X := by
  show wE ((mi en).bind _) Q X = _
  repeat (first | rfl | refine wE_ext fun _ _ => ?_ | refine wL_ext fun _ => ?_ | simp only [wE_bind, wE_ok])
theorem wE_compL_cons (g : Dt → En → Option En) (c : M Bool) (me : M Res) (vs : List Nat) (d : Dt) (ds acc : List Dt) (Q : List Dt → En → Prop)
    (h : wL (g d en) (fun e1 => wE (c e1) (fun b e2 => wI b (wE (eVal me e2) (fun y e3 => wG (acc.length < sizeLine) (wE (compL g c me vs ds (acc ++ [y]) (wipeE e3 vs)) Q X)) (fun _ _ _ => False)) (wE (compL g c me vs ds acc (wipeE e2 vs)) Q X)) (fun _ _ _ => False))) :
    wE (compL g c me vs (d :: ds) acc en) Q X := by
  unfold compL
  cases e : g d en with
  | none => rw [e] at h; exact h
  | some e1 =>
    rw [e] at h
    simp only [wL_some] at h
    dsimp only
    cases e2 : c e1 with
    | ok b en2 =>
      rw [e2] at h
      simp only [wE_ok, Out.calm] at h ⊢
      cases b with
      | false => exact h
      | true =>
        simp only [wI_true, if_true] at h ⊢
        cases e3 : eVal me en2 with
        | ok y en3 =>
          rw [e3] at h
          obtain ⟨h1, h2⟩ := h
          simp only [Out.calm]
          rw [if_pos h1]; exact h2
        | exc _ _ _ => rw [e3] at h; exact h.elim
        | stuck => rw [e3] at h; exact h.elim
    | exc _ _ _ => rw [e2] at h; exact h.elim
    | stuck => rw [e2] at h; exact h.elim
/-- a comprehension by what holds ahead of each turn -/
theorem wE_compI {g : Dt → En → Option En} {c : M Bool} {me : M Res} {vs : List Nat} {Q : List Dt → En → Prop} (I : List Dt → List Dt → En → Prop) {ds acc : List Dt} (h0 : I ds acc en) (hl : acc.length + ds.length ≤ sizeLine)
    (hn : ∀ acc e, I [] acc e → Q acc e)
    (hs : ∀ d ds acc e, I (d :: ds) acc e → wL (g d e) (fun e1 => wE (c e1) (fun b e2 => wI b (wE (eVal me e2) (fun y e3 => Hold (I ds (acc ++ [y])) (wipeE e3 vs)) (fun _ _ _ => False)) (Hold (I ds acc) (wipeE e2 vs))) (fun _ _ _ => False))) :
    wE (compL g c me vs ds acc en) Q X := by
  induction ds generalizing acc en with
  | nil => exact hn _ _ h0
  | cons d ds ih =>
    refine wE_compL_cons _ _ _ _ _ _ _ _ ?_
    have q := hs d ds acc en h0
    rw [List.length_cons] at hl
    cases e : g d en with
    | none => rw [e] at q; exact q
    | some e1 =>
      rw [e] at q
      simp only [wL_some] at q ⊢
      cases e2 : c e1 with
      | ok b en2 =>
        rw [e2] at q
        simp only [wE_ok] at q ⊢
        cases b with
        | false => exact ih q (by omega)
        | true =>
          simp only [wI_true] at q ⊢
          cases e3 : eVal me en2 with
          | ok y en3 =>
            rw [e3] at q
            exact ⟨by omega, ih q (by rw [List.length_append]; simp only [List.length_cons, List.length_nil]; omega)⟩
          | exc _ _ _ => rw [e3] at q; exact q.elim
          | stuck => rw [e3] at q; exact q.elim
      | exc _ _ _ => rw [e2] at q; exact q.elim
      | stuck => rw [e2] at q; exact q.elim
/-- each by a function, some left out -/
theorem wE_compF {g : Dt → En → Option En} {c : M Bool} {me : M Res} {vs : List Nat} {Q : List Dt → En → Prop} (p : Dt → Bool) (φ : Dt → Dt) {ds : List Dt} (hl : ds.length ≤ sizeLine) (hq : Q ((ds.filter p).map φ) en)
    (hs : ∀ d ∈ ds, wL (g d en) (fun e1 => wE (c e1) (fun b e2 => b = p d ∧ wI b (wE (eVal me e2) (fun y e3 => y = φ d ∧ wipeE e3 vs = en) (fun _ _ _ => False)) (wipeE e2 vs = en)) (fun _ _ _ => False))) :
    wE (compL g c me vs ds [] en) Q X := by
  refine wE_compI (fun r acc e => (∀ d ∈ r, d ∈ ds) ∧ e = en ∧ acc ++ (r.filter p).map φ = (ds.filter p).map φ) ⟨fun _ h => h, rfl, by simp⟩ (by simpa using hl) (fun acc e ⟨_, h1, h2⟩ => by subst h1; rw [← h2] at hq; simpa using hq) ?_
  intro d r acc e ⟨h0, h1, h2⟩
  subst h1
  have q := hs d (h0 d List.mem_cons_self)
  have h0' : ∀ d' ∈ r, d' ∈ ds := fun d' h => h0 d' (List.mem_cons_of_mem _ h)
  cases e0 : g d e with
  | none => rw [e0] at q; exact q
  | some e1 =>
    rw [e0] at q
    simp only [wL_some] at q ⊢
    cases e2 : c e1 with
    | ok b en2 =>
      rw [e2] at q
      simp only [wE_ok] at q ⊢
      obtain ⟨q1, q⟩ := q
      cases b with
      | false => exact ⟨h0', q, by rw [← h2, List.filter_cons, ← q1]; rfl⟩
      | true =>
        simp only [wI_true] at q ⊢
        cases e3 : eVal me en2 with
        | ok y en3 =>
          rw [e3] at q
          obtain ⟨q2, q3⟩ := q
          exact ⟨h0', q3, by rw [← h2, List.filter_cons, ← q1, q2]; simp⟩
        | exc _ _ _ => rw [e3] at q; exact q.elim
        | stuck => rw [e3] at q; exact q.elim
    | exc _ _ _ => rw [e2] at q; exact q.elim
    | stuck => rw [e2] at q; exact q.elim
end
end Fw

namespace Fw
open PySem PySem.Spec PyProof.Rows L2
def wN (d : Dt) (k : Int → Prop) (_ : Tg k := .mk) : Prop := match d with
  | .int i => k i
  | _ => False
def wT (d : Dt) (k : Wd → Prop) (_ : Tg k := .mk) : Prop := match d with
  | .str i => k i
  | _ => False
def wX (d : Dt) (k : Str → Dt → Prop) (_ : Tg k := .mk) : Prop := match d with
  | .exo c d => k c d
  | _ => False
def wLs (d : Dt) (k : List Dt → Prop) (_ : Tg k := .mk) : Prop := match d with
  | .lst c => k c
  | _ => False
def wB (d : Res) (k : Bool → Prop) (_ : Tg k := .mk) : Prop := match d with
  | .dat (.bl b) => k b
  | _ => False
def wSc (s : Sl) (k : List Int → Prop) (_ : Tg k := .mk) : Prop := match s with
  | .scr ns => k ns
  | _ => False
@[simp] theorem wN_ (i : Int) (k : Int → Prop) : wN (.int i) k = k i := id rfl
@[simp] theorem wT_ (i : Wd) (k : Wd → Prop) : wT (.str i) k = k i := id rfl
@[simp] theorem wX_ (c : Str) (d : Dt) (k : Str → Dt → Prop) : wX (.exo c d) k = k c d := id rfl
@[simp] theorem wLs_ (i : List Dt) (k : List Dt → Prop) : wLs (.lst i) k = k i := id rfl
@[simp] theorem wB_ (b : Bool) (k : Bool → Prop) : wB (.dat (.bl b)) k = k b := id rfl
@[simp] theorem wSc_ (b : List Int) (k : List Int → Prop) : wSc (.scr b) k = k b := id rfl
section
variable {α β : Type} {Q : Res → En → Prop} {X : Str → Dt → En → Prop} {P : Wq} {en : En}
@[simp ↓] theorem wE_isi (ts : List String) (m : M Res) : wE (eIsi ts m en) Q X = wE (m en) (fun r e => wL (vw e (asO r)) (fun d => wG (isX d = false) (Q (.dat (.bl (ts.any (isTy d)))) e))) X := by
  show wE ((eOpd m en).bind _) Q X = _
  rw [wE_bind, wE_opd]
  refine wE_ext fun r e => ?_
  cases vw e (asO r) with
  | none => rfl
  | some d => cases h : isX d <;> simp [h, wE, wL, wG]
@[simp ↓] theorem wE_isX (ns : List Str) (f : Str → Bool) (m : M Res) : wE (eIsX ns f m en) Q X = wE (m en) (fun r e => wL (vw e (asO r)) (fun d => wX d fun c _ => wG (ns.contains c = true) (Q (.dat (.bl (f c))) e))) X := by
  show wE ((eOpd m en).bind _) Q X = _
  rw [wE_bind, wE_opd]
  refine wE_ext fun r e => ?_
  cases vw e (asO r) with
  | none => rfl
  | some d =>
    cases d with
    | exo c d =>
      show wE (if ns.contains c = true then _ else Out.stuck) Q X = _
      rw [wE_iteG]; rfl
    | _ => rfl
@[simp ↓] theorem wE_vle (ns : List Str) (m : M Res) : wE (eVle ns m en) Q X = wE (m en) (fun r e => wL (vw e (asO r)) (fun d => wX d fun c d => wG (ns.contains c = true) (Q (.dat d) e))) X := by
  show wE ((eOpd m en).bind _) Q X = _
  rw [wE_bind, wE_opd]
  refine wE_ext fun r e => ?_
  cases vw e (asO r) with
  | none => rfl
  | some d =>
    cases d with
    | exo c d =>
      show wE (if ns.contains c = true then _ else Out.stuck) Q X = _
      rw [wE_iteG]; rfl
    | _ => rfl
@[simp ↓] theorem wE_newX (c : Str) (m : M Res) : wE (eNewX c m en) Q X = wE (m en) (fun r e => wE (toV r e) (fun d e1 => Q (.dat (.exo c d)) e1) X) X := by
  show wE ((eVal m en).bind _) Q X = _
  rw [wE_bind, wE_val]; rfl
@[simp ↓] theorem wE_range1 (m : M Res) (Q : List Dt → En → Prop) : wE (iRange1 m en) Q X = wE (m en) (fun r e => wL (vw e (asO r)) (fun d => wN d fun j => wG (inB62 j) (Q (rangeD 0 j) e))) X := by
  show wE ((eOpd m en).bind _) Q X = _
  rw [wE_bind, wE_opd]
  refine wE_ext fun r e => ?_
  cases vw e (asO r) with
  | none => rfl
  | some d =>
    cases d with
    | int j =>
      show wE (if inB62 j then _ else Out.stuck) Q X = _
      rw [wE_iteG]; rfl
    | _ => rfl
@[simp ↓] theorem wE_range2 (ma mb : M Res) (Q : List Dt → En → Prop) : wE (iRange2 ma mb en) Q X = wE (ma en) (fun ra e1 => wE (mb e1) (fun rb e => wL (vw e (asO ra)) (fun d => wN d fun i => wL (vw e (asO rb)) fun d => wN d fun j => wG (inB62 i ∧ inB62 j) (Q (rangeD i j) e))) X) X := by
  show wE ((eOpd ma en).bind _) Q X = _
  rw [wE_bind, wE_opd]
  refine wE_ext fun ra e1 => ?_
  show wE ((eOpd mb e1).bind _) Q X = _
  rw [wE_bind, wE_opd]
  refine wE_ext fun rb e => ?_
  cases vw e (asO ra) with
  | none => rfl
  | some d =>
    cases d with
    | int i =>
      cases vw e (asO rb) with
      | none => rfl
      | some d =>
        cases d with
        | int j =>
          show wE (if inB62 i ∧ inB62 j then _ else Out.stuck) Q X = _
          rw [wE_iteG]; rfl
        | _ => rfl
    | _ => rfl
@[simp ↓] theorem wE_seq (m : M Res) (Q : List Dt → En → Prop) : wE (iSeq m en) Q X = wE (m en) (fun r e => wE (toV r e) (fun d e1 => wL (fIter d) fun ds => Q ds e1) X) X := by
  show wE ((eVal m en).bind _) Q X = _
  rw [wE_bind, wE_val]
  refine wE_ext fun r e => wE_ext fun d e1 => ?_
  cases fIter d <;> rfl
@[simp] theorem fIter_l (ds : List Dt) : fIter (.lst ds) = some ds := id rfl
@[simp] theorem fIter_t (ds : List Dt) : fIter (.tup ds) = some ds := id rfl
@[simp] theorem fIter_s (x : Wd) : fIter (.str x) = some (x.map fun c => .str [c]) := id rfl
@[simp ↓] theorem wE_oNone (Q : Option Int → En → Prop) : wE (oNone en) Q X = Q none en := id rfl
@[simp ↓] theorem wE_oSome (m : M Res) (Q : Option Int → En → Prop) : wE (oSome m en) Q X = wE (m en) (fun r e => wL (vw e (asO r)) (fun d => wN d fun j => Q (some j) e)) X := by
  show wE ((eOpd m en).bind _) Q X = _
  rw [wE_bind, wE_opd]
  refine wE_ext fun r e => ?_
  cases vw e (asO r) with
  | none => rfl
  | some d => cases d <;> rfl
@[simp ↓] theorem wE_slice (m : M Res) (lo hi : M (Option Int)) : wE (eSlice m lo hi en) Q X = wE (m en) (fun r e1 => wE (lo e1) (fun l e2 => wE (hi e2) (fun h e3 => wL (vw e3 (asO r)) fun d => wL (fSl d l h) fun r => Q r e3) X) X) X := by
  show wE ((eOpd m en).bind _) Q X = _
  rw [wE_bind, wE_opd]
  refine wE_ext fun r e => ?_
  rw [wE_bind]
  refine wE_ext fun l e2 => ?_
  rw [wE_bind]
  refine wE_ext fun h e3 => ?_
  rw [wE_lift, wL_bind]
@[simp ↓] theorem wE_chain (f g : Dt → Dt → Option Res) (ma mb mc : M Res) : wE (eChain f g ma mb mc en) Q X =
    wE (ma en) (fun ra e1 => wE (mb e1) (fun rb e2 => wL (vw e2 (asO ra)) fun a => wL (vw e2 (asO rb)) fun b => wL (f a b) fun r => wB r fun k => wI k (wE (mc e2) (fun rc e3 => wL (vw e3 (asO rb)) fun b => wL (vw e3 (asO rc)) fun c => wL (g b c) fun r => Q r e3) X) (Q (.dat (.bl false)) e2)) X) X := by
  show wE ((eOpd ma en).bind _) Q X = _
  rw [wE_bind, wE_opd]
  refine wE_ext fun ra e1 => ?_
  rw [wE_bind, wE_opd]
  refine wE_ext fun rb e2 => ?_
  cases vw e2 (asO ra) with
  | none => rfl
  | some a =>
    cases hb : vw e2 (asO rb) with
    | none => rfl
    | some b =>
      simp only [some_bind_, wL_some]
      cases f a b with
      | none => rfl
      | some r =>
        cases r with
        | dat d =>
          cases d with
          | bl k =>
            show wE (if k = true then _ else _) Q X = _
            simp only [wE_if, wL_some, wB_]
            refine congrArg (fun z => wI k z _) ?_
            rw [wE_bind, wE_opd]
            refine wE_ext fun rc e3 => ?_
            rw [wE_lift, wL_bind]
            refine wL_ext fun b => ?_
            rw [wL_bind]
          | _ => rfl
        | _ => rfl
@[simp ↓] theorem wE_m1 (f : Wd → Dt → Option Res) (mo me : M Res) : wE (eM1 f mo me en) Q X = wE (mo en) (fun r e => wE (toV r e) (fun o e1 => wT o fun a => wE (me e1) (fun r2 e2 => wL (vw e2 (asO r2)) fun d => wL (f a d) fun r => Q r e2) X) X) X := by
  show wE ((eVal mo en).bind _) Q X = _
  rw [wE_bind, wE_val]
  refine wE_ext fun r e => wE_ext fun o e1 => ?_
  cases o with
  | str a =>
    show wE ((eOpd me e1).bind _) Q X = _
    rw [wE_bind, wE_opd]
    refine wE_ext fun r2 e2 => ?_
    rw [wE_lift, wL_bind]
  | _ => rfl
@[simp ↓] theorem wE_scr (i : Nat) : wE (eScr i en) Q X = wL en[i]? (fun s => wSc s fun ns => Q (.new (.l (ns.map .int))) en) := by
  unfold eScr
  cases en[i]? with
  | none => rfl
  | some s => cases s <;> rfl
@[simp ↓] theorem wE_app (i : Nat) (m : M Res) : wE (eApp i m en) Q X = wG ((ownAt en i).isSome = true) (wE (m en) (fun r e => wE (toV r e) (fun d e1 => wL (ownAt e1 i) (fun ds => wG (ds.length < sizeLine) (Q (.dat .non) (e1.set i (.own (ds ++ [d])))))) X) X) := by
  show wE (if (ownAt en i).isSome = true then (eVal m en).bind _ else .stuck) Q X = _
  rw [wE_iteG, wE_bind, wE_val]
  refine congrArg (fun z => wG _ z) (wE_ext fun r e => wE_ext fun d e1 => ?_)
  cases ownAt e1 i with
  | none => rfl
  | some ds =>
    show wE (if ds.length < sizeLine then _ else Out.stuck) Q X = _
    rw [wE_iteG]; rfl
@[simp ↓] theorem wE_ext' (i : Nat) (m : M Res) : wE (eExt i m en) Q X = wG ((ownAt en i).isSome = true) (wE (m en) (fun r e => wL (ownAt e i) fun ds => wL (vw e (asO r)) fun d => wLs d fun es => wG (ds.length + es.length ≤ sizeLine) (Q (.dat .non) (e.set i (.own (ds ++ es))))) X) := by
  show wE (if (ownAt en i).isSome = true then (eOpd m en).bind _ else .stuck) Q X = _
  rw [wE_iteG, wE_bind, wE_opd]
  refine congrArg (fun z => wG _ z) (wE_ext fun r e => ?_)
  cases ownAt e i with
  | none => rfl
  | some ds =>
    cases vw e (asO r) with
    | none => rfl
    | some d =>
      cases d with
      | lst es =>
        show wE (if ds.length + es.length ≤ sizeLine then _ else Out.stuck) Q X = _
        rw [wE_iteG]; rfl
      | _ => rfl
@[simp ↓] theorem wE_pop (i : Nat) (m : M Res) : wE (ePop i m en) Q X = wG ((ownAt en i).isSome = true) (wE (m en) (fun r e => wL (ownAt e i) fun ds => wL (vw e (asO r)) fun d => wN d fun j => wG (inB62 j) (wL (ixN ds.length j) fun k => wL ds[k]? fun d => Q (.dat d) (e.set i (.own (ds.eraseIdx k))))) X) := by
  show wE (if (ownAt en i).isSome = true then (eOpd m en).bind _ else .stuck) Q X = _
  rw [wE_iteG, wE_bind, wE_opd]
  refine congrArg (fun z => wG _ z) (wE_ext fun r e => ?_)
  cases ownAt e i with
  | none => rfl
  | some ds =>
    cases vw e (asO r) with
    | none => rfl
    | some d =>
      cases d with
      | int j =>
        show wE (if inB62 j then _ else Out.stuck) Q X = _
        rw [wE_iteG]
        show wG (inB62 j) _ = wG (inB62 j) (wL (ixN ds.length j) _)
        refine congrArg (fun z => wG (inB62 j) z) ?_
        cases ixN ds.length j with
        | none => rfl
        | some k =>
          show wE (match ds[k]? with | some d => _ | none => _) Q X = wL ds[k]? _
          cases ds[k]? <;> rfl
      | _ => rfl
@[simp ↓] theorem wS_setIx (i : Nat) (mi mv : M Res) : wS (sSetIx i mi mv en) P = wE (mv en) (fun r0 e0 => wE (toV r0 e0) (fun d e1 => wG ((ownAt e1 i).isSome = true) (wE (mi e1) (fun r e2 => wL (ownAt e2 i) fun ds => wL (vw e2 (asO r)) fun x => wN x fun j => wL (ixN ds.length j) fun k => P.nx (e2.set i (.own (ds.set k d)))) P.ex)) P.ex) P.ex := by
  show wS ((eVal mv en).then _) P = _
  rw [wS_then, wE_val]
  refine wE_ext fun r0 e0 => wE_ext fun d e1 => ?_
  rw [wS_iteG, wS_then, wE_opd]
  refine congrArg (fun z => wG _ z) (wE_ext fun r e => ?_)
  cases ownAt e i with
  | none => rfl
  | some ds =>
    cases vw e (asO r) with
    | none => rfl
    | some d =>
      cases d with
      | int j =>
        show wS (match ixN ds.length j with | some k => _ | none => _) P = wL (ixN ds.length j) _
        cases ixN ds.length j <;> rfl
      | _ => rfl
@[simp ↓] theorem wS_augIx (f : Int → Int → Int) (i : Nat) (mi mv : M Res) : wS (sAugIx f i mi mv en) P = wG ((ownAt en i).isSome = true) (wE (mi en) (fun r e1 => wL (ownAt e1 i) fun ds => wL (vw e1 (asO r)) fun x => wN x fun j => wL (ixN ds.length j) fun k => wL ds[k]? fun o => wN o fun old =>
    wE (mv e1) (fun r2 e2 => wL (vw e2 (asO r2)) fun y => wN y fun y => wL (ownAt e2 i) fun es => wL (ixN es.length j) fun k2 => P.nx (e2.set i (.own (es.set k2 (.int (f old y)))))) P.ex) P.ex) := by
  show wS (if (ownAt en i).isSome = true then (eOpd mi en).then _ else .stuck) P = _
  rw [wS_iteG, wS_then, wE_opd]
  refine congrArg (fun z => wG _ z) (wE_ext fun r e1 => ?_)
  cases ownAt e1 i with
  | none => rfl
  | some ds =>
    cases vw e1 (asO r) with
    | none => rfl
    | some d =>
      cases d with
      | int j =>
        show wS (match ixN ds.length j with | some k => _ | none => _) P = wL (ixN ds.length j) _
        cases ixN ds.length j with
        | none => rfl
        | some k =>
          show wS (match ds[k]? with | some (.int old) => _ | _ => _) P = wL ds[k]? _
          cases ds[k]? with
          | none => rfl
          | some o =>
            cases o with
            | int old =>
              show wS ((eOpd mv e1).then _) P = _
              rw [wS_then, wE_opd]
              refine wE_ext fun r2 e2 => ?_
              cases vw e2 (asO r2) with
              | none => rfl
              | some y =>
                cases y with
                | int y =>
                  cases ownAt e2 i with
                  | none => rfl
                  | some es =>
                    show wS (match ixN es.length j with | some k => _ | none => _) P = wL (ixN es.length j) _
                    cases ixN es.length j <;> rfl
                | _ => rfl
            | _ => rfl
      | _ => rfl
@[simp ↓] theorem wS_aug (f : Int → Int → Int) (i : Nat) (m : M Res) : wS (sAug f i m en) P = wL en[i]? fun s => wV s (fun dv => wN dv fun old => wE (m en) (fun r e1 => wL (vw e1 (asO r)) fun d => wN d fun y => P.nx (e1.set i (.val (.int (f old y))))) P.ex) (fun _ => False) := by
  unfold sAug
  cases en[i]? with
  | none => rfl
  | some s =>
    cases s with
    | val d =>
      cases d with
      | int old =>
        show wS ((eOpd m en).then _) P = _
        rw [wS_then, wE_opd]
        refine wE_ext fun r e1 => ?_
        cases vw e1 (asO r) with
        | none => rfl
        | some d => cases d <;> rfl
      | _ => rfl
    | _ => rfl
/-- a while loop by what holds ahead of each turn and what falls -/
theorem wS_while {c : M Bool} {mb : MS} (I : En → Prop) (μ : En → Nat) (h0 : I en)
    (hs : ∀ e, I e → wE (c e) (fun b e1 => wI b (wS (mb e1) ⟨Hold fun e2 => I e2 ∧ μ e2 < μ e, P.rt, P.ex, P.nx, Hold fun e2 => I e2 ∧ μ e2 < μ e⟩) (P.nx e1)) P.ex) : wS (sWhile c mb en) P := by
  have key : ∀ n e, I e → μ e < n → whileN c mb n e ≠ .stuck ∧ wS (whileN c mb n e) P := by
    intro n
    induction n with
    | zero => intro e _ h; exact absurd h (Nat.not_lt_zero _)
    | succ n ih =>
      intro e hI hm
      have q := hs e hI
      unfold whileN
      cases hc : c e with
      | stuck => rw [hc] at q; exact q.elim
      | exc cc d e1 => rw [hc] at q; exact ⟨(nomatch ·), q⟩
      | ok b e1 =>
        rw [hc] at q
        simp only [wE_ok] at q
        show (if b = true then _ else _ : OutS) ≠ .stuck ∧ wS (if b = true then _ else _ : OutS) P
        cases b with
        | false => exact ⟨(nomatch ·), q⟩
        | true =>
          simp only [wI_true, if_true] at q ⊢
          cases hb : mb e1 <;> rw [hb] at q
          · exact ih _ q.1 (by have := q.2; omega)
          · exact ⟨(nomatch ·), q⟩
          · exact ⟨(nomatch ·), q⟩
          · exact ih _ q.1 (by have := q.2; omega)
          · exact ⟨(nomatch ·), q⟩
          · exact q.elim
  have mono : ∀ n m e, whileN c mb n e ≠ .stuck → whileN c mb m e ≠ .stuck → whileN c mb n e = whileN c mb m e := by
    intro n
    induction n with
    | zero => intro m e h _; exact absurd rfl h
    | succ n ih =>
      intro m e h1 h2
      cases m with
      | zero => exact absurd rfl h2
      | succ m =>
        unfold whileN at h1 h2 ⊢
        cases hc : c e with
        | stuck => rfl
        | exc cc d e1 => rfl
        | ok b e1 =>
          rw [hc] at h1 h2
          cases b with
          | false => rfl
          | true =>
            show (match mb e1 with | .nx en2 => whileN c mb n en2 | .cont en2 => whileN c mb n en2 | .brk en2 => .nx en2 | o => o) = (match mb e1 with | .nx en2 => whileN c mb m en2 | .cont en2 => whileN c mb m en2 | .brk en2 => .nx en2 | o => o : OutS)
            replace h1 : (match mb e1 with | .nx en2 => whileN c mb n en2 | .cont en2 => whileN c mb n en2 | .brk en2 => .nx en2 | o => o) ≠ .stuck := h1
            replace h2 : (match mb e1 with | .nx en2 => whileN c mb m en2 | .cont en2 => whileN c mb m en2 | .brk en2 => .nx en2 | o => o) ≠ .stuck := h2
            cases hb : mb e1 <;> rw [hb] at h1 h2 <;> first | exact ih _ _ h1 h2 | rfl
  obtain ⟨k1, k2⟩ := key _ en h0 (Nat.lt_succ_self _)
  have hx : ∃ n, whileN c mb n en ≠ .stuck := ⟨_, k1⟩
  unfold sWhile
  rw [dif_pos hx, mono _ _ en hx.choose_spec k1]
  exact k2
end
/-- the integer in a slot -/
def slI (en : En) (i : Nat) : Int := match en[i]? with
  | some (.val (.int j)) => j
  | _ => 0
@[simp] theorem isX_non : isX .non = false := id rfl
@[simp] theorem isX_bl (b : Bool) : isX (.bl b) = false := id rfl
@[simp] theorem isX_int (b : Int) : isX (.int b) = false := id rfl
@[simp] theorem isX_str (b : Wd) : isX (.str b) = false := id rfl
@[simp] theorem isX_tup (b : List Dt) : isX (.tup b) = false := id rfl
@[simp] theorem isX_lst (b : List Dt) : isX (.lst b) = false := id rfl
@[simp] theorem isTy_non_bool : isTy .non "bool" = false := by simp [isTy, tyN]
@[simp] theorem isTy_non_int : isTy .non "int" = false := by simp [isTy, tyN]
@[simp] theorem isTy_non_str : isTy .non "str" = false := by simp [isTy, tyN]
@[simp] theorem isTy_non_tuple : isTy .non "tuple" = false := by simp [isTy, tyN]
@[simp] theorem isTy_non_list : isTy .non "list" = false := by simp [isTy, tyN]
@[simp] theorem isTy_bl_bool (b : Bool) : isTy (.bl b) "bool" = true := by simp [isTy, tyN]
@[simp] theorem isTy_bl_int (b : Bool) : isTy (.bl b) "int" = true := by simp [isTy, tyN]
@[simp] theorem isTy_bl_str (b : Bool) : isTy (.bl b) "str" = false := by simp [isTy, tyN]
@[simp] theorem isTy_bl_tuple (b : Bool) : isTy (.bl b) "tuple" = false := by simp [isTy, tyN]
@[simp] theorem isTy_bl_list (b : Bool) : isTy (.bl b) "list" = false := by simp [isTy, tyN]
@[simp] theorem isTy_int_bool (b : Int) : isTy (.int b) "bool" = false := by simp [isTy, tyN]
@[simp] theorem isTy_int_int (b : Int) : isTy (.int b) "int" = true := by simp [isTy, tyN]
@[simp] theorem isTy_int_str (b : Int) : isTy (.int b) "str" = false := by simp [isTy, tyN]
@[simp] theorem isTy_int_tuple (b : Int) : isTy (.int b) "tuple" = false := by simp [isTy, tyN]
@[simp] theorem isTy_int_list (b : Int) : isTy (.int b) "list" = false := by simp [isTy, tyN]
@[simp] theorem isTy_str_bool (b : Wd) : isTy (.str b) "bool" = false := by simp [isTy, tyN]
@[simp] theorem isTy_str_int (b : Wd) : isTy (.str b) "int" = false := by simp [isTy, tyN]
@[simp] theorem isTy_str_str (b : Wd) : isTy (.str b) "str" = true := by simp [isTy, tyN]
@[simp] theorem isTy_str_tuple (b : Wd) : isTy (.str b) "tuple" = false := by simp [isTy, tyN]
@[simp] theorem isTy_str_list (b : Wd) : isTy (.str b) "list" = false := by simp [isTy, tyN]
@[simp] theorem isTy_tup_bool (b : List Dt) : isTy (.tup b) "bool" = false := by simp [isTy, tyN]
@[simp] theorem isTy_tup_int (b : List Dt) : isTy (.tup b) "int" = false := by simp [isTy, tyN]
@[simp] theorem isTy_tup_str (b : List Dt) : isTy (.tup b) "str" = false := by simp [isTy, tyN]
@[simp] theorem isTy_tup_tuple (b : List Dt) : isTy (.tup b) "tuple" = true := by simp [isTy, tyN]
@[simp] theorem isTy_tup_list (b : List Dt) : isTy (.tup b) "list" = false := by simp [isTy, tyN]
@[simp] theorem isTy_lst_bool (b : List Dt) : isTy (.lst b) "bool" = false := by simp [isTy, tyN]
@[simp] theorem isTy_lst_int (b : List Dt) : isTy (.lst b) "int" = false := by simp [isTy, tyN]
@[simp] theorem isTy_lst_str (b : List Dt) : isTy (.lst b) "str" = false := by simp [isTy, tyN]
@[simp] theorem isTy_lst_tuple (b : List Dt) : isTy (.lst b) "tuple" = false := by simp [isTy, tyN]
@[simp] theorem isTy_lst_list (b : List Dt) : isTy (.lst b) "list" = true := by simp [isTy, tyN]
@[simp] theorem fIx_l (ds : List Dt) (i : Int) : fIx (.lst ds) (.int i) = (atI ds i).map .dat := id rfl
@[simp] theorem fIx_t (ds : List Dt) (i : Int) : fIx (.tup ds) (.int i) = (atI ds i).map .dat := id rfl
@[simp] theorem fEq_int (i j : Int) : fEq (.int i) (.int j) = some (.dat (.bl (decide (i = j)))) := by
  rw [show fEq (.int i) (.int j) = some (.dat (.bl (i == j))) from rfl, show (i == j) = decide (i = j) from rfl]
@[simp] theorem fNe_int (i j : Int) : fNe (.int i) (.int j) = some (.dat (.bl (!decide (i = j)))) := by
  rw [show fNe (.int i) (.int j) = some (.dat (.bl (!(i == j)))) from rfl, show (i == j) = decide (i = j) from rfl]
@[simp] theorem fEq_bl (i j : Bool) : fEq (.bl i) (.bl j) = some (.dat (.bl (i == j))) := id rfl
@[simp] theorem fNe_bl (i j : Bool) : fNe (.bl i) (.bl j) = some (.dat (.bl (!(i == j)))) := id rfl
@[simp] theorem fLt_int (i j : Int) : fLt (.int i) (.int j) = some (.dat (.bl (decide (i < j)))) := id rfl
@[simp] theorem fLe_int (i j : Int) : fLe (.int i) (.int j) = some (.dat (.bl (decide (i ≤ j)))) := id rfl
@[simp] theorem fGt_int (i j : Int) : fGt (.int i) (.int j) = some (.dat (.bl (decide (j < i)))) := id rfl
@[simp] theorem fGe_int (i j : Int) : fGe (.int i) (.int j) = some (.dat (.bl (decide (j ≤ i)))) := id rfl
@[simp] theorem fIsN_ (a : Dt) : fIsN a .non = some (.dat (.bl (isNon a))) := id rfl
@[simp] theorem fNotN_ (a : Dt) : fNotN a .non = some (.dat (.bl (!isNon a))) := id rfl
@[simp] theorem isNon_non : isNon .non = true := id rfl
@[simp] theorem isNon_bl (b : Bool) : isNon (.bl b) = false := id rfl
@[simp] theorem isNon_int (b : Int) : isNon (.int b) = false := id rfl
@[simp] theorem isNon_str (b : Wd) : isNon (.str b) = false := id rfl
@[simp] theorem isNon_tup (b : List Dt) : isNon (.tup b) = false := id rfl
@[simp] theorem isNon_lst (b : List Dt) : isNon (.lst b) = false := id rfl
@[simp] theorem isNon_exo (c : Str) (b : Dt) : isNon (.exo c b) = false := id rfl
@[simp] theorem fAdd_int (a b : Int) : fAdd (.int a) (.int b) = some (.dat (.int (a + b))) := id rfl
@[simp] theorem fAdd_str (x y : Wd) : fAdd (.str x) (.str y) = if x.length + y.length ≤ sizeLine then some (.dat (.str (x ++ y))) else none := id rfl
@[simp] theorem fAdd_lst (xs ys : List Dt) : fAdd (.lst xs) (.lst ys) = if xs.length + ys.length ≤ sizeLine then some (.new (xs ++ ys)) else none := id rfl
@[simp] theorem fAdd_tup (xs ys : List Dt) : fAdd (.tup xs) (.tup ys) = if xs.length + ys.length ≤ sizeLine ∧ xs.isEmpty = false then some (.dat (.tup (xs ++ ys))) else none := id rfl
@[simp] theorem fSub_int (a b : Int) : fSub (.int a) (.int b) = some (.dat (.int (a - b))) := id rfl
@[simp] theorem fMul_int (a b : Int) : fMulX (.int a) (.int b) = if mulOk a b then some (.dat (.int (a * b))) else none := id rfl
@[simp] theorem fMul_lst (xs : List Dt) (k : Int) : fMulX (.lst xs) (.int k) = if inB62 k ∧ xs.length * k.toNat ≤ sizeLine then some (.new (List.replicate k.toNat xs).flatten) else none := id rfl
@[simp] theorem fMod_int (a b : Int) : fMod (.int a) (.int b) = if 0 < b then some (.dat (.int (a % b))) else none := id rfl
@[simp] theorem fDiv_int (a b : Int) : fDiv (.int a) (.int b) = if divOk b then some (.dat (.int (a.fdiv b))) else none := id rfl
@[simp] theorem fPow_int (a b : Int) : fPow (.int a) (.int b) = if 0 ≤ b ∧ b ≤ 1000000 ∧ a.natAbs < 18446744073709551616 then some (.dat (.int (a ^ b.toNat))) else none := id rfl
@[simp] theorem fNeg_int (a : Int) : fNeg (.int a) = some (.dat (.int (-a))) := id rfl
@[simp] theorem fLen_l (ds : List Dt) : fLen [.lst ds] = some (.dat (.int ds.length)) := id rfl
@[simp] theorem fLen_t (ds : List Dt) : fLen [.tup ds] = some (.dat (.int ds.length)) := id rfl
@[simp] theorem fLen_s (x : Wd) : fLen [.str x] = if x.length ≤ sizeLine then some (.dat (.int x.length)) else none := id rfl
@[simp] theorem fInt_i (i : Int) : fInt [.int i] = some (.dat (.int i)) := id rfl
@[simp] theorem fInt_b (b : Bool) : fInt [.bl b] = some (.dat (.int (if b then 1 else 0))) := id rfl
@[simp] theorem fAbs_i (i : Int) : fAbs [.int i] = some (.dat (.int (if i < 0 then -i else i))) := id rfl
@[simp] theorem fList_l (ds : List Dt) : fList [.lst ds] = some (.new ds) := id rfl
@[simp] theorem fList_t (ds : List Dt) : fList [.tup ds] = some (.new ds) := id rfl
@[simp] theorem fTuple_l (ds : List Dt) : fTuple [.lst ds] = some (.dat (.tup ds)) := id rfl
@[simp] theorem fTuple_t (ds : List Dt) : fTuple [.tup ds] = some (.dat (.tup ds)) := id rfl
@[simp] theorem fMin2_ (i j : Int) : fMin2 [.int i, .int j] = some (.dat (.int (if j < i then j else i))) := id rfl
@[simp] theorem fMax2_ (i j : Int) : fMax2 [.int i, .int j] = some (.dat (.int (if j > i then j else i))) := id rfl
theorem lz (n : Nat) (h : n ≤ 16777216) : n ≤ sizeLine := by rw [sizeLine_eq]; exact h
theorem lz' (n : Nat) (h : n < 16777216) : n < sizeLine := by rw [sizeLine_eq]; exact h
theorem inB62_ (j : Int) (h : -4611686018427387904 ≤ j ∧ j < 4611686018427387904) : inB62 j := h
theorem atI_nat (ds : List Dt) (k : Nat) (h : k < ds.length) : atI ds (k : Int) = some ds[k] := by
  unfold atI ixN
  rw [if_pos (by omega), if_pos (by omega)]
  simp [h]
theorem atI_ofNat (ds : List Dt) (k : Nat) : atI ds (k : Int) = ds[k]? := by
  unfold atI ixN
  by_cases h : k < ds.length
  · rw [if_pos (by omega), if_pos (by omega)]; simp
  · rw [if_pos (by omega), if_neg (by omega)]; simp at h ⊢; omega
@[simp] theorem atI_0 (ds : List Dt) : atI ds 0 = ds[0]? := atI_ofNat ds 0
@[simp] theorem atI_1 (ds : List Dt) : atI ds 1 = ds[1]? := atI_ofNat ds 1
@[simp] theorem atI_2 (ds : List Dt) : atI ds 2 = ds[2]? := atI_ofNat ds 2
@[simp] theorem atI_3 (ds : List Dt) : atI ds 3 = ds[3]? := atI_ofNat ds 3
theorem rangeD_mem {n : Nat} {d : Dt} (h : d ∈ rangeD 0 n) : ∃ k : Nat, k < n ∧ d = .int k := by
  unfold rangeD at h
  obtain ⟨k, hk, e⟩ := List.mem_map.mp h
  exact ⟨k, by simpa using List.mem_range.mp hk, by rw [← e]; simp⟩
@[simp] theorem startE_ (n : Nat) (ds : List Dt) : startE n ds = ds.map .val ++ List.replicate (n - ds.length) .un := id rfl
@[simp] theorem startR_ (n : Nat) (cs ds : List Dt) : startR n cs ds = .own cs :: startE (n - 1) ds := id rfl
end Fw

/-! Fy3: the pot's draws and the laws' sameness (first variants). -/
namespace Fw
open PySem PySem.Spec PyProof.Rows L2
noncomputable section
def m__law_take : MS :=
  (sSeq (sIf (cAnd (cBl (eBin fEq (eBin fIx (eVar 0) (eDat (.int 0))) (eDat (.int 0)))) (cBl (eBin fLt (eBin fIx (eVar 0) (eDat (.int 2))) (eCB fLen (eCons (eVar 0) eNil))))) (sSeq (sSet 2 (eBin fIx (eVar 0) (eBin fIx (eVar 0) (eDat (.int 2))))) (sSeq (sAugIx (fun i j => i + j) 0 (eDat (.int 2)) (eDat (.int 1))) (sIf (cBl (eBin fGe (eVar 2) (eBin fPow (eDat (.int 10)) (eDat (.int 18))))) (sSetIx 0 (eDat (.int 0)) (eBin fSub (eVar 2) (eBin fPow (eDat (.int 10)) (eDat (.int 18))))) (sSeq (sSet 3 (eBin fMod (eCB fInt (eCons (eVar 2) eNil)) (eDat (.int 2147483647)))) (sSeq (sSet 3 (eBin fMod (eCB fInt (eCons (eBin fAdd (eBin fAdd (eBin fMulX (eVar 3) (eVar 3)) (eBin fMulX (eDat (.int 62089911)) (eVar 3))) (eBin fMulX (eDat (.int 1301)) (eBin fIx (eVar 0) (eDat (.int 2))))) eNil)) (eDat (.int 2147483629)))) (sSetIx 0 (eDat (.int 1)) (eBin fMod (eCB fInt (eCons (eBin fAdd (eBin fIx (eVar 0) (eDat (.int 1))) (eVar 3)) eNil)) (eDat (.int 2147483629))))))))) sSkip) (sSeq (sIf (cBl (eBin fGt (eBin fIx (eVar 0) (eDat (.int 0))) (eDat (.int 0)))) (sSeq (sSet 4 (eBin fMod (eCB fInt (eCons (eBin fIx (eVar 0) (eDat (.int 0))) eNil)) (eVar 1))) (sSeq (sSetIx 0 (eDat (.int 0)) (eBin fDiv (eBin fIx (eVar 0) (eDat (.int 0))) (eVar 1))) (sRet 1 (eVar 4)))) sSkip) (sSeq (sSetIx 0 (eDat (.int 1)) (eBin fMod (eCB fInt (eCons (eBin fAdd (eBin fAdd (eBin fMulX (eBin fIx (eVar 0) (eDat (.int 1))) (eDat (.int 41358))) (eBin fMulX (eDat (.int 31657)) (eBin fIx (eVar 0) (eDat (.int 2))))) (eDat (.int 23))) eNil)) (eDat (.int 2147483647)))) (sSeq (sSetIx 0 (eDat (.int 1)) (eBin fMod (eCB fInt (eCons (eBin fAdd (eBin fMulX (eBin fIx (eVar 0) (eDat (.int 1))) (eBin fIx (eVar 0) (eDat (.int 1)))) (eDat (.int 11))) eNil)) (eDat (.int 2147483629)))) (sRet 1 (eBin fMod (eCB fInt (eCons (eBin fDiv (eBin fIx (eVar 0) (eDat (.int 1))) (eDat (.int 8))) eNil)) (eVar 1)))))))
def s__law_take : FSR := semR 5 m__law_take
def m__law_same (S : FS) : MS :=
  (sSeq (sIf (cBl (eBin fIsN (eVar 1) (eDat .non))) (sRet 0 (eBin fIsN (eVar 0) (eDat .non))) sSkip) (sSeq (sIf (cTru (eIsi ["bool", "str"] (eVar 1))) (sRet 0 (eAnd (eBin fEq (eIsi ["bool"] (eVar 0)) (eIsi ["bool"] (eVar 1))) (eAnd (eIsi ["bool", "str"] (eVar 0)) (eBin fEq (eVar 0) (eVar 1))))) sSkip) (sSeq (sIf (cTru (eIsi ["int"] (eVar 1))) (sRet 0 (eAnd (eIsi ["int"] (eVar 0)) (eAnd (eNot (eIsi ["bool"] (eVar 0))) (eBin fEq (eVar 0) (eVar 1))))) sSkip) (sSeq (sIf (cOr (cBl (eBin fNe (eIsi ["list"] (eVar 1)) (eIsi ["list"] (eVar 0)))) (cBl (eBin fNe (eIsi ["tuple"] (eVar 1)) (eIsi ["tuple"] (eVar 0))))) (sRet 0 (eDat (.bl false))) sSkip) (sRet 0 (eAnd (eBin fEq (eCB fLen (eCons (eVar 0) eNil)) (eCB fLen (eCons (eVar 1) eNil))) (eCB fAll (eCons (eComp (iRange1 (eCB fLen (eCons (eVar 1) eNil))) (gNm 2) cYes (eCall 2 S (vCons (eBin fIx (eVar 0) (eVar 2)) (vCons (eBin fIx (eVar 1) (eVar 2)) vNil))) [2]) eNil))))))))
def s__law_same : Nat → FS
  | 0 => fun _ => .stuck
  | n + 1 => semF 3 (m__law_same (s__law_same n))
end
def potL (a b c : Int) (rest : List Int) : List Dt := .int a :: .int b :: .int c :: rest.map .int
def PotOk (cs : List Dt) : Prop := ∃ a b c rest, cs = potL a b c rest ∧ 0 ≤ a ∧ 0 ≤ b ∧ b < 2147483647 ∧ 3 ≤ c ∧ c ≤ rest.length + 3 ∧ rest.length ≤ 63
theorem ix0 (n : Nat) : ixN (n + 3) 0 = some 0 := by unfold ixN; simp; omega
theorem ix1 (n : Nat) : ixN (n + 3) 1 = some 1 := by unfold ixN; simp; omega
theorem ix2 (n : Nat) : ixN (n + 3) 2 = some 2 := by unfold ixN; simp; omega
theorem pot_len (a b c : Int) (rest : List Int) : (potL a b c rest).length = rest.length + 3 := by simp [potL]
theorem at0 (a b c : Int) (rest : List Int) : atI (potL a b c rest) 0 = some (.int a) := by unfold atI; rw [pot_len, ix0]; rfl
theorem at1 (a b c : Int) (rest : List Int) : atI (potL a b c rest) 1 = some (.int b) := by unfold atI; rw [pot_len, ix1]; rfl
theorem at2 (a b c : Int) (rest : List Int) : atI (potL a b c rest) 2 = some (.int c) := by unfold atI; rw [pot_len, ix2]; rfl
theorem at_c (c : Int) (rest : List Int) (h3 : 3 ≤ c) (h : c < rest.length + 3) : ∃ x, ∀ a b c2 : Int, atI (potL a b c2 rest) c = some (.int x) := by
  obtain ⟨n, rfl⟩ : ∃ n : Nat, c = (n : Int) + 3 := ⟨(c - 3).toNat, by omega⟩
  have hn : n < rest.length := by omega
  refine ⟨rest[n], fun a b c2 => ?_⟩
  unfold atI ixN
  rw [pot_len, if_pos (by omega), if_pos (by omega)]
  have e : ((n : Int) + 3).toNat = n + 3 := by omega
  rw [e]
  show (potL a b _ rest)[n + 3]? = _
  unfold potL
  simp [hn]
theorem set0 (a b c x : Int) (rest : List Int) : (potL a b c rest).set 0 (.int x) = potL x b c rest := rfl
theorem set1 (a b c x : Int) (rest : List Int) : (potL a b c rest).set 1 (.int x) = potL a x c rest := rfl
theorem set2 (a b c x : Int) (rest : List Int) : (potL a b c rest).set 2 (.int x) = potL a b x rest := rfl
theorem get2 (a b c : Int) (rest : List Int) : (potL a b c rest)[(2 : Nat)]? = some (.int c) := rfl

theorem potOk_len {cs : List Dt} (h : PotOk cs) : cs.length ≤ 66 := by
  obtain ⟨a, b, c, rest, rfl, _, _, _, _, _, hr⟩ := h
  rw [pot_len]; omega
theorem dOk (many : Int) (h0 : 0 < many) (hm : many.natAbs < 1073741824) : divOk many := .inl ⟨by omega, hm⟩
theorem get2e (a b c : Int) (rest : List Int) (h : 2 < (potL a b c rest).length) : (potL a b c rest)[2] = .int c := rfl
theorem get0e (a b c : Int) (rest : List Int) (h : 0 < (potL a b c rest).length) : (potL a b c rest)[0] = .int a := rfl
theorem get1e (a b c : Int) (rest : List Int) (h : 1 < (potL a b c rest).length) : (potL a b c rest)[1] = .int b := rfl
theorem get0 (a b c : Int) (rest : List Int) : (potL a b c rest)[0]? = some (.int a) := rfl
theorem get1 (a b c : Int) (rest : List Int) : (potL a b c rest)[1]? = some (.int b) := rfl
theorem mulOk_ (i j : Int) (h : i.natAbs < 18446744073709551616 ∨ j.natAbs < 18446744073709551616) : mulOk i j := h.elim .inl (.inr ∘ .inl)
theorem mod_in (x m : Int) (h : 0 < m) : 0 ≤ x % m ∧ x % m < m := ⟨Int.emod_nonneg _ (by omega), Int.emod_lt_of_pos _ h⟩
/-- a draw -/
theorem take_w {cs : List Dt} {many : Int} {Q : Res → Cn → Prop} (hp : PotOk cs) (h0 : 0 < many) (hm : many.natAbs < 1073741824)
    (k : ∀ r cs', 0 ≤ r → r < many → PotOk cs' → Q (.dat (.int r)) (.l cs')) : wFR (s__law_take (.l cs) [.int many]) Q := by
  obtain ⟨a, b, c, rest, rfl, ha, hb, hb2, hc, hc2, hr⟩ := hp
  have dk := dOk many h0 hm
  unfold s__law_take
  rw [wFR_sem]
  unfold m__law_take
  simp only [startE_, startR_, List.map_cons, List.map_nil, List.length_cons, List.length_nil, List.replicate, Nat.reduceSub, Nat.reduceAdd, List.cons_append, List.nil_append]
  have fin : ∀ (a' b' c' : Int) (u v w : Sl), 0 ≤ a' → 0 ≤ b' → b' < 2147483647 → 3 ≤ c' → c' ≤ rest.length + 3 → (∀ r cs', 0 ≤ r → r < many → PotOk cs' → Q (.dat (.int r)) (.l cs')) →
      wS (((sSeq (sIf (cBl (eBin fGt (eBin fIx (eVar 0) (eDat (.int 0))) (eDat (.int 0)))) (sSeq (sSet 4 (eBin fMod (eCB fInt (eCons (eBin fIx (eVar 0) (eDat (.int 0))) eNil)) (eVar 1))) (sSeq (sSetIx 0 (eDat (.int 0)) (eBin fDiv (eBin fIx (eVar 0) (eDat (.int 0))) (eVar 1))) (sRet 1 (eVar 4)))) sSkip) (sSeq (sSetIx 0 (eDat (.int 1)) (eBin fMod (eCB fInt (eCons (eBin fAdd (eBin fAdd (eBin fMulX (eBin fIx (eVar 0) (eDat (.int 1))) (eDat (.int 41358))) (eBin fMulX (eDat (.int 31657)) (eBin fIx (eVar 0) (eDat (.int 2))))) (eDat (.int 23))) eNil)) (eDat (.int 2147483647)))) (sSeq (sSetIx 0 (eDat (.int 1)) (eBin fMod (eCB fInt (eCons (eBin fAdd (eBin fMulX (eBin fIx (eVar 0) (eDat (.int 1))) (eBin fIx (eVar 0) (eDat (.int 1)))) (eDat (.int 11))) eNil)) (eDat (.int 2147483629)))) (sRet 1 (eBin fMod (eCB fInt (eCons (eBin fDiv (eBin fIx (eVar 0) (eDat (.int 1))) (eDat (.int 8))) eNil)) (eVar 1))))))) [.own (potL a' b' c' rest), .val (.int many), u, v, w]) ⟨fun e => wL (ownC e 0) fun cs => Q (.dat .non) cs, fun r e => wL (ownC e 0) fun cs => wFR (.ret r cs) Q, fun _ _ _ => False, fun _ => False, fun _ => False⟩ := by
    intro a' b' c' u v w ha' hb' hb2' hc' hc2' k
    have q1 := mod_in (b' * 41358 + 31657 * c' + 23) 2147483647 (by decide)
    have q2 := mod_in ((b' * 41358 + 31657 * c' + 23) % 2147483647 * ((b' * 41358 + 31657 * c' + 23) % 2147483647) + 11) 2147483629 (by decide)
    have o1 := mulOk_ b' 41358 (.inl (by omega))
    have o2 := mulOk_ 31657 c' (.inl (by decide))
    have o3 := mulOk_ ((b' * 41358 + 31657 * c' + 23) % 2147483647) ((b' * 41358 + 31657 * c' + 23) % 2147483647) (.inl (by omega))
    have d8 : divOk 8 := by decide
    simp [ix0, ix1, ix2, pot_len, set0, set1, set2, get0e, get1e, get2e, get0, get1, get2, dk, h0, o1, o2, o3, d8]
    refine wI_mk (fun h => ?_) (fun h => ?_)
    · simp at h
      simp [ix0, ix1, ix2, pot_len, set0, set1, set2, get0e, get1e, get2e, get0, get1, get2, dk, h0, o1, o2, o3, d8]
      exact k _ _ (mod_in _ _ h0).1 (mod_in _ _ h0).2 ⟨_, _, _, _, rfl, Int.fdiv_nonneg ha' (by omega), hb', hb2', hc', hc2', hr⟩
    · simp [ix0, ix1, ix2, pot_len, set0, set1, set2, get0e, get1e, get2e, get0, get1, get2, dk, h0, o1, o2, o3, d8]
      exact k _ _ (mod_in _ _ h0).1 (mod_in _ _ h0).2 ⟨_, _, _, _, rfl, ha', q2.1, by omega, hc', hc2', hr⟩
  refine wS_cut (fun e => ∃ a' b' c' u v w, e = [.own (potL a' b' c' rest), .val (.int many), u, v, w] ∧ 0 ≤ a' ∧ 0 ≤ b' ∧ b' < 2147483647 ∧ 3 ≤ c' ∧ c' ≤ rest.length + 3) ?_ (fun e ⟨a', b', c', u, v, w, h0, h1, h2, h3, h4, h5⟩ => by subst h0; exact fin a' b' c' u v w h1 h2 h3 h4 h5 k)
  clear fin
  have hp : fPow (.int 10) (.int 18) = some (.dat (.int 1000000000000000000)) := by rfl
  simp [get0, get0e, pot_len, -fPow_int]
  refine wI_mk (fun h => ?_) (fun h => ?_)
  · simp [get2, get2e, pot_len] at h ⊢
    refine wI_mk (fun h => ?_) (fun h => ?_)
    · simp at h
      obtain ⟨x, hx⟩ := at_c c rest hc (by omega)
      have m1 := mod_in x 2147483647 (by decide)
      have m2 := mod_in (x % 2147483647 * (x % 2147483647) + 62089911 * (x % 2147483647) + 1301 * (c + 1)) 2147483629 (by decide)
      have m3 := mod_in (b + (x % 2147483647 * (x % 2147483647) + 62089911 * (x % 2147483647) + 1301 * (c + 1)) % 2147483629) 2147483629 (by decide)
      have o1 := mulOk_ (x % 2147483647) (x % 2147483647) (.inl (by omega))
      have o2 := mulOk_ 62089911 (x % 2147483647) (.inl (by decide))
      have o3 := mulOk_ 1301 (c + 1) (.inl (by decide))
      simp [get2, get2e, get1e, get0e, pot_len, hx, ix0, ix1, ix2, set0, set1, set2, hp, -fPow_int]
      refine wI_mk (fun h18 => ?_) (fun h18 => ?_)
      · simp at h18
        simp [get2, get2e, get1e, get0e, pot_len, hx, ix0, ix1, ix2, set0, set1, set2, hp, -fPow_int]
        exact ⟨_, _, _, _, _, _, rfl, (by omega), hb, hb2, (by omega), (by omega)⟩
      · simp [get2, get2e, get1e, get0e, pot_len, hx, ix0, ix1, ix2, set0, set1, set2, hp, o1, o2, o3, -fPow_int]
        exact ⟨_, _, _, _, _, _, rfl, ha, (mod_in _ _ (by decide)).1, Int.lt_trans (mod_in _ _ (by decide)).2 (by decide), (by omega), (by omega)⟩
    · exact ⟨_, _, _, _, _, _, rfl, ha, hb, hb2, hc, hc2⟩
  · exact ⟨_, _, _, _, _, _, rfl, ha, hb, hb2, hc, hc2⟩


/-! ### data of bounded depth -/
mutual
def gd : Nat → Dt → Bool
  | _, .str x => x.all fun c => decide (c < 1114112)
  | 0, .tup _ => false
  | 0, .lst _ => false
  | n + 1, .tup ds => decide (ds.length ≤ 100000) && gds n ds
  | n + 1, .lst ds => decide (ds.length ≤ 100000) && gds n ds
  | _, .exo _ _ => false
  | _, .dic _ _ => false
  | _, .non => true
  | _, .bl _ => true
  | _, .int _ => true
def gds : Nat → List Dt → Bool
  | _, [] => true
  | n, d :: ds => gd n d && gds n ds
end
@[simp] theorem gd_non (n : Nat) : gd n .non = true := by cases n <;> rfl
@[simp] theorem gd_bl (n : Nat) (b : Bool) : gd n (.bl b) = true := by cases n <;> rfl
@[simp] theorem gd_int (n : Nat) (b : Int) : gd n (.int b) = true := by cases n <;> rfl
@[simp] theorem gd_str (n : Nat) (x : Wd) : gd n (.str x) = x.all fun c => decide (c < 1114112) := by cases n <;> rfl
@[simp] theorem gd_dic (n : Nat) (c : List Ky) (d : List Dt) : gd n (.dic c d) = false := by cases n <;> rfl
@[simp] theorem gd_exo (n : Nat) (c : Str) (d : Dt) : gd n (.exo c d) = false := by cases n <;> rfl
@[simp] theorem gd_tup (n : Nat) (ds : List Dt) : gd (n + 1) (.tup ds) = (decide (ds.length ≤ 100000) && gds n ds) := by rw [gd]
@[simp] theorem gd_lst (n : Nat) (ds : List Dt) : gd (n + 1) (.lst ds) = (decide (ds.length ≤ 100000) && gds n ds) := by rw [gd]
@[simp] theorem gds_nil (n : Nat) : gds n [] = true := by cases n <;> rfl
@[simp] theorem gds_cons (n : Nat) (d : Dt) (ds : List Dt) : gds n (d :: ds) = (gd n d && gds n ds) := by rw [gds]
theorem gds_all {n : Nat} : ∀ {ds : List Dt}, gds n ds = true ↔ ∀ d ∈ ds, gd n d = true
  | [] => by simp
  | d :: ds => by simp [gds_all (ds := ds)]
theorem gds_map {α : Type} {n : Nat} {f : α → Dt} {l : List α} (h : ∀ x ∈ l, gd n (f x) = true) : gds n (l.map f) = true := by
  rw [gds_all]; intro d hd; obtain ⟨x, hx, rfl⟩ := List.mem_map.mp hd; exact h x hx
theorem gds_app {n : Nat} {a b : List Dt} : gds n (a ++ b) = (gds n a && gds n b) := by
  induction a with
  | nil => simp
  | cons x xs ih => simp [ih, Bool.and_assoc]
theorem strOk_st (x : Wd) (h : (x.all fun c => decide (c < 1114112)) = true) : PyData.strOk (st x) = true := by
  unfold PyData.strOk
  simpa [st] using h
mutual
theorem gd_dpl : ∀ (n : Nat) (d : Dt), gd n d = true → dpl d = true
  | _, .non, _ => rfl
  | _, .bl _, _ => rfl
  | _, .int _, _ => rfl
  | _, .str _, _ => rfl
  | _, .exo _ _, h => by simp at h
  | _, .dic _ _, h => by simp at h
  | 0, .tup _, h => by cases h
  | 0, .lst _, h => by cases h
  | n + 1, .tup ds, h => by simp at h; exact gds_dpl n ds h.2
  | n + 1, .lst ds, h => by simp at h; exact gds_dpl n ds h.2
theorem gds_dpl : ∀ (n : Nat) (d : List Dt), gds n d = true → dpls d = true
  | _, [], _ => rfl
  | n, d :: ds, h => by
    simp at h
    unfold dpls
    rw [gd_dpl n d h.1, gds_dpl n ds h.2]; rfl
end
mutual
theorem gd_can : ∀ (n : Nat) (d : Dt), gd n d = true → (py d).canLay0 = true ∧ (py d).depth ≤ n
  | _, .non, _ => ⟨rfl, Nat.zero_le _⟩
  | _, .bl _, _ => ⟨rfl, Nat.zero_le _⟩
  | _, .int _, _ => ⟨rfl, Nat.zero_le _⟩
  | _, .str x, h => ⟨by rw [gd_str] at h; exact strOk_st x h, Nat.zero_le _⟩
  | _, .exo _ _, h => by simp at h
  | _, .dic _ _, h => by simp at h
  | 0, .tup _, h => by cases h
  | 0, .lst _, h => by cases h
  | n + 1, .tup ds, h => by
    simp at h
    have q := gds_can n ds h.2
    exact ⟨q.1, Nat.succ_le_succ q.2⟩
  | n + 1, .lst ds, h => by
    simp at h
    have q := gds_can n ds h.2
    exact ⟨q.1, Nat.succ_le_succ q.2⟩
theorem gds_can : ∀ (n : Nat) (d : List Dt), gds n d = true → PyData.canLayAll0 (pys d) = true ∧ PyData.depthAll (pys d) ≤ n
  | _, [], _ => ⟨rfl, Nat.zero_le _⟩
  | n, d :: ds, h => by
    simp at h
    have q1 := gd_can n d h.1
    have q2 := gds_can n ds h.2
    constructor
    · show ((py d).canLay0 && PyData.canLayAll0 (pys ds)) = true
      rw [q1.1, q2.1]; rfl
    · show max (py d).depth (PyData.depthAll (pys ds)) ≤ n
      exact Nat.max_le.mpr ⟨q1.2, q2.2⟩
end
theorem shp_of {n m : Nat} {a b : Dt} (ha : gd n a = true) (hb : gd m b = true) (hn : n ≤ 64) (hm : m ≤ 64) : shp a b = true := by
  have qa := gd_can n a ha
  have qb := gd_can m b hb
  unfold shp SeqAt.shaped
  rw [gd_dpl n a ha, gd_dpl m b hb, qa.1, qb.1, decide_eq_true (Nat.le_trans qa.2 hn), decide_eq_true (Nat.le_trans qb.2 hm)]; rfl
/-- equal as Python says -/
def eqD (a b : Dt) : Bool := PyData.eqv (py a) (py b)
def eqDs (a b : List Dt) : Bool := PyData.eqvAll (pys a) (pys b)
theorem fEq_of {n m : Nat} {a b : Dt} (ha : gd n a = true) (hb : gd m b = true) (hn : n ≤ 64) (hm : m ≤ 64) : fEq a b = some (.dat (.bl (eqD a b))) := by
  unfold fEq; rw [if_pos (shp_of ha hb hn hm)]; rfl
theorem fNe_of {n m : Nat} {a b : Dt} (ha : gd n a = true) (hb : gd m b = true) (hn : n ≤ 64) (hm : m ≤ 64) : fNe a b = some (.dat (.bl (!eqD a b))) := by
  unfold fNe; rw [if_pos (shp_of ha hb hn hm)]; rfl
theorem st_beq (x y : Wd) : (st x == st y) = (x == y) := by
  by_cases h : x = y
  · subst h; simp
  · have : st x ≠ st y := fun z => h (st_inj z)
    rw [beq_eq_false_iff_ne.mpr this, beq_eq_false_iff_ne.mpr h]
@[simp] theorem eqD_str (x y : Wd) : eqD (.str x) (.str y) = decide (x = y) := by
  rw [show eqD (.str x) (.str y) = (x == y) from st_beq x y]; by_cases h : x = y <;> simp [h]
@[simp] theorem eqD_int (x y : Int) : eqD (.int x) (.int y) = decide (x = y) := id rfl
@[simp] theorem eqD_bl (x y : Bool) : eqD (.bl x) (.bl y) = (x == y) := id rfl
@[simp] theorem eqD_tup (x y : List Dt) : eqD (.tup x) (.tup y) = eqDs x y := id rfl
@[simp] theorem eqD_lst (x y : List Dt) : eqD (.lst x) (.lst y) = eqDs x y := id rfl
@[simp] theorem eqDs_nil : eqDs [] [] = true := id rfl
@[simp] theorem eqDs_cons (a b : Dt) (x y : List Dt) : eqDs (a :: x) (b :: y) = (eqD a b && eqDs x y) := id rfl
@[simp] theorem eqDs_nc (b : Dt) (y : List Dt) : eqDs [] (b :: y) = false := id rfl
@[simp] theorem eqDs_cn (b : Dt) (y : List Dt) : eqDs (b :: y) [] = false := id rfl
theorem bls_all : ∀ (bs : List Bool), fAll [.lst (bs.map .bl)] = some (.dat (.bl (bs.all id))) := fun bs => by
  show (asBls (bs.map .bl)).map _ = _
  rw [asBls_map]; rfl
theorem fAll_map {α : Type} (l : List α) (p : α → Bool) : fAll [.lst (l.map fun x => .bl (p x))] = some (.dat (.bl (l.all p))) := by
  have := bls_all (l.map p)
  rw [List.map_map] at this
  rw [show (l.map fun x => Dt.bl (p x)) = l.map (Dt.bl ∘ p) from rfl, this]
  simp
theorem len_range (n : Nat) : (rangeD 0 n).length = n := by simp [rangeD]
theorem inb (n : Nat) (h : n ≤ 100000) : inB62 (n : Int) := by
  unfold inB62; exact ⟨by omega, by omega⟩
/-- a map -/
theorem wE_compM {X : Str → Dt → En → Prop} {en : En} {g : Dt → En → Option En} {me : M Res} {vs : List Nat} {Q : List Dt → En → Prop} (φ : Dt → Dt) {ds : List Dt} (hl : ds.length ≤ sizeLine) (hq : Q (ds.map φ) en)
    (hs : ∀ d ∈ ds, wL (g d en) (fun e1 => wE (eVal me e1) (fun y e3 => y = φ d ∧ wipeE e3 vs = en) (fun _ _ _ => False))) :
    wE (compL g cYes me vs ds [] en) Q X := by
  refine wE_compF (fun _ => true) φ hl (by rw [List.filter_eq_self.mpr (fun _ _ => rfl)]; exact hq) fun d hd => ?_
  have q := hs d hd
  cases e : g d en with
  | none => rw [e] at q; exact q
  | some e1 => rw [e] at q; exact ⟨rfl, q⟩
theorem law_same_refl : ∀ (n m : Nat) (d : Dt), n < m → gd n d = true → s__law_same m [d, d] = .ret (.dat (.bl true)) := by
  intro n m
  induction m generalizing n with
  | zero => intro d h _; exact absurd h (Nat.not_lt_zero _)
  | succ m ih =>
    intro d h hg
    refine wF_eq ?_
    unfold s__law_same
    rw [wF_sem]
    unfold m__law_same
    simp only [startE_, List.map_cons, List.map_nil, List.length_cons, List.length_nil, List.replicate, Nat.reduceSub, Nat.reduceAdd, List.cons_append, List.nil_append]
    have seq : ∀ (ds : List Dt) (c : Dt), (c = .lst ds ∨ c = .tup ds) → gd n c = true → (∀ x ∈ ds, s__law_same m [x, x] = .ret (.dat (.bl true))) ∧ ds.length ≤ 100000 := by
      intro ds c hc hg
      cases n with
      | zero => rcases hc with rfl | rfl <;> cases hg
      | succ n =>
        have q : ds.length ≤ 100000 ∧ gds n ds = true := by rcases hc with rfl | rfl <;> simpa using hg
        exact ⟨fun x hx => ih n x (by omega) (gds_all.mp q.2 x hx), q.1⟩
    have fin : ∀ (ds : List Dt) (c : Dt), (c = .lst ds ∨ c = .tup ds) → gd n c = true → ∀ (Q : List Dt → En → Prop) X, Q (ds.map fun _ => .bl true) [.val c, .val c, .un] →
        wE (compL (gNm 2) cYes (eCall 2 (s__law_same m) (vCons (eBin fIx (eVar 0) (eVar 2)) (vCons (eBin fIx (eVar 1) (eVar 2)) vNil))) [2] (rangeD 0 ds.length) [] [.val c, .val c, .un]) Q X := by
      intro ds c hc hg Q X hQ
      obtain ⟨q1, q2⟩ := seq ds c hc hg
      refine wE_compM (fun _ => .bl true) (by rw [len_range]; exact lz _ (by omega)) ?_ ?_
      · have e : (rangeD 0 ds.length).map (fun _ => Dt.bl true) = ds.map fun _ => .bl true := by
          rw [List.map_const', List.map_const', len_range]
        rw [e]; exact hQ
      · intro d hd
        obtain ⟨k, hk, rfl⟩ := rangeD_mem hd
        have ha := atI_nat ds k hk
        have hS := q1 ds[k] (List.getElem_mem hk)
        rcases hc with rfl | rfl <;> simp [ha, hS, wipeE]
    cases d with
    | non => simp
    | bl b => simp
    | int i => simp
    | str x =>
      have hx := fEq_of (n := 0) (m := 0) (a := .str x) (b := .str x) (by simpa using hg) (by simpa using hg) (by decide) (by decide)
      simp [hx]
    | exo _ _ => simp at hg
    | dic _ _ => simp at hg
    | lst ds =>
      have f := fin ds _ (.inl rfl) hg
      have l := inb _ (seq ds _ (.inl rfl) hg).2
      simp [l, wipeE]
      refine f _ _ ?_
      have a := fAll_map ds fun _ => true
      simp [a]
    | tup ds =>
      have f := fin ds _ (.inr rfl) hg
      have l := inb _ (seq ds _ (.inr rfl) hg).2
      simp [l, wipeE]
      refine f _ _ ?_
      have a := fAll_map ds fun _ => true
      simp [a]
mutual
theorem eqD_refl : ∀ (d : Dt), dpl d = true → eqD d d = true
  | .non, _ => rfl
  | .bl b, _ => by simp
  | .int _, _ => by simp
  | .str _, _ => by simp
  | .exo _ _, h => by cases h
  | .dic _ _, h => by cases h
  | .tup ds, h => eqDs_refl ds h
  | .lst ds, h => eqDs_refl ds h
theorem eqDs_refl : ∀ (d : List Dt), dpls d = true → eqDs d d = true
  | [], _ => rfl
  | d :: ds, h => by
    unfold dpls at h
    have h := Bool.and_eq_true_iff.mp h
    rw [eqDs_cons, eqD_refl d h.1, eqDs_refl ds h.2]; rfl
end
theorem fEq_same {n : Nat} {a : Dt} (ha : gd n a = true) (hn : n ≤ 64) : fEq a a = some (.dat (.bl true)) := by
  rw [fEq_of ha ha hn hn, eqD_refl a (gd_dpl n a ha)]
theorem fNe_same {n : Nat} {a : Dt} (ha : gd n a = true) (hn : n ≤ 64) : fNe a a = some (.dat (.bl false)) := by
  rw [fNe_of ha ha hn hn, eqD_refl a (gd_dpl n a ha)]; rfl
end Fw

/-! Fy4: weakest preconditions of zip, enumerate, sorted, sorted(set), min, max; words in order. -/
namespace Fw
open PySem PySem.Spec PyProof.Rows L2
section
variable {Q : List Dt → En → Prop} {X : Str → Dt → En → Prop} {en : En}
theorem wE_oIt (o : Option (List Dt)) : wE (oIt o en) Q X = wL o (fun zs => Q zs en) := by cases o <;> rfl
@[simp ↓] theorem wE_zip2 (m : M (List Dt)) : wE (iZip2 m en) Q X = wE (m en) (fun ds e => wL (zip2O ds) (fun zs => Q zs e)) X := by
  show wE ((m en).bind _) Q X = _
  rw [wE_bind]
  exact wE_ext fun ds e => wE_oIt _
@[simp ↓] theorem wE_enum1 (m : M (List Dt)) : wE (iEnum1 m en) Q X = wE (m en) (fun ds e => wL (enumO ds) (fun zs => Q zs e)) X := by
  show wE ((m en).bind _) Q X = _
  rw [wE_bind]
  exact wE_ext fun ds e => wE_oIt _
end
@[simp] theorem zip2O_ (a b : Dt) : zip2O [a, b] = (fIter a).bind fun xs => (fIter b).bind fun ys => some (zipD xs ys) := id rfl
@[simp] theorem enumO_ (a : Dt) : enumO [a] = (fIter a).bind fun xs => some (enumD 0 xs) := id rfl
@[simp] theorem fSorted_l (ds : List Dt) : fSorted [.lst ds] = if sortB ds = true then some (.new (.l (sortD ds))) else none := id rfl
@[simp] theorem fSorted_t (ds : List Dt) : fSorted [.tup ds] = if sortB ds = true then some (.new (.l (sortD ds))) else none := id rfl
@[simp] theorem fSorted_s (x : Wd) : fSorted [.str x] = if sortB (x.map fun c => .str [c]) = true then some (.new (.l (sortD (x.map fun c => .str [c])))) else none := id rfl
theorem asInts_map' (ns : List Int) : asInts (ns.map Dt.int) = some ns := asInts_map ns
@[simp] theorem fMinL_l (n : Int) (ns : List Int) : fMinL [.lst ((n :: ns).map Dt.int)] = some (.dat (.int (bestI false n ns))) := by
  show (asInts ((n :: ns).map Dt.int)).bind _ = _
  rw [asInts_map]; rfl
@[simp] theorem fMinL_t (n : Int) (ns : List Int) : fMinL [.tup ((n :: ns).map Dt.int)] = some (.dat (.int (bestI false n ns))) := by
  show (asInts ((n :: ns).map Dt.int)).bind _ = _
  rw [asInts_map]; rfl
/-! ### words in order -/
def kW (x : Wd) : Key := .inr (st x)
def leW (x y : Wd) : Bool := leK (kW x) (kW y)
def sortW (l : List Wd) : List Wd := l.mergeSort leW
theorem sortD_str (l : List Wd) : sortD (l.map .str) = (sortW l).map .str := by
  unfold sortD sortW
  exact (List.map_mergeSort (r := leW) (s := leD) (f := Dt.str) fun a _ b _ => rfl).symm
theorem sortW_perm {l m : List Wd} (p : l.Perm m) : sortW l = sortW m := by
  have e : ∀ l : List Wd, (sortW l).map kW = (l.map kW).mergeSort leK := fun l => List.map_mergeSort (r := leW) (s := leK) (f := kW) fun a _ b _ => rfl
  have h : (sortW l).map kW = (sortW m).map kW := by rw [e, e]; exact sort_same (p.map kW)
  exact List.map_inj_right (fun x y (h : kW x = kW y) => st_inj (Sum.inr.inj h)) |>.mp h
theorem sortW_mem {l : List Wd} {x : Wd} : x ∈ sortW l ↔ x ∈ l := (List.mergeSort_perm l leW).mem_iff
theorem sortW_len (l : List Wd) : (sortW l).length = l.length := (List.mergeSort_perm l leW).length_eq
theorem py_str (x : Wd) : py (.str x) = .str (st x) := id rfl
theorem dpls_str : ∀ l : List Wd, dpls (l.map .str) = true
  | [] => rfl
  | x :: l => by rw [List.map_cons, dpls, dpls_str l]; rfl
theorem sortB_str (l : List Wd) (h : l.length ≤ 16777216) : sortB (l.map .str) = true := by
  unfold sortB
  rw [dpls_str, List.length_map, decide_eq_true (lz _ h)]
  have a1 : allAlike ((l.map Dt.str).map py) = true := List.all_eq_true.mpr fun d hd => List.all_eq_true.mpr fun e he => by
    rw [List.map_map] at hd he
    obtain ⟨x, _, rfl⟩ := List.mem_map.mp hd
    obtain ⟨y, _, rfl⟩ := List.mem_map.mp he
    simp [py_str, PySem.W.alike]
  have a2 : ((l.map Dt.str).map py).all plainB = true := List.all_eq_true.mpr fun d hd => by
    rw [List.map_map] at hd
    obtain ⟨x, _, rfl⟩ := List.mem_map.mp hd
    rfl
  have a3 : ((l.map Dt.str).map py).all (fun d => decide (d.depth ≤ 60)) = true := List.all_eq_true.mpr fun d hd => by
    rw [List.map_map] at hd
    obtain ⟨x, _, rfl⟩ := List.mem_map.mp hd
    simp [py_str, PyData.depth]
  rw [a1, a2, a3]; simp
theorem asKs_str : ∀ l : List Wd, asKs (l.map .str) = some (l.map kW)
  | [] => rfl
  | x :: l => by rw [List.map_cons, asKs, asKs_str l]; rfl
theorem nubK_id : ∀ {l : List Key}, l.Nodup → nubK l = l
  | [], _ => rfl
  | k :: l, h => by
    obtain ⟨h1, h2⟩ := List.nodup_cons.mp h
    rw [nubK, if_neg h1, nubK_id h2]
theorem kW_inj {x y : Wd} (h : kW x = kW y) : x = y := st_inj (Sum.inr.inj h)
theorem nodup_kW {l : List Wd} (h : l.Nodup) : (l.map kW).Nodup := List.pairwise_map.mpr (h.imp fun hab e => hab (kW_inj e))
theorem dK_kW (x : Wd) : dK (kW x) = .str x := by
  show Dt.str (st x).cps.toList = _
  rw [st_toList]
theorem sortK_str (l : List Wd) (h : l.Nodup) : (sortK (l.map kW)).map dK = (sortW l).map .str := by
  unfold sortK
  rw [nubK_id (nodup_kW h), show (l.map kW).mergeSort leK = (sortW l).map kW from (List.map_mergeSort (r := leW) (s := leK) (f := kW) fun a _ b _ => rfl).symm, List.map_map]
  exact List.map_congr_left fun x _ => dK_kW x
theorem oneKind_str (l : List Wd) : oneKind (l.map kW) = true := by
  unfold oneKind
  rw [show (l.map kW).all (fun k => k.isRight) = true from List.all_eq_true.mpr fun k hk => by obtain ⟨x, _, rfl⟩ := List.mem_map.mp hk; rfl]
  simp
theorem fSortSet_str (l : List Wd) (h : l.Nodup) (hl : l.length < 4095) : fSortSet (.lst (l.map .str)) = some (.new (.l ((sortW l).map .str))) := by
  show (asKs (l.map .str)).bind _ = _
  rw [asKs_str, Option.bind_some, oneKind_str, List.length_map, decide_eq_true (show l.length + 1 < scanBound by show _ < 4096; omega)]
  show some (Res.new (.l ((sortK (l.map kW)).map dK))) = _
  rw [sortK_str l h]
/-! ### ways that meet again -/
theorem wI_cut {b : Bool} {m f : MS} {en : En} {P : Wq} (R : En → Prop) (h1 : b = true → wS (m en) (P.setNx (Hold R))) (h2 : b = false → wS (f en) (P.setNx (Hold R))) (h3 : ∀ e, R e → P.nx e) : wI b (wS (m en) P) (wS (f en) P) := by
  have key : ∀ o : OutS, wS o (P.setNx (Hold R)) → wS o P := fun o h => by
    cases o <;> first | exact h3 _ h | exact h
  exact wI_mk (fun h => key _ (h1 h)) (fun h => key _ (h2 h))
theorem wIE_cut {b : Bool} {ma mb : M Res} {en : En} {Q : Res → En → Prop} {X : Str → Dt → En → Prop} (R : Res → En → Prop) (h1 : b = true → wE (ma en) (fun r e => Hold (R r) e) X) (h2 : b = false → wE (mb en) (fun r e => Hold (R r) e) X) (h3 : ∀ r e, R r e → Q r e) : wI b (wE (ma en) Q X) (wE (mb en) Q X) := by
  have key : ∀ o : Out Res, wE o (fun r e => Hold (R r) e) X → wE o Q X := fun o h => by
    cases o <;> first | exact h3 _ _ h | exact h
  exact wI_mk (fun h => key _ (h1 h)) (fun h => key _ (h2 h))
/-! ### words put together -/
theorem joinL_nil : ∀ l : List Wd, TL.joinL [] l = l.flatten
  | [] => rfl
  | [x] => by simp [TL.joinL]
  | x :: y :: l => by rw [TL.joinL, joinL_nil (y :: l)]; simp
theorem fJoin_l (l : List Wd) (h : (l.map (·.length)).sum ≤ 16777216) : fJoin [] (.lst (l.map .str)) = some (.dat (.str l.flatten)) := by
  show (asStrs (l.map .str)).bind _ = _
  rw [asStrs_map, Option.bind_some, joinL_nil]
  simp [h]
theorem flat_one (x : Wd) : (x.map fun c => [c]).flatten = x := by
  induction x with
  | nil => rfl
  | cons c x ih => rw [List.map_cons, List.flatten_cons, ih]; rfl
theorem sum_one (x : Wd) : ((x.map fun c => [c]).map (·.length)).sum = x.length := by
  induction x with
  | nil => rfl
  | cons c x ih => rw [List.map_cons, List.map_cons, List.sum_cons, ih, List.length_cons]; simp; omega
/-- the signs of a text, sorted -/
theorem ones_of {l : List Wd} {x : Wd} (p : l.Perm (x.map fun c => [c])) : ∃ y : Wd, y.Perm x ∧ l = y.map fun c => [c] := by
  obtain ⟨y, h1, h2⟩ := perm_back p
  exact ⟨y, h1, h2⟩
end Fw

/-! Pg1: numbers.py. -/
namespace Fw
open PySem PySem.Spec PyProof.Rows L2
noncomputable section
def m_is_integer : MS :=
  (sRet 0 (eAnd (eIsi ["int"] (eVar 0)) (eNot (eIsi ["bool"] (eVar 0)))))
def s_is_integer : FS := semF 1 m_is_integer
def m_is_natural : MS :=
  (sRet 0 (eAnd (eCall 1 s_is_integer (vCons (eVar 0) vNil)) (eBin fGe (eVar 0) (eDat (.int 0)))))
def s_is_natural : FS := semF 1 m_is_natural
def m_is_field : MS :=
  (sSeq (sIf (cOr (cNot (cTru (eCall 1 s_is_natural (vCons (eVar 0) vNil)))) (cBl (eBin fGt (eVar 0) (eDat (.int 99))))) (sRet 0 (eDat (.bl false))) sSkip) (sRet 0 (eOr (eBin fEq (eVar 0) (eDat (.int 0))) (eAnd (eBin fGt (eVar 0) (eDat (.int 1))) (eCB fAll (eCons (eComp (iRange2 (eDat (.int 2)) (eVar 0)) (gNm 1) cYes (eBin fNe (eBin fMod (eVar 0) (eVar 1)) (eDat (.int 0))) [1]) eNil))))))
def s_is_field : FS := semF 2 m_is_field
def m_check_field : MS :=
  (sIf (cNot (cTru (eCall 1 s_is_field (vCons (eVar 0) vNil)))) (sRaise "InvalidField" (eVar 0)) sSkip)
def s_check_field : FS := semF 1 m_check_field
def m_number_by : MS :=
  (sRet 0 (eTup (vCons (eIf (cBl (eBin fNe (eVar 0) (eDat (.int 0)))) (eBin fMod (eVar 1) (eVar 0)) (eVar 1)) (vCons (eDat (.int 1)) vNil))))
def s_number_by : FS := semF 2 m_number_by
def m_number_of : MS :=
  (sSeq (sDrop (eCall 1 s_check_field (vCons (eVar 0) vNil))) (sSeq (sIf (cNot (cTru (eCall 1 s_is_integer (vCons (eVar 1) vNil)))) (sRaise "InvalidInteger" (eVar 1)) sSkip) (sRet 0 (eCall 2 s_number_by (vCons (eVar 0) (vCons (eVar 1) vNil))))))
def s_number_of : FS := semF 2 m_number_of
def m_greatest_divisor : MS :=
  (sSeq (sPar2 0 1 (eCB fAbs (eCons (eVar 0) eNil)) (eCB fAbs (eCons (eVar 1) eNil))) (sSeq (sWhile (cBl (eBin fNe (eVar 1) (eDat (.int 0)))) (sPar2 0 1 (eVar 1) (eBin fMod (eVar 0) (eVar 1)))) (sRet 0 (eVar 0))))
def s_greatest_divisor : FS := semF 2 m_greatest_divisor
def m_is_number_of : MS :=
  (sSeq (sIf (cOr (cNot (cTru (eIsi ["tuple"] (eVar 1)))) (cOr (cBl (eBin fNe (eCB fLen (eCons (eVar 1) eNil)) (eDat (.int 2)))) (cNot (cTru (eCB fAll (eCons (eComp (iSeq (eVar 1)) (gNm 2) cYes (eCall 1 s_is_integer (vCons (eVar 2) vNil)) [2]) eNil)))))) (sRet 0 (eDat (.bl false))) sSkip) (sSeq (sIf (cBl (eBin fNe (eVar 0) (eDat (.int 0)))) (sRet 0 (eAnd (eChain fLe fLt (eDat (.int 0)) (eBin fIx (eVar 1) (eDat (.int 0))) (eVar 0)) (eBin fEq (eBin fIx (eVar 1) (eDat (.int 1))) (eDat (.int 1))))) sSkip) (sRet 0 (eAnd (eBin fGt (eBin fIx (eVar 1) (eDat (.int 1))) (eDat (.int 0))) (eBin fEq (eCall 2 s_greatest_divisor (vCons (eBin fIx (eVar 1) (eDat (.int 0))) (vCons (eBin fIx (eVar 1) (eDat (.int 1))) vNil))) (eDat (.int 1)))))))
def s_is_number_of : FS := semF 3 m_is_number_of
def m_check_number : MS :=
  (sIf (cNot (cTru (eCall 2 s_is_number_of (vCons (eVar 0) (vCons (eVar 1) vNil))))) (sRaise "InvalidNumber" (eVar 1)) sSkip)
def s_check_number : FS := semF 2 m_check_number
def m_check_two_numbers : MS :=
  (sSeq (sDrop (eCall 1 s_check_field (vCons (eVar 0) vNil))) (sSeq (sDrop (eCall 2 s_check_number (vCons (eVar 0) (vCons (eVar 1) vNil)))) (sDrop (eCall 2 s_check_number (vCons (eVar 0) (vCons (eVar 2) vNil))))))
def s_check_two_numbers : FS := semF 3 m_check_two_numbers
def m_undone : MS :=
  (sSeq (sAsg (eTup (vCons (eBin fMod (eVar 0) (eVar 1)) (vCons (eVar 1) (vCons (eDat (.int 1)) (vCons (eDat (.int 0)) vNil))))) (gTp 4 (gC (gNm 2) (gC (gNm 3) (gC (gNm 4) (gC (gNm 5) gN0)))))) (sSeq (sWhile (cBl (eBin fNe (eVar 3) (eDat (.int 0)))) (sSeq (sSet 6 (eBin fDiv (eVar 2) (eVar 3))) (sAsg (eTup (vCons (eVar 3) (vCons (eBin fSub (eVar 2) (eBin fMulX (eVar 6) (eVar 3))) (vCons (eVar 5) (vCons (eBin fSub (eVar 4) (eBin fMulX (eVar 6) (eVar 5))) vNil))))) (gTp 4 (gC (gNm 2) (gC (gNm 3) (gC (gNm 4) (gC (gNm 5) gN0)))))))) (sRet 0 (eBin fMod (eVar 4) (eVar 1)))))
def s_undone : FS := semF 7 m_undone
def m_lowest : MS :=
  (sSeq (sIf (cBl (eBin fNe (eVar 0) (eDat (.int 0)))) (sRet 0 (eTup (vCons (eBin fMod (eBin fMulX (eVar 1) (eCall 2 s_undone (vCons (eVar 2) (vCons (eVar 0) vNil)))) (eVar 0)) (vCons (eDat (.int 1)) vNil)))) sSkip) (sSeq (sSet 3 (eCall 2 s_greatest_divisor (vCons (eVar 1) (vCons (eVar 2) vNil)))) (sSeq (sIf (cBl (eBin fLt (eVar 2) (eDat (.int 0)))) (sSet 3 (eUn fNeg (eVar 3))) sSkip) (sRet 0 (eTup (vCons (eBin fDiv (eVar 1) (eVar 3)) (vCons (eBin fDiv (eVar 2) (eVar 3)) vNil)))))))
def s_lowest : FS := semF 4 m_lowest
def m_over_of : MS :=
  (sRet 0 (eCall 3 s_lowest (vCons (eVar 0) (vCons (eBin fMulX (eBin fIx (eVar 1) (eDat (.int 0))) (eBin fIx (eVar 2) (eDat (.int 1)))) (vCons (eBin fMulX (eBin fIx (eVar 1) (eDat (.int 1))) (eBin fIx (eVar 2) (eDat (.int 0)))) vNil)))))
def s_over_of : FS := semF 3 m_over_of
def m_over : MS :=
  (sSeq (sDrop (eCall 3 s_check_two_numbers (vCons (eVar 0) (vCons (eVar 1) (vCons (eVar 2) vNil))))) (sSeq (sIf (cBl (eBin fEq (eBin fIx (eVar 2) (eDat (.int 0))) (eDat (.int 0)))) (sRaise "InvalidNumber" (eVar 2)) sSkip) (sRet 0 (eCall 3 s_over_of (vCons (eVar 0) (vCons (eVar 1) (vCons (eVar 2) vNil)))))))
def s_over : FS := semF 3 m_over
def m_plus_of : MS :=
  (sSeq (sIf (cBl (eBin fNe (eVar 0) (eDat (.int 0)))) (sRet 0 (eTup (vCons (eBin fMod (eBin fAdd (eBin fIx (eVar 1) (eDat (.int 0))) (eBin fIx (eVar 2) (eDat (.int 0)))) (eVar 0)) (vCons (eDat (.int 1)) vNil)))) sSkip) (sRet 0 (eCall 3 s_lowest (vCons (eDat (.int 0)) (vCons (eBin fAdd (eBin fMulX (eBin fIx (eVar 1) (eDat (.int 0))) (eBin fIx (eVar 2) (eDat (.int 1)))) (eBin fMulX (eBin fIx (eVar 2) (eDat (.int 0))) (eBin fIx (eVar 1) (eDat (.int 1))))) (vCons (eBin fMulX (eBin fIx (eVar 1) (eDat (.int 1))) (eBin fIx (eVar 2) (eDat (.int 1)))) vNil))))))
def s_plus_of : FS := semF 3 m_plus_of
def m_plus : MS :=
  (sSeq (sDrop (eCall 3 s_check_two_numbers (vCons (eVar 0) (vCons (eVar 1) (vCons (eVar 2) vNil))))) (sRet 0 (eCall 3 s_plus_of (vCons (eVar 0) (vCons (eVar 1) (vCons (eVar 2) vNil))))))
def s_plus : FS := semF 3 m_plus
def m_times_of : MS :=
  (sSeq (sIf (cBl (eBin fNe (eVar 0) (eDat (.int 0)))) (sRet 0 (eTup (vCons (eBin fMod (eBin fMulX (eBin fIx (eVar 1) (eDat (.int 0))) (eBin fIx (eVar 2) (eDat (.int 0)))) (eVar 0)) (vCons (eDat (.int 1)) vNil)))) sSkip) (sRet 0 (eCall 3 s_lowest (vCons (eDat (.int 0)) (vCons (eBin fMulX (eBin fIx (eVar 1) (eDat (.int 0))) (eBin fIx (eVar 2) (eDat (.int 0)))) (vCons (eBin fMulX (eBin fIx (eVar 1) (eDat (.int 1))) (eBin fIx (eVar 2) (eDat (.int 1)))) vNil))))))
def s_times_of : FS := semF 3 m_times_of
def m_times : MS :=
  (sSeq (sDrop (eCall 3 s_check_two_numbers (vCons (eVar 0) (vCons (eVar 1) (vCons (eVar 2) vNil))))) (sRet 0 (eCall 3 s_times_of (vCons (eVar 0) (vCons (eVar 1) (vCons (eVar 2) vNil))))))
def s_times : FS := semF 3 m_times
def m_is_number : MS :=
  (sSeq (sDrop (eCall 1 s_check_field (vCons (eVar 0) vNil))) (sRet 0 (eCall 2 s_is_number_of (vCons (eVar 0) (vCons (eVar 1) vNil)))))
def s_is_number : FS := semF 2 m_is_number
end

def isI : Dt → Bool
  | .int _ => true
  | _ => false
theorem s_int (d : Dt) (hx : isX d = false) : s_is_integer [d] = .ret (.dat (.bl (isI d))) := by
  refine wF_eq ?_
  unfold s_is_integer
  rw [wF_sem]
  unfold m_is_integer
  simp only [startE_, startR_, List.map_cons, List.map_nil, List.length_cons, List.length_nil, List.replicate, Nat.reduceSub, Nat.reduceAdd, List.cons_append, List.nil_append]
  cases d <;> first | (cases hx; done) | skip
  all_goals (repeat (first | simp [sizeLine_eq] | (with_reducible refine wG_mk ?_ ?_; (first | with_reducible assumption | omega | with_reducible exact inB62_ _ (by omega) | with_reducible exact mulOk_ _ _ (by omega) | with_reducible decide))))
  all_goals rfl
@[simp] theorem isI_int (i : Int) : isI (.int i) = true := id rfl
def natB : Dt → Bool
  | .int i => decide (0 ≤ i)
  | _ => false
@[simp] theorem natB_int (i : Int) : natB (.int i) = decide (0 ≤ i) := id rfl
theorem s_nat (d : Dt) (hx : isX d = false) : s_is_natural [d] = .ret (.dat (.bl (natB d))) := by
  refine wF_eq ?_
  unfold s_is_natural
  rw [wF_sem]
  unfold m_is_natural
  simp only [startE_, startR_, List.map_cons, List.map_nil, List.length_cons, List.length_nil, List.replicate, Nat.reduceSub, Nat.reduceAdd, List.cons_append, List.nil_append]
  have h := s_int d hx
  cases d <;> first | (cases hx; done) | skip
  all_goals (repeat (first | simp [sizeLine_eq, h, isI, natB] | (with_reducible refine wG_mk ?_ ?_; (first | with_reducible assumption | omega | with_reducible exact inB62_ _ (by omega) | with_reducible exact mulOk_ _ _ (by omega) | with_reducible decide))))
def FLD : List Int := [0, 2, 3, 5, 7, 11, 13, 17, 19, 23, 29, 31, 37, 41, 43, 47, 53, 59, 61, 67, 71, 73, 79, 83, 89, 97]
def fldI (i : Int) : Bool := FLD.contains i
def fldB : Dt → Bool
  | .int i => fldI i
  | _ => false
@[simp] theorem fldB_int (i : Int) : fldB (.int i) = fldI i := id rfl
theorem fldI_range {i : Int} (h : fldI i = true) : 0 ≤ i ∧ i < 98 := by
  have q : FLD.all (fun i => decide (0 ≤ i ∧ i < 98)) = true := by decide +kernel
  have := List.all_eq_true.mp q i (by simpa [fldI] using h)
  exact of_decide_eq_true this
theorem fieldTab : (List.range 100).all (fun n => fldI (n : Int) == ((n == 0) || (decide (1 < n) && (List.range (n - 2)).all fun k => !decide (n % (k + 2) = 0)))) = true := by decide +kernel
theorem s_fld (d : Dt) (hx : isX d = false) : s_is_field [d] = .ret (.dat (.bl (fldB d))) := by
  refine wF_eq ?_
  unfold s_is_field
  rw [wF_sem]
  unfold m_is_field
  simp only [startE_, startR_, List.map_cons, List.map_nil, List.length_cons, List.length_nil, List.replicate, Nat.reduceSub, Nat.reduceAdd, List.cons_append, List.nil_append]
  have h := s_nat d hx
  cases d with
  | int i =>
    by_cases h0 : 0 ≤ i
    · by_cases h1 : 99 < i
      · have hf : fldI i = false := by
          cases q : fldI i with
          | false => rfl
          | true => have := fldI_range q; omega
        (repeat (first | simp [sizeLine_eq, h, h0, h1, hf] | (with_reducible refine wG_mk ?_ ?_; (first | with_reducible assumption | omega | with_reducible exact inB62_ _ (by omega) | with_reducible exact mulOk_ _ _ (by omega) | with_reducible decide))))
      · obtain ⟨n, rfl⟩ := Int.eq_ofNat_of_zero_le h0
        have hn : n < 100 := by omega
        have ft := List.all_eq_true.mp fieldTab n (List.mem_range.mpr hn)
        have hf := eq_of_beq ft
        (repeat (first | simp [sizeLine_eq, h, h1] | (with_reducible refine wG_mk ?_ ?_; (first | with_reducible assumption | omega | with_reducible exact inB62_ _ (by omega) | with_reducible exact mulOk_ _ _ (by omega) | with_reducible decide))))
        refine wI_mk (fun hz => ?_) (fun hz => ?_)
        · have hz : n = 0 := by simpa using hz
          subst hz
          (repeat (first | simp [sizeLine_eq] | (with_reducible refine wG_mk ?_ ?_; (first | with_reducible assumption | omega | with_reducible exact inB62_ _ (by omega) | with_reducible exact mulOk_ _ _ (by omega) | with_reducible decide))))
          rfl
        · have hz : ¬ n = 0 := by simpa using hz
          (repeat (first | simp [sizeLine_eq] | (with_reducible refine wG_mk ?_ ?_; (first | with_reducible assumption | omega | with_reducible exact inB62_ _ (by omega) | with_reducible exact mulOk_ _ _ (by omega) | with_reducible decide))))
          refine wI_mk (fun h2 => ?_) (fun h2 => ?_)
          · have h2 : 1 < n := by have := of_decide_eq_true h2; omega
            (repeat (first | simp [sizeLine_eq, wipeE] | (with_reducible refine wG_mk ?_ ?_; (first | with_reducible assumption | omega | with_reducible exact inB62_ _ (by omega) | with_reducible exact mulOk_ _ _ (by omega) | with_reducible decide))))
            have e : rangeD 2 (n : Int) = (List.range (n - 2)).map fun k => Dt.int ((k + 2 : Nat) : Int) := by
              unfold rangeD
              rw [show ((n : Int) - 2).toNat = n - 2 by omega]
              refine List.map_congr_left fun k _ => ?_
              rw [Int.add_comm]; rfl
            have l : (rangeD 2 (n : Int)).length ≤ sizeLine := by rw [e, List.length_map, List.length_range, sizeLine_eq]; omega
            refine wE_compM (fun d => match d with | .int j => .bl (!decide ((n : Int) % j = 0)) | d => d) l ?_ ?_
            · rw [e, List.map_map]
              have a := fAll_map (List.range (n - 2)) fun k => !decide (n % (k + 2) = 0)
              have e2 : (List.range (n - 2)).map ((fun d => match d with | .int j => Dt.bl (!decide ((n : Int) % j = 0)) | d => d) ∘ fun k => Dt.int ((k + 2 : Nat) : Int)) = (List.range (n - 2)).map fun k => Dt.bl (!decide (n % (k + 2) = 0)) := by
                refine List.map_congr_left fun k _ => ?_
                show Dt.bl (!decide ((n : Int) % ((k + 2 : Nat) : Int) = 0)) = _
                have : ((n : Int) % ((k + 2 : Nat) : Int) = 0) ↔ (n % (k + 2) = 0) := by omega
                simp only [this]
              rw [e2]
              simp [a, restE, fldB, hf, hz, h2]
            · intro d hd
              rw [e] at hd
              obtain ⟨k, hk, rfl⟩ := List.mem_map.mp hd
              have hp : (0 : Int) < ((k + 2 : Nat) : Int) := by omega
              (repeat (first | simp [sizeLine_eq, hp, wipeE] | (with_reducible refine wG_mk ?_ ?_; (first | with_reducible assumption | omega | with_reducible exact inB62_ _ (by omega) | with_reducible exact mulOk_ _ _ (by omega) | with_reducible decide))))
          · have h2' : n = 1 := by have := of_decide_eq_false h2; omega
            subst h2'
            (repeat (first | simp [sizeLine_eq] | (with_reducible refine wG_mk ?_ ?_; (first | with_reducible assumption | omega | with_reducible exact inB62_ _ (by omega) | with_reducible exact mulOk_ _ _ (by omega) | with_reducible decide))))
            decide
    · have hf : fldI i = false := by
        cases q : fldI i with
        | false => rfl
        | true => have := fldI_range q; omega
      (repeat (first | simp [sizeLine_eq, h, h0, hf] | (with_reducible refine wG_mk ?_ ?_; (first | with_reducible assumption | omega | with_reducible exact inB62_ _ (by omega) | with_reducible exact mulOk_ _ _ (by omega) | with_reducible decide))))
  | exo _ _ => cases hx
  | dic _ _ => cases hx
  | _ => (repeat (first | simp [sizeLine_eq, h, natB, fldB] | (with_reducible refine wG_mk ?_ ?_; (first | with_reducible assumption | omega | with_reducible exact inB62_ _ (by omega) | with_reducible exact mulOk_ _ _ (by omega) | with_reducible decide))))
/-- a check's outcome -/
def chkO (b : Bool) (c : Str) (d : Dt) : FOut := if b = true then .ret (.dat .non) else .exc c d
@[simp ↓] theorem wF_chkO (b : Bool) (c : Str) (d : Dt) (Q : Res → Prop) (X : Str → Dt → Prop) : wF (chkO b c d) Q X = wI b (Q (.dat .non)) (X c d) := by cases b <;> rfl
theorem chkO_eq {b : Bool} {c : Str} {d : Dt} {o : FOut} (h : wF o (fun r => b = true ∧ r = .dat .non) (fun c' d' => b = false ∧ c' = c ∧ d' = d)) : o = chkO b c d := by
  cases o with
  | ret r =>
    cases r with
    | dat x => obtain ⟨rfl, h⟩ := h; rw [h]; rfl
    | new x => obtain ⟨_, h⟩ := h; cases h
    | slt _ => exact h.elim
  | exc c' d' => obtain ⟨rfl, rfl, rfl⟩ := h; rfl
  | stuck => exact h.elim
theorem s_chkF (d : Dt) (hx : isX d = false) : s_check_field [d] = chkO (fldB d) "InvalidField" d := by
  refine chkO_eq ?_
  unfold s_check_field
  rw [wF_sem]
  unfold m_check_field
  simp only [startE_, startR_, List.map_cons, List.map_nil, List.length_cons, List.length_nil, List.replicate, Nat.reduceSub, Nat.reduceAdd, List.cons_append, List.nil_append]
  have h := s_fld d hx
  cases hb : fldB d <;> (repeat (first | simp [sizeLine_eq, h, hb] | (with_reducible refine wG_mk ?_ ?_; (first | with_reducible assumption | omega | with_reducible exact inB62_ _ (by omega) | with_reducible exact mulOk_ _ _ (by omega) | with_reducible decide))))
theorem s_numby (p k : Int) (hp : 0 ≤ p) : s_number_by [.int p, .int k] = .ret (.dat (.tup [.int (if p = 0 then k else k % p), .int 1])) := by
  refine wF_eq ?_
  unfold s_number_by
  rw [wF_sem]
  unfold m_number_by
  simp only [startE_, startR_, List.map_cons, List.map_nil, List.length_cons, List.length_nil, List.replicate, Nat.reduceSub, Nat.reduceAdd, List.cons_append, List.nil_append]
  by_cases h : p = 0
  · subst h; (repeat (first | simp [sizeLine_eq] | (with_reducible refine wG_mk ?_ ?_; (first | with_reducible assumption | omega | with_reducible exact inB62_ _ (by omega) | with_reducible exact mulOk_ _ _ (by omega) | with_reducible decide))))
  · have h' : 0 < p := by omega
    (repeat (first | simp [sizeLine_eq, h] | (with_reducible refine wG_mk ?_ ?_; (first | with_reducible assumption | omega | with_reducible exact inB62_ _ (by omega) | with_reducible exact mulOk_ _ _ (by omega) | with_reducible decide))))
theorem s_numof (f k : Dt) (hf : isX f = false) (hk : isX k = false) (p : Int) (hp : 0 ≤ p) (hq : fldB f = true → f = .int p) : s_number_of [f, k] = if fldB f = true then (match k with | .int k => .ret (.dat (.tup [.int (if p = 0 then k else k % p), .int 1])) | _ => .exc "InvalidInteger" k) else .exc "InvalidField" f := by
  have h1 := s_chkF f hf
  have h2 := s_int k hk
  by_cases h : fldB f = true
  · rw [if_pos h]
    have hq := hq h
    subst hq
    rw [h] at h1
    cases k with
    | int k =>
      refine wF_eq ?_
      unfold s_number_of
      rw [wF_sem]
      unfold m_number_of
      simp only [startE_, startR_, List.map_cons, List.map_nil, List.length_cons, List.length_nil, List.replicate, Nat.reduceSub, Nat.reduceAdd, List.cons_append, List.nil_append]
      have h3 := s_numby p k hp
      (repeat (first | simp [sizeLine_eq, h1, h2, h3] | (with_reducible refine wG_mk ?_ ?_; (first | with_reducible assumption | omega | with_reducible exact inB62_ _ (by omega) | with_reducible exact mulOk_ _ _ (by omega) | with_reducible decide))))
    | exo _ _ => cases hk
    | dic _ _ => cases hk
    | _ =>
      refine wF_eqx ?_
      unfold s_number_of
      rw [wF_sem]
      unfold m_number_of
      simp only [startE_, startR_, List.map_cons, List.map_nil, List.length_cons, List.length_nil, List.replicate, Nat.reduceSub, Nat.reduceAdd, List.cons_append, List.nil_append]
      (repeat (first | simp [sizeLine_eq, h1, h2, isI] | (with_reducible refine wG_mk ?_ ?_; (first | with_reducible assumption | omega | with_reducible exact inB62_ _ (by omega) | with_reducible exact mulOk_ _ _ (by omega) | with_reducible decide))))
  · rw [if_neg h]
    refine wF_eqx ?_
    unfold s_number_of
    rw [wF_sem]
    unfold m_number_of
    simp only [startE_, startR_, List.map_cons, List.map_nil, List.length_cons, List.length_nil, List.replicate, Nat.reduceSub, Nat.reduceAdd, List.cons_append, List.nil_append]
    have h' : fldB f = false := by simpa using h
    rw [h'] at h1
    (repeat (first | simp [sizeLine_eq, h1] | (with_reducible refine wG_mk ?_ ?_; (first | with_reducible assumption | omega | with_reducible exact inB62_ _ (by omega) | with_reducible exact mulOk_ _ _ (by omega) | with_reducible decide))))
theorem gcd_emod' {a b : Int} (ha : 0 ≤ a) (hb : 0 ≤ b) : Int.gcd b (a % b) = Int.gcd a b := by
  obtain ⟨m, rfl⟩ := Int.eq_ofNat_of_zero_le ha
  obtain ⟨n, rfl⟩ := Int.eq_ofNat_of_zero_le hb
  show Nat.gcd n (m % n) = Nat.gcd m n
  rw [Nat.gcd_comm m n, Nat.gcd_rec n m, Nat.gcd_comm]
theorem s_gcd (a b : Int) : s_greatest_divisor [.int a, .int b] = .ret (.dat (.int (Int.gcd a b))) := by
  refine wF_eq ?_
  unfold s_greatest_divisor
  rw [wF_sem]
  unfold m_greatest_divisor
  simp only [startE_, startR_, List.map_cons, List.map_nil, List.length_cons, List.length_nil, List.replicate, Nat.reduceSub, Nat.reduceAdd, List.cons_append, List.nil_append]
  (repeat (first | simp [sizeLine_eq] | (with_reducible refine wG_mk ?_ ?_; (first | with_reducible assumption | omega | with_reducible exact inB62_ _ (by omega) | with_reducible exact mulOk_ _ _ (by omega) | with_reducible decide))))
  with_reducible refine wS_while (fun e => ∃ x y : Int, e = [.val (.int x), .val (.int y)] ∧ 0 ≤ x ∧ 0 ≤ y ∧ Int.gcd x y = Int.gcd a b) (fun e => (slI e 1).toNat) ?_ ?_
  · refine ⟨_, _, rfl, ?_, ?_, ?_⟩
    · split <;> omega
    · split <;> omega
    · have ab : ∀ x : Int, (if x < 0 then -x else x).natAbs = x.natAbs := fun x => by split <;> omega
      unfold Int.gcd
      rw [ab, ab]
  · intro e ⟨x, y, h, hx, hy, hg⟩
    subst h
    (repeat (first | simp [sizeLine_eq] | (with_reducible refine wG_mk ?_ ?_; (first | with_reducible assumption | omega | with_reducible exact inB62_ _ (by omega) | with_reducible exact mulOk_ _ _ (by omega) | with_reducible decide))))
    refine wI_mk (fun h => ?_) (fun h => ?_)
    · have h' : 0 < y := by simp at h; omega
      have m := mod_in x y h'
      (repeat (first | simp [sizeLine_eq] | (with_reducible refine wG_mk ?_ ?_; (first | with_reducible assumption | omega | with_reducible exact inB62_ _ (by omega) | with_reducible exact mulOk_ _ _ (by omega) | with_reducible decide))))
      exact hold ⟨⟨_, _, rfl, hy, m.1, by rw [gcd_emod' hx hy, hg]⟩, by show (x % y).toNat < y.toNat; omega⟩
    · simp at h
      subst h
      (repeat (first | simp [sizeLine_eq] | (with_reducible refine wG_mk ?_ ?_; (first | with_reducible assumption | omega | with_reducible exact inB62_ _ (by omega) | with_reducible exact mulOk_ _ _ (by omega) | with_reducible decide))))
      rw [← hg]
      simp
      omega
theorem gd_isX {n : Nat} {d : Dt} (h : gd n d = true) : isX d = false := by
  cases d <;> first | rfl | (simp at h)
theorem gd_tl {n : Nat} {ds : List Dt} (h : gd n (.tup ds) = true) : ds.length ≤ 100000 ∧ ∀ x ∈ ds, gd (n - 1) x = true := by
  cases n with
  | zero => cases h
  | succ n => simp at h; exact ⟨h.1, gds_all.mp h.2⟩
def encN (a : Int × Int) : Dt := .tup [.int a.1, .int a.2]
def numI (p a b : Int) : Bool := if p = 0 then decide (0 < b) && decide (Int.gcd a b = 1) else (decide (0 ≤ a) && decide (a < p)) && decide (b = 1)
def numB (p : Int) : Dt → Bool
  | .tup [.int a, .int b] => numI p a b
  | _ => false
@[simp] theorem numB_tup (p a b : Int) : numB p (.tup [.int a, .int b]) = numI p a b := id rfl
theorem s_isnum (p : Int) (d : Dt) (n : Nat) (h : gd n d = true) : s_is_number_of [.int p, d] = .ret (.dat (.bl (numB p d))) := by
  refine wF_eq ?_
  unfold s_is_number_of
  rw [wF_sem]
  unfold m_is_number_of
  simp only [startE_, startR_, List.map_cons, List.map_nil, List.length_cons, List.length_nil, List.replicate, Nat.reduceSub, Nat.reduceAdd, List.cons_append, List.nil_append]
  cases d with
  | tup ds =>
    obtain ⟨hl, hs⟩ := gd_tl h
    (repeat (first | simp [sizeLine_eq] | (with_reducible refine wG_mk ?_ ?_; (first | with_reducible assumption | omega | with_reducible exact inB62_ _ (by omega) | with_reducible exact mulOk_ _ _ (by omega) | with_reducible decide))))
    refine wI_mk (fun h2 => ?_) (fun h2 => ?_)
    · (repeat (first | simp [sizeLine_eq] | (with_reducible refine wG_mk ?_ ?_; (first | with_reducible assumption | omega | with_reducible exact inB62_ _ (by omega) | with_reducible exact mulOk_ _ _ (by omega) | with_reducible decide))))
      have e : numB p (.tup ds) = false := by
        match ds, h2 with
        | [], _ => rfl
        | [_], _ => simp [numB]
        | [a, b], h2 => simp at h2
        | a :: b :: c :: r, _ => simp [numB]
      rw [e]
    · obtain ⟨x, y, rfl⟩ : ∃ x y, ds = [x, y] := by
        match ds, h2 with
        | [], h2 => simp at h2
        | [_], h2 => simp at h2
        | [a, b], _ => exact ⟨a, b, rfl⟩
        | a :: b :: c :: r, h2 => simp at h2; omega
      (repeat (first | simp [sizeLine_eq, wipeE] | (with_reducible refine wG_mk ?_ ?_; (first | with_reducible assumption | omega | with_reducible exact inB62_ _ (by omega) | with_reducible exact mulOk_ _ _ (by omega) | with_reducible decide))))
      refine wE_compM (fun d => .bl (isI d)) (by rw [sizeLine_eq]; simp) ?_ ?_
      · have a := fAll_map [x, y] isI
        have hx := hs x (by simp)
        have hy := hs y (by simp)
        simp at a
        (repeat (first | simp [sizeLine_eq, restE, a] | (with_reducible refine wG_mk ?_ ?_; (first | with_reducible assumption | omega | with_reducible exact inB62_ _ (by omega) | with_reducible exact mulOk_ _ _ (by omega) | with_reducible decide))))
        cases x with
        | int x =>
          cases y with
          | int y =>
            have hg := s_gcd x y
            by_cases hp : p = 0
            · subst hp
              (repeat (first | simp [sizeLine_eq, hg, numB, numI] | (with_reducible refine wG_mk ?_ ?_; (first | with_reducible assumption | omega | with_reducible exact inB62_ _ (by omega) | with_reducible exact mulOk_ _ _ (by omega) | with_reducible decide))))
              refine wI_mk (fun h2 => ?_) (fun h2 => ?_)
              · (repeat (first | simp [sizeLine_eq, hg, of_decide_eq_true h2] | (with_reducible refine wG_mk ?_ ?_; (first | with_reducible assumption | omega | with_reducible exact inB62_ _ (by omega) | with_reducible exact mulOk_ _ _ (by omega) | with_reducible decide))))
                omega
              · (repeat (first | simp [sizeLine_eq] | (with_reducible refine wG_mk ?_ ?_; (first | with_reducible assumption | omega | with_reducible exact inB62_ _ (by omega) | with_reducible exact mulOk_ _ _ (by omega) | with_reducible decide))))
                intro z; simp at h2; omega
            · (repeat (first | simp [sizeLine_eq, hp, numB, numI] | (with_reducible refine wG_mk ?_ ?_; (first | with_reducible assumption | omega | with_reducible exact inB62_ _ (by omega) | with_reducible exact mulOk_ _ _ (by omega) | with_reducible decide))))
              refine wI_mk (fun h2 => ?_) (fun h2 => ?_)
              · have h2' : 0 ≤ x := of_decide_eq_true h2
                (repeat (first | simp [sizeLine_eq] | (with_reducible refine wG_mk ?_ ?_; (first | with_reducible assumption | omega | with_reducible exact inB62_ _ (by omega) | with_reducible exact mulOk_ _ _ (by omega) | with_reducible decide))))
                refine wI_mk (fun h3 => ?_) (fun h3 => ?_)
                · have h3' : x < p := of_decide_eq_true h3
                  (repeat (first | simp [sizeLine_eq, h2', h3', hp] | (with_reducible refine wG_mk ?_ ?_; (first | with_reducible assumption | omega | with_reducible exact inB62_ _ (by omega) | with_reducible exact mulOk_ _ _ (by omega) | with_reducible decide))))
                · have h3' : ¬ x < p := of_decide_eq_false h3
                  (repeat (first | simp [sizeLine_eq, h3', hp] | (with_reducible refine wG_mk ?_ ?_; (first | with_reducible assumption | omega | with_reducible exact inB62_ _ (by omega) | with_reducible exact mulOk_ _ _ (by omega) | with_reducible decide))))
              · have h2' : ¬ 0 ≤ x := of_decide_eq_false h2
                (repeat (first | simp [sizeLine_eq, h2', hp] | (with_reducible refine wG_mk ?_ ?_; (first | with_reducible assumption | omega | with_reducible exact inB62_ _ (by omega) | with_reducible exact mulOk_ _ _ (by omega) | with_reducible decide))))
          | exo _ _ => simp at hy
          | dic _ _ => simp at hy
          | _ => (repeat (first | simp [sizeLine_eq, isI, numB] | (with_reducible refine wG_mk ?_ ?_; (first | with_reducible assumption | omega | with_reducible exact inB62_ _ (by omega) | with_reducible exact mulOk_ _ _ (by omega) | with_reducible decide))))
        | exo _ _ => simp at hx
        | dic _ _ => simp at hx
        | _ => (repeat (first | simp [sizeLine_eq, isI, numB] | (with_reducible refine wG_mk ?_ ?_; (first | with_reducible assumption | omega | with_reducible exact inB62_ _ (by omega) | with_reducible exact mulOk_ _ _ (by omega) | with_reducible decide))))
      · intro d hd
        have q := s_int d (gd_isX (hs d hd))
        (repeat (first | simp [sizeLine_eq, q, wipeE] | (with_reducible refine wG_mk ?_ ?_; (first | with_reducible assumption | omega | with_reducible exact inB62_ _ (by omega) | with_reducible exact mulOk_ _ _ (by omega) | with_reducible decide))))
  | exo _ _ => simp at h
  | dic _ _ => simp at h
  | _ => (repeat (first | simp [sizeLine_eq, numB] | (with_reducible refine wG_mk ?_ ?_; (first | with_reducible assumption | omega | with_reducible exact inB62_ _ (by omega) | with_reducible exact mulOk_ _ _ (by omega) | with_reducible decide))))
theorem s_chknum (p : Int) (d : Dt) (n : Nat) (h : gd n d = true) : s_check_number [.int p, d] = chkO (numB p d) "InvalidNumber" d := by
  refine chkO_eq ?_
  unfold s_check_number
  rw [wF_sem]
  unfold m_check_number
  simp only [startE_, startR_, List.map_cons, List.map_nil, List.length_cons, List.length_nil, List.replicate, Nat.reduceSub, Nat.reduceAdd, List.cons_append, List.nil_append]
  have q := s_isnum p d n h
  cases hb : numB p d <;> (repeat (first | simp [sizeLine_eq, q, hb] | (with_reducible refine wG_mk ?_ ?_; (first | with_reducible assumption | omega | with_reducible exact inB62_ _ (by omega) | with_reducible exact mulOk_ _ _ (by omega) | with_reducible decide))))
/-- one outcome, then another -/
def FOut.andThen (o o' : FOut) : FOut := match o with
  | .ret (.dat .non) => o'
  | .exc c d => .exc c d
  | _ => .stuck
theorem s_chk2 (p : Int) (hp : fldI p = true) (a b : Dt) (n : Nat) (ha : gd n a = true) (hb : gd n b = true) : s_check_two_numbers [.int p, a, b] = if numB p a = true then chkO (numB p b) "InvalidNumber" b else .exc "InvalidNumber" a := by
  have q0 := s_chkF (.int p) rfl
  have q1 := s_chknum p a n ha
  have q2 := s_chknum p b n hb
  simp only [fldB_int, hp] at q0
  by_cases h : numB p a = true
  · rw [if_pos h]
    refine chkO_eq ?_
    unfold s_check_two_numbers
    rw [wF_sem]
    unfold m_check_two_numbers
    simp only [startE_, startR_, List.map_cons, List.map_nil, List.length_cons, List.length_nil, List.replicate, Nat.reduceSub, Nat.reduceAdd, List.cons_append, List.nil_append]
    cases h2 : numB p b <;> (repeat (first | simp [sizeLine_eq, q0, q1, q2, h, h2] | (with_reducible refine wG_mk ?_ ?_; (first | with_reducible assumption | omega | with_reducible exact inB62_ _ (by omega) | with_reducible exact mulOk_ _ _ (by omega) | with_reducible decide))))
  · rw [if_neg h]
    refine wF_eqx ?_
    unfold s_check_two_numbers
    rw [wF_sem]
    unfold m_check_two_numbers
    simp only [startE_, startR_, List.map_cons, List.map_nil, List.length_cons, List.length_nil, List.replicate, Nat.reduceSub, Nat.reduceAdd, List.cons_append, List.nil_append]
    have h : numB p a = false := by simpa using h
    (repeat (first | simp [sizeLine_eq, q0, q1, h] | (with_reducible refine wG_mk ?_ ?_; (first | with_reducible assumption | omega | with_reducible exact inB62_ _ (by omega) | with_reducible exact mulOk_ _ _ (by omega) | with_reducible decide))))
theorem s_chk2F (f a b : Dt) (hx : isX f = false) (hf : fldB f = false) : s_check_two_numbers [f, a, b] = .exc "InvalidField" f := by
  have q0 := s_chkF f hx
  rw [hf] at q0
  refine wF_eqx ?_
  unfold s_check_two_numbers
  rw [wF_sem]
  unfold m_check_two_numbers
  simp only [startE_, startR_, List.map_cons, List.map_nil, List.length_cons, List.length_nil, List.replicate, Nat.reduceSub, Nat.reduceAdd, List.cons_append, List.nil_append]
  (repeat (first | simp [sizeLine_eq, q0] | (with_reducible refine wG_mk ?_ ?_; (first | with_reducible assumption | omega | with_reducible exact inB62_ _ (by omega) | with_reducible exact mulOk_ _ _ (by omega) | with_reducible decide))))
theorem fdiv_pos_ {x y : Int} (h : 0 < y) : x.fdiv y = x / y := Int.fdiv_eq_ediv_of_nonneg x (by omega)
theorem s_und (a p : Int) (h1 : 1 < p) (h2 : p < 100) (hg : Int.gcd a p = 1) : ∃ r, s_undone [.int a, .int p] = .ret (.dat (.int r)) ∧ 0 ≤ r ∧ r < p ∧ (r * a) % p = 1 := by
  have key : wF (s_undone [.int a, .int p]) (fun R => Hold (fun R => ∃ r, R = .dat (.int r) ∧ 0 ≤ r ∧ r < p ∧ (r * a) % p = 1) R) (fun _ _ => False) := by
    unfold s_undone
    rw [wF_sem]
    unfold m_undone
    simp only [startE_, startR_, List.map_cons, List.map_nil, List.length_cons, List.length_nil, List.replicate, Nat.reduceSub, Nat.reduceAdd, List.cons_append, List.nil_append]
    have hp : 0 < p := by omega
    have m := mod_in a p hp
    (repeat (first | simp [sizeLine_eq] | (with_reducible refine wG_mk ?_ ?_; (first | with_reducible assumption | omega | with_reducible exact inB62_ _ (by omega) | with_reducible exact mulOk_ _ _ (by omega) | with_reducible decide))))
    with_reducible refine wS_while (fun e => ∃ (x y u v : Int) (w : Sl), e = [.val (.int a), .val (.int p), .val (.int x), .val (.int y), .val (.int u), .val (.int v), w] ∧ 0 ≤ x ∧ x ≤ p ∧ 0 ≤ y ∧ y ≤ p ∧ Int.gcd x y = 1 ∧ (∃ k, u * a = x + k * p) ∧ ∃ l, v * a = y + l * p) (fun e => (slI e 3).toNat) ?_ ?_
    · refine ⟨_, _, _, _, _, rfl, m.1, by omega, by omega, by omega, ?_, ⟨a / p, ?_⟩, ⟨-1, by omega⟩⟩
      · rw [← hg, Int.gcd_comm, ← Int.gcd_comm p a]
        have := Int.gcd_add_mul_right_right (m := p) (n := a % p) (k := a / p)
        rw [← this]
        congr 1
        rw [Int.emod_def, Int.mul_comm]; omega
      · rw [Int.emod_def, Int.mul_comm p]; omega
    · intro e ⟨x, y, u, v, w, h, hx, hx2, hy, hy2, hg, ⟨k, hk⟩, ⟨l, hl⟩⟩
      subst h
      (repeat (first | simp [sizeLine_eq] | (with_reducible refine wG_mk ?_ ?_; (first | with_reducible assumption | omega | with_reducible exact inB62_ _ (by omega) | with_reducible exact mulOk_ _ _ (by omega) | with_reducible decide))))
      refine wI_mk (fun h => ?_) (fun h => ?_)
      · have h' : 0 < y := by simp at h; omega
        have dv : divOk y := dOk y h' (by omega)
        have by1 : 0 ≤ x / y := Int.ediv_nonneg hx hy
        have by2 : x / y ≤ x := Int.ediv_le_self _ hx
        have o1 := mulOk_ (x.fdiv y) y (.inr (by omega))
        have o2 := mulOk_ (x.fdiv y) v (.inl (by rw [fdiv_pos_ h']; omega))
        (repeat (first | simp [sizeLine_eq] | (with_reducible refine wG_mk ?_ ?_; (first | with_reducible assumption | omega | with_reducible exact inB62_ _ (by omega) | with_reducible exact mulOk_ _ _ (by omega) | with_reducible decide))))
        have m := mod_in x y h'
        have em : x - x / y * y = x % y := by rw [Int.emod_def, Int.mul_comm]
        refine hold ⟨⟨_, _, _, _, _, rfl, hy, hy2, ?_, ?_, ?_, ⟨l, hl⟩, ⟨k - (x / y) * l, ?_⟩⟩, ?_⟩
        · rw [fdiv_pos_ h', em]; exact m.1
        · rw [fdiv_pos_ h', em]; omega
        · rw [fdiv_pos_ h', em, gcd_emod' hx hy, hg]
        · rw [fdiv_pos_ h', Int.sub_mul, Int.mul_assoc, hl, hk, Int.mul_add, Int.sub_mul, Int.mul_assoc]; omega
        · show (x - x.fdiv y * y).toNat < y.toNat
          rw [fdiv_pos_ h', em]; omega
      · simp at h
        subst h
        (repeat (first | simp [sizeLine_eq] | (with_reducible refine wG_mk ?_ ?_; (first | with_reducible assumption | omega | with_reducible exact inB62_ _ (by omega) | with_reducible exact mulOk_ _ _ (by omega) | with_reducible decide))))
        have m := mod_in u p hp
        refine hold ⟨_, rfl, m.1, m.2, ?_⟩
        have hx1 : x = 1 := by
          rw [Int.gcd_zero_right] at hg; omega
        rw [Int.mul_emod, Int.emod_emod_of_dvd _ (Int.dvd_refl p), ← Int.mul_emod, hk, hx1, Int.add_mul_emod_self_right]
        exact Int.emod_eq_of_lt (by omega) h1
  cases z : s_undone [.int a, .int p] with
  | ret R =>
    rw [z] at key
    cases R with
    | dat d => obtain ⟨r, h1, h⟩ := key; cases h1; exact ⟨r, rfl, h⟩
    | new d => obtain ⟨r, h1, h⟩ := key; cases h1
    | slt i => exact key.elim
  | exc c d => rw [z] at key; exact key.elim
  | stuck => rw [z] at key; exact key.elim

end Fw

/-! Pw1: words.py. -/
namespace Fw
open PySem PySem.Spec PyProof.Rows L2
noncomputable section
def m_is_setting : MS :=
  (sSeq (sIf (cOr (cNot (cTru (eIsi ["tuple"] (eVar 0)))) (cOr (cBl (eBin fNe (eCB fLen (eCons (eVar 0) eNil)) (eDat (.int 2)))) (cOr (cNot (cTru (eCall 1 s_is_field (vCons (eBin fIx (eVar 0) (eDat (.int 0))) vNil)))) (cNot (cTru (eIsi ["tuple"] (eBin fIx (eVar 0) (eDat (.int 1))))))))) (sRet 0 (eDat (.bl false))) sSkip) (sSeq (sIf (cNot (cBl (eChain fLt fLe (eDat (.int 0)) (eCB fLen (eCons (eBin fIx (eVar 0) (eDat (.int 1))) eNil)) (eCB fLen (eCons (eDat (.str [97, 98, 99, 100, 101, 102])) eNil))))) (sRet 0 (eDat (.bl false))) sSkip) (sRet 0 (eCB fAll (eCons (eComp (iSeq (eBin fIx (eVar 0) (eDat (.int 1)))) (gNm 1) cYes (eAnd (eCall 1 s_is_integer (vCons (eVar 1) vNil)) (eChain fLt fLe (eDat (.int 0)) (eVar 1) (eDat (.int 9)))) [1]) eNil)))))
def s_is_setting : FS := semF 2 m_is_setting
def m_check_setting : MS :=
  (sIf (cNot (cTru (eCall 1 s_is_setting (vCons (eVar 0) vNil)))) (sRaise "InvalidSetting" (eVar 0)) sSkip)
def s_check_setting : FS := semF 1 m_check_setting
def m_letters_of : MS :=
  (sRet 0 (eSlice (eDat (.str [97, 98, 99, 100, 101, 102])) oNone (oSome (eCB fLen (eCons (eBin fIx (eVar 0) (eDat (.int 1))) eNil)))))
def s_letters_of : FS := semF 1 m_letters_of
def m_is_word_of : MS :=
  (sRet 0 (eAnd (eIsi ["str"] (eVar 1)) (eCB fAll (eCons (eComp (iSeq (eVar 1)) (gNm 2) cYes (eBin fIn (eVar 2) (eCall 1 s_letters_of (vCons (eVar 0) vNil))) [2]) eNil))))
def s_is_word_of : FS := semF 3 m_is_word_of
def m_check_word : MS :=
  (sIf (cNot (cTru (eCall 2 s_is_word_of (vCons (eVar 0) (vCons (eVar 1) vNil))))) (sRaise "InvalidWord" (eVar 1)) sSkip)
def s_check_word : FS := semF 2 m_check_word
def m_check_two_words : MS :=
  (sSeq (sDrop (eCall 1 s_check_setting (vCons (eVar 0) vNil))) (sSeq (sDrop (eCall 2 s_check_word (vCons (eVar 0) (vCons (eVar 1) vNil)))) (sDrop (eCall 2 s_check_word (vCons (eVar 0) (vCons (eVar 2) vNil))))))
def s_check_two_words : FS := semF 3 m_check_two_words
def m_weight_of : MS :=
  (sRet 0 (eCB fSum (eCons (eComp (iSeq (eVar 1)) (gNm 2) cYes (eBin fIx (eBin fIx (eVar 0) (eDat (.int 1))) (eM1 fIndex (eDat (.str [97, 98, 99, 100, 101, 102])) (eVar 2))) [2]) eNil)))
def s_weight_of : FS := semF 3 m_weight_of
def m_order_key : MS :=
  (sRet 0 (eTup (vCons (eCall 2 s_weight_of (vCons (eVar 0) (vCons (eVar 1) vNil))) (vCons (eVar 1) vNil))))
def s_order_key : FS := semF 2 m_order_key
def m_is_less : MS :=
  (sSeq (sDrop (eCall 3 s_check_two_words (vCons (eVar 0) (vCons (eVar 1) (vCons (eVar 2) vNil))))) (sRet 0 (eBin fLt (eCall 2 s_order_key (vCons (eVar 0) (vCons (eVar 1) vNil))) (eCall 2 s_order_key (vCons (eVar 0) (vCons (eVar 2) vNil))))))
def s_is_less : FS := semF 3 m_is_less
def m_is_word : MS :=
  (sSeq (sDrop (eCall 1 s_check_setting (vCons (eVar 0) vNil))) (sRet 0 (eCall 2 s_is_word_of (vCons (eVar 0) (vCons (eVar 1) vNil)))))
def s_is_word : FS := semF 2 m_is_word
def m_overlaps_of : MS :=
  (sRet 0 (eComp (iRange2 (eDat (.int 1)) (eCB fMin2 (eCons (eCB fLen (eCons (eVar 0) eNil)) (eCons (eCB fLen (eCons (eVar 1) eNil)) eNil)))) (gNm 2) (cBl (eBin fEq (eSlice (eVar 0) (oSome (eBin fSub (eCB fLen (eCons (eVar 0) eNil)) (eVar 2))) oNone) (eSlice (eVar 1) oNone (oSome (eVar 2))))) (eVar 2) [2]))
def s_overlaps_of : FS := semF 3 m_overlaps_of
def m_overlaps : MS :=
  (sSeq (sDrop (eCall 3 s_check_two_words (vCons (eVar 0) (vCons (eVar 1) (vCons (eVar 2) vNil))))) (sRet 0 (eCB fTuple (eCons (eCall 2 s_overlaps_of (vCons (eVar 1) (vCons (eVar 2) vNil))) eNil))))
def s_overlaps : FS := semF 3 m_overlaps
def m_places_in : MS :=
  (sRet 0 (eComp (iRange1 (eBin fAdd (eBin fSub (eCB fLen (eCons (eVar 1) eNil)) (eCB fLen (eCons (eVar 0) eNil))) (eDat (.int 1)))) (gNm 2) (cBl (eBin fEq (eSlice (eVar 1) (oSome (eVar 2)) (oSome (eBin fAdd (eVar 2) (eCB fLen (eCons (eVar 0) eNil))))) (eVar 0))) (eVar 2) [2]))
def s_places_in : FS := semF 3 m_places_in
def m_places : MS :=
  (sSeq (sDrop (eCall 1 s_check_setting (vCons (eVar 0) vNil))) (sSeq (sDrop (eCall 2 s_check_word (vCons (eVar 0) (vCons (eVar 1) vNil)))) (sSeq (sIf (cBl (eBin fEq (eVar 1) (eDat (.str [])))) (sRaise "InvalidWord" (eVar 1)) sSkip) (sSeq (sDrop (eCall 2 s_check_word (vCons (eVar 0) (vCons (eVar 2) vNil)))) (sRet 0 (eCB fTuple (eCons (eCall 2 s_places_in (vCons (eVar 1) (vCons (eVar 2) vNil))) eNil)))))))
def s_places : FS := semF 3 m_places
def m_weight : MS :=
  (sSeq (sDrop (eCall 1 s_check_setting (vCons (eVar 0) vNil))) (sSeq (sDrop (eCall 2 s_check_word (vCons (eVar 0) (vCons (eVar 1) vNil)))) (sRet 0 (eCall 2 s_weight_of (vCons (eVar 0) (vCons (eVar 1) vNil))))))
def s_weight : FS := semF 2 m_weight
def m_check_integer : MS :=
  (sIf (cOr (cNot (cTru (eCall 1 s_is_integer (vCons (eVar 0) vNil)))) (cBl (eBin fLt (eVar 0) (eVar 1)))) (sRaise "InvalidInteger" (eVar 0)) sSkip)
def s_check_integer : FS := semF 2 m_check_integer
def m_words_number : MS :=
  (sSeq (sDrop (eCall 1 s_check_setting (vCons (eVar 0) vNil))) (sSeq (sDrop (eCall 2 s_check_integer (vCons (eVar 1) (vCons (eDat (.int 0)) vNil)))) (sSeq (sSet 2 (eLst (vCons (eDat (.int 1)) vNil))) (sSeq (sFor (iRange2 (eDat (.int 1)) (eBin fAdd (eVar 1) (eDat (.int 1)))) (gNm 3) (sDrop (eApp 2 (eCB fSum (eCons (eComp (iSeq (eBin fIx (eVar 0) (eDat (.int 1)))) (gNm 4) (cBl (eBin fLe (eVar 4) (eVar 3))) (eBin fIx (eVar 2) (eBin fSub (eVar 3) (eVar 4))) [4]) eNil))))) (sRet 0 (eBin fIx (eVar 2) (eVar 1)))))))
def s_words_number : FS := semF 5 m_words_number
def m_words_by : MS :=
  (sSeq (sSet 2 (eLst (vCons (eLst (vCons (eDat (.str [])) vNil)) vNil))) (sSeq (sFor (iRange2 (eDat (.int 1)) (eBin fAdd (eVar 1) (eDat (.int 1)))) (gNm 3) (sSeq (sSet 4 (eLst vNil)) (sSeq (sFor (iZip2 (vCons (eCall 1 s_letters_of (vCons (eVar 0) vNil)) (vCons (eBin fIx (eVar 0) (eDat (.int 1))) vNil))) (gTp 2 (gC (gNm 5) (gC (gNm 6) gN0))) (sIf (cBl (eBin fLe (eVar 6) (eVar 3))) (sDrop (eExt 4 (eComp (iSeq (eBin fIx (eVar 2) (eBin fSub (eVar 3) (eVar 6)))) (gNm 7) cYes (eBin fAdd (eVar 7) (eVar 5)) [7]))) sSkip)) (sDrop (eApp 2 (eVar 4)))))) (sRet 0 (eCB fSorted (eCons (eBin fIx (eVar 2) (eVar 1)) eNil)))))
def s_words_by : FS := semF 8 m_words_by
def m_words_of : MS :=
  (sSeq (sDrop (eCall 1 s_check_setting (vCons (eVar 0) vNil))) (sSeq (sDrop (eCall 2 s_check_integer (vCons (eVar 1) (vCons (eDat (.int 0)) vNil)))) (sRet 0 (eCB fTuple (eCons (eCall 2 s_words_by (vCons (eVar 0) (vCons (eVar 1) vNil))) eNil)))))
def s_words_of : FS := semF 2 m_words_of
end
def wtB : Dt → Bool
  | .int i => decide (0 < i) && decide (i ≤ 9)
  | _ => false
def wsB : Dt → Bool
  | .tup ws => (decide (0 < ws.length) && decide (ws.length ≤ 6)) && ws.all wtB
  | _ => false
/-- a setting -/
def setB : Dt → Bool
  | .tup [f, ws] => fldB f && wsB ws
  | _ => false
theorem s_setg (d : Dt) (n : Nat) (h : gd n d = true) : s_is_setting [d] = .ret (.dat (.bl (setB d))) := by
  refine wF_eq ?_
  unfold s_is_setting
  rw [wF_sem]
  unfold m_is_setting
  simp only [startE_, startR_, List.map_cons, List.map_nil, List.length_cons, List.length_nil, List.replicate, Nat.reduceSub, Nat.reduceAdd, List.cons_append, List.nil_append]
  cases d with
  | tup ds =>
    obtain ⟨hl, hs⟩ := gd_tl h
    (repeat (first | simp [sizeLine_eq] | (with_reducible refine wG_mk ?_ ?_; (first | with_reducible assumption | omega | with_reducible exact inB62_ _ (by omega) | with_reducible exact mulOk_ _ _ (by omega) | with_reducible decide))))
    refine wI_mk (fun h2 => ?_) (fun h2 => ?_)
    · (repeat (first | simp [sizeLine_eq] | (with_reducible refine wG_mk ?_ ?_; (first | with_reducible assumption | omega | with_reducible exact inB62_ _ (by omega) | with_reducible exact mulOk_ _ _ (by omega) | with_reducible decide))))
      have e : setB (.tup ds) = false := by
        match ds, h2 with
        | [], _ => rfl
        | [_], _ => simp [setB]
        | [a, b], h2 => simp at h2
        | a :: b :: c :: r, _ => simp [setB]
      rw [e]
    · obtain ⟨f, ws, rfl⟩ : ∃ x y, ds = [x, y] := by
        match ds, h2 with
        | [], h2 => simp at h2
        | [_], h2 => simp at h2
        | [a, b], _ => exact ⟨a, b, rfl⟩
        | a :: b :: c :: r, h2 => simp at h2; omega
      have hf := hs f (by simp)
      have hw := hs ws (by simp)
      have qf := s_fld f (gd_isX hf)
      (repeat (first | simp [sizeLine_eq, qf] | (with_reducible refine wG_mk ?_ ?_; (first | with_reducible assumption | omega | with_reducible exact inB62_ _ (by omega) | with_reducible exact mulOk_ _ _ (by omega) | with_reducible decide))))
      cases ef : fldB f
      · (repeat (first | simp [sizeLine_eq, setB, ef] | (with_reducible refine wG_mk ?_ ?_; (first | with_reducible assumption | omega | with_reducible exact inB62_ _ (by omega) | with_reducible exact mulOk_ _ _ (by omega) | with_reducible decide))))
      · (repeat (first | simp [sizeLine_eq] | (with_reducible refine wG_mk ?_ ?_; (first | with_reducible assumption | omega | with_reducible exact inB62_ _ (by omega) | with_reducible exact mulOk_ _ _ (by omega) | with_reducible decide))))
        cases ws with
        | tup ws =>
          obtain ⟨hl2, hs2⟩ := gd_tl hw
          (repeat (first | simp [sizeLine_eq] | (with_reducible refine wG_mk ?_ ?_; (first | with_reducible assumption | omega | with_reducible exact inB62_ _ (by omega) | with_reducible exact mulOk_ _ _ (by omega) | with_reducible decide))))
          refine wI_mk (fun h3 => ?_) (fun h3 => ?_)
          · (repeat (first | simp [sizeLine_eq] | (with_reducible refine wG_mk ?_ ?_; (first | with_reducible assumption | omega | with_reducible exact inB62_ _ (by omega) | with_reducible exact mulOk_ _ _ (by omega) | with_reducible decide))))
            refine wI_mk (fun h4 => ?_) (fun h4 => ?_)
            · have h5 : ¬ ws.length ≤ 6 := by simp at h4; omega
              (repeat (first | simp [sizeLine_eq] | (with_reducible refine wG_mk ?_ ?_; (first | with_reducible assumption | omega | with_reducible exact inB62_ _ (by omega) | with_reducible exact mulOk_ _ _ (by omega) | with_reducible decide))))
              simp [setB, wsB, h5]
            · have h5 : ws.length ≤ 6 := by simp at h4; omega
              (repeat (first | simp [sizeLine_eq] | (with_reducible refine wG_mk ?_ ?_; (first | with_reducible assumption | omega | with_reducible exact inB62_ _ (by omega) | with_reducible exact mulOk_ _ _ (by omega) | with_reducible decide))))
              refine wE_compM (fun d => .bl (wtB d)) (by rw [sizeLine_eq]; omega) ?_ ?_
              · have a := fAll_map ws wtB
                have h3' : 0 < ws.length := of_decide_eq_true h3
                (repeat (first | simp [sizeLine_eq, a] | (with_reducible refine wG_mk ?_ ?_; (first | with_reducible assumption | omega | with_reducible exact inB62_ _ (by omega) | with_reducible exact mulOk_ _ _ (by omega) | with_reducible decide))))
                simp [setB, wsB, ef, h3', h5]
              · intro d hd
                have hx := gd_isX (hs2 d hd)
                have q := s_int d hx
                cases d with
                | int i =>
                  (repeat (first | simp [sizeLine_eq, q, wtB] | (with_reducible refine wG_mk ?_ ?_; (first | with_reducible assumption | omega | with_reducible exact inB62_ _ (by omega) | with_reducible exact mulOk_ _ _ (by omega) | with_reducible decide))))
                  refine wI_mk (fun h6 => ?_) (fun h6 => ?_)
                  · (repeat (first | simp [sizeLine_eq, h6] | (with_reducible refine wG_mk ?_ ?_; (first | with_reducible assumption | omega | with_reducible exact inB62_ _ (by omega) | with_reducible exact mulOk_ _ _ (by omega) | with_reducible decide))))
                  · (repeat (first | simp [sizeLine_eq, h6] | (with_reducible refine wG_mk ?_ ?_; (first | with_reducible assumption | omega | with_reducible exact inB62_ _ (by omega) | with_reducible exact mulOk_ _ _ (by omega) | with_reducible decide))))
                | _ => (repeat (first | simp [sizeLine_eq, q, isI, wtB] | (with_reducible refine wG_mk ?_ ?_; (first | with_reducible assumption | omega | with_reducible exact inB62_ _ (by omega) | with_reducible exact mulOk_ _ _ (by omega) | with_reducible decide))))
          · (repeat (first | simp [sizeLine_eq, setB, wsB, ef, h3] | (with_reducible refine wG_mk ?_ ?_; (first | with_reducible assumption | omega | with_reducible exact inB62_ _ (by omega) | with_reducible exact mulOk_ _ _ (by omega) | with_reducible decide))))
        | exo _ _ => simp at hw
        | dic _ _ => simp at hw
        | _ => (repeat (first | simp [sizeLine_eq, setB, wsB, ef] | (with_reducible refine wG_mk ?_ ?_; (first | with_reducible assumption | omega | with_reducible exact inB62_ _ (by omega) | with_reducible exact mulOk_ _ _ (by omega) | with_reducible decide))))
  | exo _ _ => simp at h
  | dic _ _ => simp at h
  | _ => (repeat (first | simp [sizeLine_eq, setB] | (with_reducible refine wG_mk ?_ ?_; (first | with_reducible assumption | omega | with_reducible exact inB62_ _ (by omega) | with_reducible exact mulOk_ _ _ (by omega) | with_reducible decide))))
theorem s_chkset (d : Dt) (n : Nat) (h : gd n d = true) : s_check_setting [d] = chkO (setB d) "InvalidSetting" d := by
  refine chkO_eq ?_
  unfold s_check_setting
  rw [wF_sem]
  unfold m_check_setting
  simp only [startE_, startR_, List.map_cons, List.map_nil, List.length_cons, List.length_nil, List.replicate, Nat.reduceSub, Nat.reduceAdd, List.cons_append, List.nil_append]
  have q := s_setg d n h
  cases hb : setB d <;> (repeat (first | simp [sizeLine_eq, q, hb] | (with_reducible refine wG_mk ?_ ?_; (first | with_reducible assumption | omega | with_reducible exact inB62_ _ (by omega) | with_reducible exact mulOk_ _ _ (by omega) | with_reducible decide))))
theorem cutL_to {α : Type} (ds : List α) (k : Nat) : cutL ds none (some (k : Int)) = ds.take k := by
  unfold cutL
  rw [HT.sIx_none, HT.sIx_nat, List.drop_zero, Nat.sub_zero]
  by_cases h : k ≤ ds.length
  · rw [Nat.min_eq_left h]
  · rw [Nat.min_eq_right (by omega), List.take_of_length_le (Nat.le_refl _), List.take_of_length_le (by omega)]
theorem cutL_from {α : Type} (ds : List α) (k : Nat) : cutL ds (some (k : Int)) none = ds.drop k := by
  unfold cutL
  rw [HT.sIx_none, HT.sIx_nat]
  by_cases h : k ≤ ds.length
  · rw [Nat.min_eq_left h, List.take_of_length_le (by simp)]
  · rw [Nat.min_eq_right (by omega), Nat.sub_self, List.take_zero, List.drop_of_length_le (by omega)]
theorem cutL_mid {α : Type} (ds : List α) (i j : Nat) : cutL ds (some (i : Int)) (some (j : Int)) = (ds.drop i).take (j - i) := by
  unfold cutL
  rw [HT.sIx_nat, HT.sIx_nat]
  by_cases h : i ≤ ds.length
  · rw [Nat.min_eq_left h]
    by_cases h2 : j ≤ ds.length
    · rw [Nat.min_eq_left h2]
    · rw [Nat.min_eq_right (by omega), List.take_of_length_le (by simp), List.take_of_length_le (by simp; omega)]
  · rw [Nat.min_eq_right (show ds.length ≤ i by omega), List.drop_of_length_le (Nat.le_refl _), List.drop_of_length_le (show ds.length ≤ i by omega), List.take_nil, List.take_nil]
theorem fSl_str (x : Wd) (lo hi : Option Int) : fSl (.str x) lo hi = if x.length ≤ sizeLine then some (.dat (.str (cutL x lo hi))) else none := id rfl
/-- the six letters -/
def LET : Wd := [97, 98, 99, 100, 101, 102]
/-- a setting as data -/
def SET (p : Int) (ws : List Int) : Dt := .tup [.int p, .tup (ws.map .int)]
theorem s_letters (p : Int) (ws : List Int) (h : ws.length ≤ 6) : s_letters_of [SET p ws] = .ret (.dat (.str (LET.take ws.length))) := by
  refine wF_eq ?_
  unfold s_letters_of SET
  rw [wF_sem]
  unfold m_letters_of
  simp only [startE_, startR_, List.map_cons, List.map_nil, List.length_cons, List.length_nil, List.replicate, Nat.reduceSub, Nat.reduceAdd, List.cons_append, List.nil_append]
  (repeat (first | simp [sizeLine_eq, fSl_str, cutL_to, LET] | (with_reducible refine wG_mk ?_ ?_; (first | with_reducible assumption | omega | with_reducible exact inB62_ _ (by omega) | with_reducible exact mulOk_ _ _ (by omega) | with_reducible decide))))
def wordB (k : Nat) : Dt → Bool
  | .str x => x.all fun c => decide (c ∈ LET.take k)
  | _ => false
def letB (k : Nat) : Dt → Bool
  | .str [c] => decide (c ∈ LET.take k)
  | _ => false
theorem s_iswd (p : Int) (ws : List Int) (h : ws.length ≤ 6) (d : Dt) (n : Nat) (hd : gd n d = true) (hl : ∀ x, d = .str x → x.length ≤ 100000) : s_is_word_of [SET p ws, d] = .ret (.dat (.bl (wordB ws.length d))) := by
  refine wF_eq ?_
  unfold s_is_word_of
  rw [wF_sem]
  unfold m_is_word_of
  simp only [startE_, startR_, List.map_cons, List.map_nil, List.length_cons, List.length_nil, List.replicate, Nat.reduceSub, Nat.reduceAdd, List.cons_append, List.nil_append]
  have q := s_letters p ws h
  cases d with
  | str x =>
    have hx := hl x rfl
    (repeat (first | simp [sizeLine_eq] | (with_reducible refine wG_mk ?_ ?_; (first | with_reducible assumption | omega | with_reducible exact inB62_ _ (by omega) | with_reducible exact mulOk_ _ _ (by omega) | with_reducible decide))))
    refine wE_compM (fun d => .bl (letB ws.length d)) (by rw [sizeLine_eq, List.length_map]; omega) ?_ ?_
    · have a := fAll_map x fun c => decide (c ∈ LET.take ws.length)
      (repeat (first | simp [sizeLine_eq, a, letB, Function.comp_def, wordB] | (with_reducible refine wG_mk ?_ ?_; (first | with_reducible assumption | omega | with_reducible exact inB62_ _ (by omega) | with_reducible exact mulOk_ _ _ (by omega) | with_reducible decide))))
    · intro d hd
      obtain ⟨c, _, rfl⟩ := List.mem_map.mp hd
      (repeat (first | simp [sizeLine_eq, q, fIn, letB, wipeE] | (with_reducible refine wG_mk ?_ ?_; (first | with_reducible assumption | omega | with_reducible exact inB62_ _ (by omega) | with_reducible exact mulOk_ _ _ (by omega) | with_reducible decide))))
  | exo _ _ => simp at hd
  | dic _ _ => simp at hd
  | _ => (repeat (first | simp [sizeLine_eq, wordB] | (with_reducible refine wG_mk ?_ ?_; (first | with_reducible assumption | omega | with_reducible exact inB62_ _ (by omega) | with_reducible exact mulOk_ _ _ (by omega) | with_reducible decide))))
theorem s_chkwd (p : Int) (ws : List Int) (h : ws.length ≤ 6) (d : Dt) (n : Nat) (hd : gd n d = true) (hl : ∀ x, d = .str x → x.length ≤ 100000) : s_check_word [SET p ws, d] = chkO (wordB ws.length d) "InvalidWord" d := by
  refine chkO_eq ?_
  unfold s_check_word
  rw [wF_sem]
  unfold m_check_word
  simp only [startE_, startR_, List.map_cons, List.map_nil, List.length_cons, List.length_nil, List.replicate, Nat.reduceSub, Nat.reduceAdd, List.cons_append, List.nil_append]
  have q := s_iswd p ws h d n hd hl
  cases hb : wordB ws.length d <;> (repeat (first | simp [sizeLine_eq, q, hb] | (with_reducible refine wG_mk ?_ ?_; (first | with_reducible assumption | omega | with_reducible exact inB62_ _ (by omega) | with_reducible exact mulOk_ _ _ (by omega) | with_reducible decide))))
def wl (ws : List Int) (c : Nat) : Int := ws.getD (c - 97) 0
def wt (ws : List Int) (x : Wd) : Int := (x.map (wl ws)).sum
theorem idx_at {c : Nat} (h : c ∈ LET) : fIndex [97, 98, 99, 100, 101, 102] (.str [c]) = some (.dat (.int ((c - 97 : Nat) : Int))) := by
  have q : LET.all (fun c => Builtin.Str.occurrences (st [97, 98, 99, 100, 101, 102]) (st [c]) 0 (st [97, 98, 99, 100, 101, 102]).length 1 == [c - 97]) = true := by decide +kernel
  have e := eq_of_beq (List.all_eq_true.mp q c h)
  unfold fIndex
  dsimp only
  rw [e]
theorem LET_take {c k : Nat} (hk : k ≤ 6) (h : c ∈ LET.take k) : c ∈ LET ∧ c - 97 < k := by
  have q : (List.range 7).all (fun k => (LET.take k).all fun c => decide (c ∈ LET) && decide (c - 97 < k)) = true := by decide +kernel
  have := List.all_eq_true.mp (List.all_eq_true.mp q k (List.mem_range.mpr (by omega))) c h
  simpa using this
theorem fSum_map {α : Type} (l : List α) (f : α → Int) : fSum [.lst (l.map fun x => .int (f x))] = some (.dat (.int (l.map f).sum)) := by
  unfold fSum
  dsimp only
  rw [show (l.map fun x => Dt.int (f x)) = (l.map f).map Dt.int by rw [List.map_map]; rfl, asInts_map]
  rfl
theorem s_wt (p : Int) (ws : List Int) (h : ws.length ≤ 6) (x : Wd) (hx : x.length ≤ 100000) (hw : wordB ws.length (.str x) = true) (hc : x.all (fun c => decide (c < 1114112)) = true) : s_weight_of [SET p ws, .str x] = .ret (.dat (.int (wt ws x))) := by
  refine wF_eq ?_
  unfold s_weight_of
  rw [wF_sem]
  unfold m_weight_of
  simp only [startE_, startR_, List.map_cons, List.map_nil, List.length_cons, List.length_nil, List.replicate, Nat.reduceSub, Nat.reduceAdd, List.cons_append, List.nil_append]
  have hin : ∀ c ∈ x, c ∈ LET ∧ c - 97 < ws.length := fun c hc => LET_take h (of_decide_eq_true (List.all_eq_true.mp hw c hc))
  (repeat (first | simp [sizeLine_eq] | (with_reducible refine wG_mk ?_ ?_; (first | with_reducible assumption | omega | with_reducible exact inB62_ _ (by omega) | with_reducible exact mulOk_ _ _ (by omega) | with_reducible decide))))
  refine wE_compM (fun d => .int (match d with | .str [c] => wl ws c | _ => 0)) (by rw [sizeLine_eq, List.length_map]; omega) ?_ ?_
  · have a := fSum_map x (wl ws)
    (repeat (first | simp [sizeLine_eq, Function.comp_def, a, wt] | (with_reducible refine wG_mk ?_ ?_; (first | with_reducible assumption | omega | with_reducible exact inB62_ _ (by omega) | with_reducible exact mulOk_ _ _ (by omega) | with_reducible decide))))
  · intro d hd
    obtain ⟨c, hcx, rfl⟩ := List.mem_map.mp hd
    obtain ⟨h1, h2⟩ := hin c hcx
    have q := idx_at h1
    have e : atI (ws.map Dt.int) ((c - 97 : Nat) : Int) = some (.int (wl ws c)) := by
      unfold wl
      rw [atI_ofNat, List.getElem?_map, List.getElem?_eq_getElem h2, List.getD_eq_getElem?_getD, List.getElem?_eq_getElem h2]; rfl
    (repeat (first | simp [sizeLine_eq, q, wipeE, SET, e] | (with_reducible refine wG_mk ?_ ?_; (first | with_reducible assumption | omega | with_reducible exact inB62_ _ (by omega) | with_reducible exact mulOk_ _ _ (by omega) | with_reducible decide))))
/-- a word of k letters -/
structure Wrd (k : Nat) (x : Wd) : Prop where
  len : x.length ≤ 100000
  let' : ∀ c ∈ x, c ∈ LET.take k
theorem LET_small {c : Nat} (h : c ∈ LET) : c < 1114112 := by
  have q : LET.all (fun c => decide (c < 1114112)) = true := by decide +kernel
  exact of_decide_eq_true (List.all_eq_true.mp q c h)
theorem Wrd.b {k : Nat} {x : Wd} (w : Wrd k x) : wordB k (.str x) = true := List.all_eq_true.mpr fun c hc => decide_eq_true (w.let' c hc)
theorem Wrd.sm {k : Nat} {x : Wd} (w : Wrd k x) : x.all (fun c => decide (c < 1114112)) = true := List.all_eq_true.mpr fun c hc => decide_eq_true (LET_small (List.mem_of_mem_take (w.let' c hc)))
theorem Wrd.g {k : Nat} {x : Wd} (w : Wrd k x) : gd 1 (.str x) = true := by rw [gd_str]; exact w.sm
/-- a right setting -/
structure Stg (p : Int) (ws : List Int) : Prop where
  f : fldI p = true
  pos : 0 < ws.length
  six : ws.length ≤ 6
  w : ∀ i ∈ ws, 0 < i ∧ i ≤ 9
theorem Stg.b {p : Int} {ws : List Int} (s : Stg p ws) : setB (SET p ws) = true := by
  unfold SET setB wsB
  have e : (ws.map Dt.int).all wtB = true := List.all_eq_true.mpr fun d hd => by
    obtain ⟨i, hi, rfl⟩ := List.mem_map.mp hd
    have := s.w i hi
    simp [wtB, this]
  simp [s.f, s.pos, s.six, e]
theorem Stg.g {p : Int} {ws : List Int} (s : Stg p ws) : gd 3 (SET p ws) = true := by
  have := s.six
  have e : gds 1 (ws.map Dt.int) = true := gds_all.mpr fun d hd => by
    obtain ⟨i, _, rfl⟩ := List.mem_map.mp hd
    exact gd_int _ _
  unfold SET
  simp [e]
  omega
theorem c_set {p : Int} {ws : List Int} (s : Stg p ws) : s_check_setting [SET p ws] = .ret (.dat .non) := by rw [s_chkset _ 3 s.g, s.b]; rfl
theorem c_wd {p : Int} {ws : List Int} (s : Stg p ws) {x : Wd} (w : Wrd ws.length x) : s_check_word [SET p ws, .str x] = .ret (.dat .non) := by
  rw [s_chkwd p ws s.six (.str x) 1 w.g (fun y e => by cases e; exact w.len), w.b]; rfl
theorem c_wt {p : Int} {ws : List Int} (s : Stg p ws) {x : Wd} (w : Wrd ws.length x) : s_weight_of [SET p ws, .str x] = .ret (.dat (.int (wt ws x))) := s_wt p ws s.six x w.len w.b w.sm
theorem c_key {p : Int} {ws : List Int} (s : Stg p ws) {x : Wd} (w : Wrd ws.length x) : s_order_key [SET p ws, .str x] = .ret (.dat (.tup [.int (wt ws x), .str x])) := by
  refine wF_eq ?_
  unfold s_order_key
  rw [wF_sem]
  unfold m_order_key
  simp only [startE_, startR_, List.map_cons, List.map_nil, List.length_cons, List.length_nil, List.replicate, Nat.reduceSub, Nat.reduceAdd, List.cons_append, List.nil_append]
  (repeat (first | simp [sizeLine_eq, c_wt s w] | (with_reducible refine wG_mk ?_ ?_; (first | with_reducible assumption | omega | with_reducible exact inB62_ _ (by omega) | with_reducible exact mulOk_ _ _ (by omega) | with_reducible decide))))
theorem c_two {p : Int} {ws : List Int} (s : Stg p ws) {x y : Wd} (w : Wrd ws.length x) (w2 : Wrd ws.length y) : s_check_two_words [SET p ws, .str x, .str y] = .ret (.dat .non) := by
  refine wF_eq ?_
  unfold s_check_two_words
  rw [wF_sem]
  unfold m_check_two_words
  simp only [startE_, startR_, List.map_cons, List.map_nil, List.length_cons, List.length_nil, List.replicate, Nat.reduceSub, Nat.reduceAdd, List.cons_append, List.nil_append]
  (repeat (first | simp [sizeLine_eq, c_set s, c_wd s w, c_wd s w2] | (with_reducible refine wG_mk ?_ ?_; (first | with_reducible assumption | omega | with_reducible exact inB62_ _ (by omega) | with_reducible exact mulOk_ _ _ (by omega) | with_reducible decide))))
theorem c_weight {p : Int} {ws : List Int} (s : Stg p ws) {x : Wd} (w : Wrd ws.length x) : s_weight [SET p ws, .str x] = .ret (.dat (.int (wt ws x))) := by
  refine wF_eq ?_
  unfold s_weight
  rw [wF_sem]
  unfold m_weight
  simp only [startE_, startR_, List.map_cons, List.map_nil, List.length_cons, List.length_nil, List.replicate, Nat.reduceSub, Nat.reduceAdd, List.cons_append, List.nil_append]
  (repeat (first | simp [sizeLine_eq, c_set s, c_wd s w, c_wt s w] | (with_reducible refine wG_mk ?_ ?_; (first | with_reducible assumption | omega | with_reducible exact inB62_ _ (by omega) | with_reducible exact mulOk_ _ _ (by omega) | with_reducible decide))))
theorem c_isword {p : Int} {ws : List Int} (s : Stg p ws) (d : Dt) (n : Nat) (hd : gd n d = true) (hl : ∀ x, d = .str x → x.length ≤ 100000) : s_is_word [SET p ws, d] = .ret (.dat (.bl (wordB ws.length d))) := by
  refine wF_eq ?_
  unfold s_is_word
  rw [wF_sem]
  unfold m_is_word
  simp only [startE_, startR_, List.map_cons, List.map_nil, List.length_cons, List.length_nil, List.replicate, Nat.reduceSub, Nat.reduceAdd, List.cons_append, List.nil_append]
  (repeat (first | simp [sizeLine_eq, c_set s, s_iswd p ws s.six d n hd hl] | (with_reducible refine wG_mk ?_ ?_; (first | with_reducible assumption | omega | with_reducible exact inB62_ _ (by omega) | with_reducible exact mulOk_ _ _ (by omega) | with_reducible decide))))
theorem dlt_key (a b : Int) (x y : Str) : PySem.W.dataLt (.tuple [.int a, .str x]) (.tuple [.int b, .str y]) = (decide (a < b) || (decide (a = b) && decide (x.cps.toList < y.cps.toList))) := by
  rw [PySem.W.dataLt_tuple]
  by_cases e : a = b
  · subst e
    rw [PySem.W.dataLt_all_yes (by simp [PySem.W.alike]) (by simp [PyData.eqv])]
    by_cases e2 : x = y
    · subst e2
      rw [lex_irrefl]
      simp
    · rw [PySem.W.dataLt_all_no (by simp [PySem.W.alike]) (by simp [PyData.eqv, e2]), PySem.W.dataLt_str]
      simp
  · rw [PySem.W.dataLt_all_no (by simp [PySem.W.alike]) (by simp [PyData.eqv, e]), PySem.W.dataLt_int]
    simp [e]
theorem fLt_key (a b : Int) (x y : Wd) : fLt (.tup [.int a, .str x]) (.tup [.int b, .str y]) = some (.dat (.bl (decide (a < b) || (decide (a = b) && decide (x < y))))) := by
  have h : ((dpl (.tup [.int a, .str x]) && dpl (.tup [.int b, .str y])) && (PySem.W.alike (py (.tup [.int a, .str x])) (py (.tup [.int b, .str y])) && (!isNon (.tup [.int a, .str x]) && decide ((py (.tup [.int a, .str x])).depth ≤ 60)))) = true := by
    simp [dpl, dpls, py, pys, PySem.W.alike, PySem.W.alikeAll, isNon, PyData.depth, PyData.depthAll]
  unfold fLt fCmpI
  dsimp only
  rw [if_pos h]
  show some (Res.dat (Dt.bl (PySem.W.dataLt (.tuple [.int a, .str (st x)]) (.tuple [.int b, .str (st y)])))) = _
  rw [dlt_key, st_toList, st_toList]
/-- x stands ahead of y -/
def lessK (ws : List Int) (x y : Wd) : Bool := decide (wt ws x < wt ws y) || (decide (wt ws x = wt ws y) && decide (x < y))
theorem c_less {p : Int} {ws : List Int} (s : Stg p ws) {x y : Wd} (w : Wrd ws.length x) (w2 : Wrd ws.length y) : s_is_less [SET p ws, .str x, .str y] = .ret (.dat (.bl (lessK ws x y))) := by
  refine wF_eq ?_
  unfold s_is_less
  rw [wF_sem]
  unfold m_is_less
  simp only [startE_, startR_, List.map_cons, List.map_nil, List.length_cons, List.length_nil, List.replicate, Nat.reduceSub, Nat.reduceAdd, List.cons_append, List.nil_append]
  (repeat (first | simp [sizeLine_eq, c_two s w w2, c_key s w, c_key s w2, fLt_key, lessK] | (with_reducible refine wG_mk ?_ ?_; (first | with_reducible assumption | omega | with_reducible exact inB62_ _ (by omega) | with_reducible exact mulOk_ _ _ (by omega) | with_reducible decide))))
theorem s_chkint (d : Dt) (hx : isX d = false) (k : Int) : s_check_integer [d, .int k] = chkO (match d with | .int i => decide (k ≤ i) | _ => false) "InvalidInteger" d := by
  refine chkO_eq ?_
  unfold s_check_integer
  rw [wF_sem]
  unfold m_check_integer
  simp only [startE_, startR_, List.map_cons, List.map_nil, List.length_cons, List.length_nil, List.replicate, Nat.reduceSub, Nat.reduceAdd, List.cons_append, List.nil_append]
  have q := s_int d hx
  cases d with
  | int i =>
    (repeat (first | simp [sizeLine_eq, q] | (with_reducible refine wG_mk ?_ ?_; (first | with_reducible assumption | omega | with_reducible exact inB62_ _ (by omega) | with_reducible exact mulOk_ _ _ (by omega) | with_reducible decide))))
    refine wI_mk (fun h => ?_) (fun h => ?_)
    · have h' := of_decide_eq_true h
      (repeat (first | simp [sizeLine_eq, show ¬ k ≤ i by omega] | (with_reducible refine wG_mk ?_ ?_; (first | with_reducible assumption | omega | with_reducible exact inB62_ _ (by omega) | with_reducible exact mulOk_ _ _ (by omega) | with_reducible decide))))
    · have h' := of_decide_eq_false h
      (repeat (first | simp [sizeLine_eq, show k ≤ i by omega] | (with_reducible refine wG_mk ?_ ?_; (first | with_reducible assumption | omega | with_reducible exact inB62_ _ (by omega) | with_reducible exact mulOk_ _ _ (by omega) | with_reducible decide))))
  | exo _ _ => cases hx
  | dic _ _ => cases hx
  | _ => (repeat (first | simp [sizeLine_eq, q, isI] | (with_reducible refine wG_mk ?_ ?_; (first | with_reducible assumption | omega | with_reducible exact inB62_ _ (by omega) | with_reducible exact mulOk_ _ _ (by omega) | with_reducible decide))))
def nAt (N : List Int) (j : Nat) : Int := N.getD j 0
theorem atI_nAt {N : List Int} {j : Nat} {i : Int} (e : i = (j : Int)) (h : j < N.length) : atI (N.map Dt.int) i = some (.int (nAt N j)) := by
  subst e
  unfold nAt
  rw [atI_ofNat, List.getElem?_map, List.getElem?_eq_getElem h, List.getD_eq_getElem?_getD, List.getElem?_eq_getElem h]; rfl
def numS (ws : List Int) (N : List Int) (i : Nat) : Int := ((ws.filter fun w : Int => decide (w ≤ (i : Int) + 1)).map fun w : Int => nAt N (i + 1 - w.toNat)).sum
def nums (ws : List Int) : Nat → List Int
  | 0 => [1]
  | k + 1 => nums ws k ++ [numS ws (nums ws k) k]
theorem nums_len (ws : List Int) : ∀ k, (nums ws k).length = k + 1
  | 0 => rfl
  | k + 1 => by rw [nums, List.length_append, nums_len ws k]; rfl
theorem rangeD_cons {i k : Nat} (h : i < k) : rangeD (i : Int) (k : Int) = .int (i : Int) :: rangeD ((i + 1 : Nat) : Int) (k : Int) := by
  unfold rangeD
  rw [show ((k : Int) - i).toNat = (k - (i + 1)) + 1 by omega, show ((k : Int) - (i + 1 : Nat)).toNat = k - (i + 1) by omega, List.range_succ_eq_map, List.map_cons, List.map_map]
  congr 1
  simp
  intro a _
  omega
theorem rangeD_nil {i k : Nat} (h : k ≤ i) : rangeD (i : Int) (k : Int) = [] := by
  unfold rangeD
  rw [show ((k : Int) - i).toNat = 0 by omega]; rfl
def pI (q : Int → Bool) : Dt → Bool
  | .int w => q w
  | _ => false
def mI (f : Int → Int) : Dt → Dt
  | .int w => .int (f w)
  | d => d
theorem filt_int (q : Int → Bool) (f : Int → Int) : ∀ ws : List Int, ((ws.map Dt.int).filter (pI q)).map (mI f) = (ws.filter q).map fun w => Dt.int (f w)
  | [] => rfl
  | w :: ws => by
    rw [List.map_cons, List.filter_cons, List.filter_cons]
    show List.map (mI f) (if q w = true then _ else _) = _
    cases q w
    · exact filt_int q f ws
    · exact congrArg (Dt.int (f w) :: ·) (filt_int q f ws)
theorem c_num {p : Int} {ws : List Int} (s : Stg p ws) (k : Nat) (hk : k ≤ 100) : s_words_number [SET p ws, .int k] = .ret (.dat (.int (nAt (nums ws k) k))) := by
  refine wF_eq ?_
  unfold s_words_number
  rw [wF_sem]
  unfold m_words_number
  simp only [startE_, startR_, List.map_cons, List.map_nil, List.length_cons, List.length_nil, List.replicate, Nat.reduceSub, Nat.reduceAdd, List.cons_append, List.nil_append]
  (repeat (first | simp [sizeLine_eq, c_set s, s_chkint (.int k) rfl 0, show (0 : Int) ≤ k by omega] | (with_reducible refine wG_mk ?_ ?_; (first | with_reducible assumption | omega | with_reducible exact inB62_ _ (by omega) | with_reducible exact mulOk_ _ _ (by omega) | with_reducible decide))))
  with_reducible refine wS_for (fun ds e => ∃ (i : Nat) (s3 s4 : Sl), i ≤ k ∧ ds = rangeD ((i + 1 : Nat) : Int) ((k + 1 : Nat) : Int) ∧ e = [.val (SET p ws), .val (.int k), .own (.l ((nums ws i).map .int)), s3, s4]) ⟨0, _, _, by omega, by simp, rfl⟩ ?_ ?_
  · rintro e ⟨i, s3, s4, hi, hd, rfl⟩
    have e1 : i = k := by
      by_cases h : i < k
      · rw [rangeD_cons (by omega)] at hd; cases hd
      · omega
    subst e1
    have q := atI_nAt (N := nums ws i) (j := i) rfl (by rw [nums_len]; omega)
    (repeat (first | simp [sizeLine_eq, q] | (with_reducible refine wG_mk ?_ ?_; (first | with_reducible assumption | omega | with_reducible exact inB62_ _ (by omega) | with_reducible exact mulOk_ _ _ (by omega) | with_reducible decide))))
  · rintro d ds e ⟨i, s3, s4, hi, hd, rfl⟩
    have hik : i < k := by
      by_cases h : i < k
      · exact h
      · rw [rangeD_nil (by omega)] at hd; cases hd
    rw [rangeD_cons (by omega)] at hd
    injection hd with h1 h2
    subst h1
    (repeat (first | simp [sizeLine_eq, SET] | (with_reducible refine wG_mk ?_ ?_; (first | with_reducible assumption | omega | with_reducible exact inB62_ _ (by omega) | with_reducible exact mulOk_ _ _ (by omega) | with_reducible decide))))
    refine wE_compF (pI fun w => decide (w ≤ (i : Int) + 1)) (mI fun w => nAt (nums ws i) (i + 1 - w.toNat)) (by rw [sizeLine_eq, List.length_map]; have := s.six; omega) ?_ ?_
    · rw [filt_int]
      have a := fSum_map (ws.filter fun w => decide (w ≤ (i : Int) + 1)) fun w => nAt (nums ws i) (i + 1 - w.toNat)
      have hlen : (nums ws i).length < 16777216 := by rw [nums_len]; omega
      (repeat (first | simp [sizeLine_eq, a, hlen] | (with_reducible refine wG_mk ?_ ?_; (first | with_reducible assumption | omega | with_reducible exact inB62_ _ (by omega) | with_reducible exact mulOk_ _ _ (by omega) | with_reducible decide))))
      refine hold ⟨i + 1, .val (.int ((i : Int) + 1)), s4, hik, by simpa using h2, ?_⟩
      simp only [nums, List.map_append, List.map_cons, List.map_nil]
      rfl
    · intro d hd
      obtain ⟨w, hw, rfl⟩ := List.mem_map.mp hd
      have hw' := s.w w hw
      have ei : ((i : Int) + 1) = ((i + 1 : Nat) : Int) := by omega
      (repeat (first | simp [sizeLine_eq] | (with_reducible refine wG_mk ?_ ?_; (first | with_reducible assumption | omega | with_reducible exact inB62_ _ (by omega) | with_reducible exact mulOk_ _ _ (by omega) | with_reducible decide))))
      refine ⟨by simp [pI], ?_⟩
      refine wI_mk (fun h3 => ?_) (fun h3 => ?_)
      · have h4 := of_decide_eq_true h3
        have q := atI_nAt (N := nums ws i) (j := i + 1 - w.toNat) (i := (i : Int) + 1 - w) (by omega) (by rw [nums_len]; omega)
        (repeat (first | simp [sizeLine_eq, q, mI, wipeE] | (with_reducible refine wG_mk ?_ ?_; (first | with_reducible assumption | omega | with_reducible exact inB62_ _ (by omega) | with_reducible exact mulOk_ _ _ (by omega) | with_reducible decide))))
      · (repeat (first | simp [sizeLine_eq, wipeE] | (with_reducible refine wG_mk ?_ ?_; (first | with_reducible assumption | omega | with_reducible exact inB62_ _ (by omega) | with_reducible exact mulOk_ _ _ (by omega) | with_reducible decide))))

end Fw

/-! Pw2: words by weights, places, overlaps. -/
namespace Fw
open PySem PySem.Spec PyProof.Rows L2
structure Pos (ws : List Int) : Prop where
  six : ws.length ≤ 6
  w : ∀ i ∈ ws, 0 < i ∧ i ≤ 9
theorem Stg.q {p : Int} {ws : List Int} (s : Stg p ws) : Pos ws := ⟨s.six, s.w⟩
/-! ### words by weights -/
theorem getD_l {α : Type} (a b : List α) (i : Nat) (d : α) (h : i < a.length) : (a ++ b).getD i d = a.getD i d := by
  rw [List.getD_eq_getElem?_getD, List.getD_eq_getElem?_getD, List.getElem?_append_left h]
theorem getD_r {α : Type} (a : List α) (x d : α) (i : Nat) (h : i = a.length) : (a ++ [x]).getD i d = x := by
  subst h
  rw [List.getD_eq_getElem?_getD, List.getElem?_append_right (Nat.le_refl _), Nat.sub_self]; rfl
theorem zip_let {ws : List Int} (h : ws.length ≤ 6) : (LET.take ws.length).zip ws = (LET.take ws.length).map fun c => (c, wl ws c) := by
  match ws, h with
  | [], _ => rfl
  | [_], _ => rfl
  | [_, _], _ => rfl
  | [_, _, _], _ => rfl
  | [_, _, _, _], _ => rfl
  | [_, _, _, _, _], _ => rfl
  | [_, _, _, _, _, _], _ => rfl
  | _ :: _ :: _ :: _ :: _ :: _ :: _ :: _, h => simp at h
theorem map_let {ws : List Int} (h : ws.length ≤ 6) : (LET.take ws.length).map (wl ws) = ws := by
  have e := congrArg (List.map Prod.snd) (zip_let h)
  rw [List.map_map, List.map_snd_zip] at e
  · exact e.symm
  · rw [List.length_take]; exact Nat.le_min.mpr ⟨Nat.le_refl _, h⟩
theorem wl_pos {ws : List Int} (s : Pos ws) {c : Nat} (h : c ∈ LET.take ws.length) : 0 < wl ws c ∧ wl ws c ∈ ws := by
  have h2 : wl ws c ∈ (LET.take ws.length).map (wl ws) := List.mem_map_of_mem h
  rw [map_let s.six] at h2
  exact ⟨(s.w _ h2).1, h2⟩
theorem wt_nil (ws : List Int) : wt ws [] = 0 := rfl
theorem wt_app (ws : List Int) (x y : Wd) : wt ws (x ++ y) = wt ws x + wt ws y := by
  unfold wt; rw [List.map_append, List.sum_append]
theorem wt_one (ws : List Int) (c : Nat) : wt ws [c] = wl ws c := by unfold wt; simp
theorem wt_ge {ws : List Int} (s : Pos ws) : ∀ {x : Wd}, (∀ c ∈ x, c ∈ LET.take ws.length) → (x.length : Int) ≤ wt ws x
  | [], _ => by simp [wt]
  | c :: x, h => by
    have h1 := wl_pos s (h c List.mem_cons_self)
    have h2 := wt_ge s (x := x) fun c hc => h c (List.mem_cons_of_mem _ hc)
    have e : wt ws (c :: x) = wl ws c + wt ws x := by rw [← wt_one, ← wt_app]; rfl
    rw [e, List.length_cons]; omega
/-- the words of a weight, out of those of less weight -/
def rowS (ws : List Int) (R : List (List Wd)) (i : Nat) : List Wd :=
  (LET.take ws.length).flatMap fun c => if wl ws c ≤ (i : Int) + 1 then (R.getD (i + 1 - (wl ws c).toNat) []).map (· ++ [c]) else []
def rowsL (ws : List Int) : Nat → List (List Wd)
  | 0 => [[[]]]
  | k + 1 => rowsL ws k ++ [rowS ws (rowsL ws k) k]
theorem rowsL_len (ws : List Int) : ∀ k, (rowsL ws k).length = k + 1
  | 0 => rfl
  | k + 1 => by rw [rowsL, List.length_append, rowsL_len ws k]; rfl
def rowW (ws : List Int) (j : Nat) : List Wd := (rowsL ws j).getD j []
theorem rowsL_at (ws : List Int) : ∀ {k j : Nat}, j ≤ k → (rowsL ws k).getD j [] = rowW ws j
  | 0, j, h => by rw [show j = 0 by omega]; rfl
  | k + 1, j, h => by
    by_cases e : j = k + 1
    · subst e; rfl
    · rw [rowsL, getD_l _ _ _ _ (by rw [rowsL_len]; omega)]
      exact rowsL_at ws (by omega)
theorem rowW_succ {ws : List Int} (s : Pos ws) (i : Nat) : rowW ws (i + 1) = (LET.take ws.length).flatMap fun c => if wl ws c ≤ (i : Int) + 1 then (rowW ws (i + 1 - (wl ws c).toNat)).map (· ++ [c]) else [] := by
  unfold rowW
  conv => lhs; rw [rowsL, getD_r _ _ _ _ (by rw [rowsL_len])]
  show rowS ws (rowsL ws i) i = _
  unfold rowS
  rw [List.flatMap_def, List.flatMap_def]
  congr 1
  refine List.map_congr_left fun c hc => ?_
  have := wl_pos s hc
  rw [rowsL_at ws (by omega)]; rfl
theorem rowW_mem {ws : List Int} (s : Pos ws) (j : Nat) : ∀ x : Wd, x ∈ rowW ws j ↔ (∀ c ∈ x, c ∈ LET.take ws.length) ∧ wt ws x = j := by
  induction j using Nat.strongRecOn with
  | _ j ih =>
    intro x
    cases j with
    | zero =>
      show x ∈ [[]] ↔ _
      rw [List.mem_singleton]
      constructor
      · rintro rfl; exact ⟨by simp, rfl⟩
      · rintro ⟨h1, h2⟩
        have := wt_ge s h1
        rw [h2] at this
        exact List.length_eq_zero_iff.mp (by omega)
    | succ i =>
      rw [rowW_succ s, List.mem_flatMap]
      constructor
      · rintro ⟨c, hc, hx⟩
        have hp := wl_pos s hc
        by_cases h : wl ws c ≤ (i : Int) + 1
        · rw [if_pos h] at hx
          obtain ⟨y, hy, rfl⟩ := List.mem_map.mp hx
          obtain ⟨h1, h2⟩ := (ih _ (by omega) y).mp hy
          refine ⟨fun d hd => ?_, ?_⟩
          · rcases List.mem_append.mp hd with hd | hd
            · exact h1 d hd
            · rw [List.mem_singleton.mp hd]; exact hc
          · rw [wt_app, wt_one, h2]; omega
        · rw [if_neg h] at hx; cases hx
      · rintro ⟨h1, h2⟩
        rcases List.eq_nil_or_concat x with rfl | ⟨y, c, rfl⟩
        · rw [wt_nil] at h2; omega
        · rw [List.concat_eq_append] at h1 h2 ⊢
          have hc : c ∈ LET.take ws.length := h1 c (by simp)
          have hy : ∀ d ∈ y, d ∈ LET.take ws.length := fun d hd => h1 d (by simp [hd])
          have hp := wl_pos s hc
          have hg := wt_ge s hy
          rw [wt_app, wt_one] at h2
          refine ⟨c, hc, ?_⟩
          rw [if_pos (by omega)]
          exact List.mem_map.mpr ⟨y, (ih _ (by omega) y).mpr ⟨hy, by omega⟩, rfl⟩
theorem let_nodup (n : Nat) : (LET.take n).Nodup := List.Sublist.nodup (List.take_sublist n LET) (by decide)
theorem rowW_nodup {ws : List Int} (s : Pos ws) (j : Nat) : (rowW ws j).Nodup := by
  induction j using Nat.strongRecOn with
  | _ j ih =>
    cases j with
    | zero => show ([[]] : List Wd).Nodup; simp
    | succ i =>
      rw [rowW_succ s]
      refine List.pairwise_flatMap.mpr ⟨fun c hc => ?_, ?_⟩
      · have hp := wl_pos s hc
        by_cases h : wl ws c ≤ (i : Int) + 1
        · rw [if_pos h]
          refine List.pairwise_map.mpr ((ih _ (by omega)).imp fun hab e => hab ((List.append_left_inj _).mp e))
        · rw [if_neg h]; exact List.nodup_nil
      · refine (let_nodup ws.length).imp fun {a b} hab x hx y hy e => ?_
        subst e
        split at hx
        · split at hy
          · obtain ⟨u, _, rfl⟩ := List.mem_map.mp hx
            obtain ⟨v, _, e⟩ := List.mem_map.mp hy
            have := (List.append_inj' e rfl).2
            simp at this
            exact hab this.symm
          · cases hy
        · cases hx
theorem nums_at (ws : List Int) : ∀ {k j : Nat}, j ≤ k → nAt (nums ws k) j = nAt (nums ws j) j
  | 0, j, h => by rw [show j = 0 by omega]
  | k + 1, j, h => by
    by_cases e : j = k + 1
    · subst e; rfl
    · have : nAt (nums ws (k + 1)) j = nAt (nums ws k) j := by
        unfold nAt; rw [nums, getD_l _ _ _ _ (by rw [nums_len]; omega)]
      rw [this]; exact nums_at ws (by omega)
theorem sum_filter_if {α : Type} (p : α → Bool) (f : α → Int) : ∀ l : List α, ((l.filter p).map f).sum = (l.map fun a => if p a = true then f a else 0).sum
  | [] => rfl
  | a :: l => by
    rw [List.filter_cons, List.map_cons, List.sum_cons, ← sum_filter_if p f l]
    cases h : p a <;> simp
theorem sum_cast {α : Type} (f : α → Nat) : ∀ l : List α, (((l.map f).sum : Nat) : Int) = (l.map fun a => (f a : Int)).sum
  | [] => rfl
  | a :: l => by rw [List.map_cons, List.sum_cons, List.map_cons, List.sum_cons, ← sum_cast f l]; omega
theorem rowW_num {ws : List Int} (s : Pos ws) (j : Nat) : ((rowW ws j).length : Int) = nAt (nums ws j) j := by
  induction j using Nat.strongRecOn with
  | _ j ih =>
    cases j with
    | zero => rfl
    | succ i =>
      have e : nAt (nums ws (i + 1)) (i + 1) = numS ws (nums ws i) i := by
        unfold nAt
        rw [nums, getD_r _ _ _ _ (by rw [nums_len])]
      rw [rowW_succ s, e, List.length_flatMap, sum_cast]
      unfold numS
      rw [sum_filter_if]
      have q : ∀ f : Int → Int, (ws.map f).sum = ((LET.take ws.length).map fun c => f (wl ws c)).sum := fun f => by
        conv => lhs; rw [← map_let s.six, List.map_map]
        rfl
      rw [q]
      congr 1
      refine List.map_congr_left fun c hc => ?_
      have hp := wl_pos s hc
      show _ = if decide (wl ws c ≤ (i : Int) + 1) = true then nAt (nums ws i) (i + 1 - (wl ws c).toNat) else 0
      by_cases h : wl ws c ≤ (i : Int) + 1
      · rw [if_pos h, if_pos (decide_eq_true h), List.length_map, ih _ (by omega), nums_at ws (show i + 1 - (wl ws c).toNat ≤ i by omega)]
      · rw [if_neg h, if_neg (by simpa using h)]; rfl
theorem sum_le {α : Type} (f : α → Nat) (b : Nat) : ∀ l : List α, (∀ a ∈ l, f a ≤ b) → (l.map f).sum ≤ l.length * b
  | [], _ => by simp
  | a :: l, h => by
    have h1 := h a List.mem_cons_self
    have h2 := sum_le f b l fun a ha => h a (List.mem_cons_of_mem _ ha)
    rw [List.map_cons, List.sum_cons, List.length_cons, Nat.succ_mul]; omega
theorem rowW_le {ws : List Int} (s : Pos ws) (h0 : 0 < ws.length) (m : Nat) (hm : 0 < m) (hw : ∀ w ∈ ws, (m : Int) ≤ w) (j : Nat) : (rowW ws j).length ≤ ws.length ^ (j / m) := by
  induction j using Nat.strongRecOn with
  | _ j ih =>
    cases j with
    | zero => show 1 ≤ _; simp
    | succ i =>
      rw [rowW_succ s, List.length_flatMap]
      have hl : (LET.take ws.length).length = ws.length := by rw [List.length_take]; exact Nat.min_eq_left s.six
      by_cases hi : m ≤ i + 1
      · refine Nat.le_trans (sum_le _ (ws.length ^ ((i + 1) / m - 1)) _ fun c hc => ?_) ?_
        · have hp := wl_pos s hc
          have hq := hw _ hp.2
          split
          · rw [List.length_map]
            refine Nat.le_trans (ih _ (by omega)) (Nat.pow_le_pow_right h0 ?_)
            have : (i + 1 - (wl ws c).toNat) / m ≤ (i + 1 - m) / m := Nat.div_le_div_right (by omega)
            have e : (i + 1) / m = (i + 1 - m) / m + 1 := by
              conv => lhs; rw [show i + 1 = (i + 1 - m) + m by omega, Nat.add_div_right _ hm]
            omega
          · exact Nat.zero_le _
        · have e : (i + 1) / m = ((i + 1) / m - 1) + 1 := by
            have : 0 < (i + 1) / m := Nat.div_pos hi hm
            omega
          rw [hl]
          conv => rhs; rw [e, Nat.pow_succ, Nat.mul_comm]
          exact Nat.le_refl _
      · refine Nat.le_trans (sum_le _ 0 _ fun c hc => ?_) (by simp)
        have hp := wl_pos s hc
        have hq := hw _ hp.2
        rw [if_neg (by omega)]; exact Nat.le_refl _
/-! ### rings of the law -/
def ringF (ws : List Int) (k : Int) (w : Wd) : List Wd := ((LET.take ws.length).filter fun c => decide (wt ws (w ++ [c]) ≤ k)).map fun c => w ++ [c]
def ringW (ws : List Int) (k : Int) : Nat → List Wd
  | 0 => [[]]
  | t + 1 => (ringW ws k t).flatMap (ringF ws k)
def foundW (ws : List Int) (k : Int) : Nat → List Wd
  | 0 => []
  | t + 1 => foundW ws k t ++ (ringW ws k t).filter fun w => decide (wt ws w = k)
theorem ringW_mem {ws : List Int} (s : Pos ws) (k : Nat) : ∀ (t : Nat) (x : Wd), x ∈ ringW ws k t ↔ x.length = t ∧ (∀ c ∈ x, c ∈ LET.take ws.length) ∧ wt ws x ≤ k
  | 0, x => by
    show x ∈ [[]] ↔ _
    rw [List.mem_singleton]
    constructor
    · rintro rfl; exact ⟨rfl, by simp, by rw [wt_nil]; omega⟩
    · exact fun h => List.length_eq_zero_iff.mp h.1
  | t + 1, x => by
    rw [ringW, List.mem_flatMap]
    constructor
    · rintro ⟨y, hy, hx⟩
      obtain ⟨h1, h2, h3⟩ := (ringW_mem s k t y).mp hy
      obtain ⟨c, hc, rfl⟩ := List.mem_map.mp hx
      obtain ⟨hc, hk⟩ := List.mem_filter.mp hc
      refine ⟨by simp [h1], fun d hd => ?_, of_decide_eq_true hk⟩
      rcases List.mem_append.mp hd with hd | hd
      · exact h2 d hd
      · rw [List.mem_singleton.mp hd]; exact hc
    · rintro ⟨h1, h2, h3⟩
      rcases List.eq_nil_or_concat x with rfl | ⟨y, c, rfl⟩
      · simp at h1
      · rw [List.concat_eq_append] at h1 h2 h3 ⊢
        have hc : c ∈ LET.take ws.length := h2 c (by simp)
        have hy : ∀ d ∈ y, d ∈ LET.take ws.length := fun d hd => h2 d (by simp [hd])
        have hp := wl_pos s hc
        refine ⟨y, (ringW_mem s k t y).mpr ⟨by simpa using h1, hy, ?_⟩, List.mem_map.mpr ⟨c, List.mem_filter.mpr ⟨hc, decide_eq_true h3⟩, rfl⟩⟩
        rw [wt_app, wt_one] at h3; omega
theorem ringW_nodup {ws : List Int} (k : Int) : ∀ t, (ringW ws k t).Nodup
  | 0 => by show ([[]] : List Wd).Nodup; simp
  | t + 1 => by
    rw [ringW]
    refine List.pairwise_flatMap.mpr ⟨fun w _ => ?_, ?_⟩
    · refine List.pairwise_map.mpr (((let_nodup ws.length).filter _).imp fun hab e => hab ?_)
      simpa using e
    · refine (ringW_nodup k t).imp fun {a b} hab x hx y hy e => ?_
      subst e
      obtain ⟨u, _, rfl⟩ := List.mem_map.mp hx
      obtain ⟨v, _, e⟩ := List.mem_map.mp hy
      exact hab (List.append_inj' e rfl).1.symm
theorem foundW_mem {ws : List Int} (s : Pos ws) (k : Nat) : ∀ (t : Nat) (x : Wd), x ∈ foundW ws k t ↔ x.length < t ∧ (∀ c ∈ x, c ∈ LET.take ws.length) ∧ wt ws x = k
  | 0, x => by simp [foundW]
  | t + 1, x => by
    rw [foundW, List.mem_append, foundW_mem s k t x, List.mem_filter, ringW_mem s k t x]
    simp only [decide_eq_true_eq]
    constructor
    · rintro (⟨h1, h2, h3⟩ | ⟨⟨h1, h2, h3⟩, h4⟩)
      · exact ⟨by omega, h2, h3⟩
      · exact ⟨by omega, h2, h4⟩
    · rintro ⟨h1, h2, h3⟩
      by_cases e : x.length < t
      · exact .inl ⟨e, h2, h3⟩
      · exact .inr ⟨⟨by omega, h2, by omega⟩, h3⟩
theorem foundW_nodup {ws : List Int} (s : Pos ws) (k : Nat) : ∀ t, (foundW ws k t).Nodup
  | 0 => List.nodup_nil
  | t + 1 => by
    rw [foundW]
    refine List.nodup_append.mpr ⟨foundW_nodup s k t, (ringW_nodup _ t).filter _, fun a ha b hb e => ?_⟩
    subst e
    have h1 := ((foundW_mem s k t a).mp ha).1
    have h2 := ((ringW_mem s k t a).mp (List.mem_filter.mp hb).1).1
    omega
theorem found_row {ws : List Int} (s : Pos ws) (k : Nat) : (foundW ws k (k + 1)).Perm (rowW ws k) := by
  refine (List.perm_ext_iff_of_nodup (foundW_nodup s k _) (rowW_nodup s k)).mpr fun x => ?_
  rw [foundW_mem s, rowW_mem s]
  constructor
  · exact fun h => h.2
  · rintro ⟨h1, h2⟩
    have := wt_ge s h1
    exact ⟨by omega, h1, h2⟩
theorem ringF_len {ws : List Int} (s : Pos ws) (k : Int) (w : Wd) : (ringF ws k w).length ≤ 6 := by
  unfold ringF
  rw [List.length_map]
  refine Nat.le_trans (List.length_filter_le _ _) ?_
  rw [List.length_take]
  exact Nat.le_trans (Nat.min_le_right _ _) (by decide)
theorem ringW_len {ws : List Int} (s : Pos ws) (k : Int) : ∀ t, (ringW ws k t).length ≤ 6 ^ t
  | 0 => by show 1 ≤ _; simp
  | t + 1 => by
    rw [ringW, List.length_flatMap, Nat.pow_succ]
    exact Nat.le_trans (sum_le _ 6 _ fun w _ => ringF_len s k w) (Nat.mul_le_mul_right _ (ringW_len s k t))
theorem foundW_len {ws : List Int} (s : Pos ws) (k : Int) : ∀ t, 5 * (foundW ws k t).length + 1 ≤ 6 ^ t
  | 0 => by simp [foundW]
  | t + 1 => by
    have h1 := foundW_len s k t
    have h2 := ringW_len s k t
    have h3 := List.length_filter_le (fun w => decide (wt ws w = k)) (ringW ws k t)
    rw [foundW, List.length_append, Nat.pow_succ]; omega
/-! ### less -/
theorem lt_pre (z x y : Wd) : z ++ x < z ++ y ↔ x < y := by
  induction z with
  | nil => exact Iff.rfl
  | cons c z ih => rw [List.cons_append, List.cons_append, List.cons_lt_cons_iff, ih]; simp
theorem less_pre (ws : List Int) (z x y : Wd) : lessK ws (z ++ x) (z ++ y) = lessK ws x y := by
  unfold lessK
  rw [wt_app, wt_app]
  congr 1
  · exact decide_eq_decide.mpr (by omega)
  · congr 1
    · exact decide_eq_decide.mpr (by omega)
    · exact decide_eq_decide.mpr (lt_pre z x y)
theorem wt_cons (ws : List Int) (c : Nat) (x : Wd) : wt ws (c :: x) = wl ws c + wt ws x := by rw [← wt_one, ← wt_app]; rfl
theorem lt_suf {ws : List Int} (s : Pos ws) (z : Wd) : ∀ {x y : Wd}, (∀ c ∈ x, c ∈ LET.take ws.length) → (∀ c ∈ y, c ∈ LET.take ws.length) → wt ws x = wt ws y → (x ++ z < y ++ z ↔ x < y)
  | [], [], _, _, _ => by simp
  | [], c :: y, _, hy, e => by
    have := wt_ge s hy
    rw [← e, wt_nil, List.length_cons] at this; omega
  | c :: x, [], hx, _, e => by
    have := wt_ge s hx
    rw [e, wt_nil, List.length_cons] at this; omega
  | c :: x, d :: y, hx, hy, e => by
    rw [List.cons_append, List.cons_append, List.cons_lt_cons_iff, List.cons_lt_cons_iff]
    by_cases h : c = d
    · subst h
      rw [wt_cons, wt_cons] at e
      rw [lt_suf s z (fun c hc => hx c (List.mem_cons_of_mem _ hc)) (fun c hc => hy c (List.mem_cons_of_mem _ hc)) (by omega)]
    · simp [h]
theorem less_suf {ws : List Int} (s : Pos ws) (z : Wd) {x y : Wd} (hx : ∀ c ∈ x, c ∈ LET.take ws.length) (hy : ∀ c ∈ y, c ∈ LET.take ws.length) : lessK ws (x ++ z) (y ++ z) = lessK ws x y := by
  unfold lessK
  rw [wt_app, wt_app]
  congr 1
  · exact decide_eq_decide.mpr (by omega)
  · by_cases e : wt ws x = wt ws y
    · rw [decide_eq_true (show wt ws x + wt ws z = wt ws y + wt ws z by omega), decide_eq_true e]
      exact decide_eq_decide.mpr (lt_suf s z hx hy e)
    · rw [decide_eq_false (show ¬ wt ws x + wt ws z = wt ws y + wt ws z by omega), decide_eq_false e]; rfl
theorem less_self (ws : List Int) (x : Wd) : lessK ws x x = false := by
  unfold lessK
  simp [List.lt_irrefl]
/-! ### the walk -/
def rowD (r : List Wd) : Dt := .lst (r.map .str)
theorem zipD_let {ws : List Int} (h : ws.length ≤ 6) : zipD ((LET.take ws.length).map fun c => .str [c]) (ws.map .int) = (LET.take ws.length).map fun c => .tup [.str [c], .int (wl ws c)] := by
  match ws, h with
  | [], _ => rfl
  | [_], _ => rfl
  | [_, _], _ => rfl
  | [_, _, _], _ => rfl
  | [_, _, _, _], _ => rfl
  | [_, _, _, _, _], _ => rfl
  | [_, _, _, _, _, _], _ => rfl
  | _ :: _ :: _ :: _ :: _ :: _ :: _ :: _, h => simp at h
def rowF (ws : List Int) (i : Nat) (c : Nat) : List Wd := if wl ws c ≤ (i : Int) + 1 then (rowW ws (i + 1 - (wl ws c).toNat)).map (· ++ [c]) else []
theorem atI_row {ws : List Int} {k j : Nat} {x : Int} (e : x = (j : Int)) (h : j ≤ k) : atI ((rowsL ws k).map rowD) x = some (rowD (rowW ws j)) := by
  subst e
  rw [atI_ofNat, List.getElem?_map]
  have hl : j < (rowsL ws k).length := by rw [rowsL_len]; omega
  rw [← rowsL_at ws h, List.getD_eq_getElem?_getD, List.getElem?_eq_getElem hl]; rfl
theorem rowW_wrd {ws : List Int} (s : Pos ws) {j : Nat} (hj : j ≤ 100000) {x : Wd} (h : x ∈ rowW ws j) : Wrd ws.length x ∧ x.length ≤ j := by
  obtain ⟨h1, h2⟩ := (rowW_mem s j x).mp h
  have := wt_ge s h1
  exact ⟨⟨by omega, h1⟩, by omega⟩
def mW (f : Wd → Wd) : Dt → Dt
  | .str x => .str (f x)
  | d => d
theorem c_rows {p : Int} {ws : List Int} (s : Stg p ws) (k : Nat) (hk : k ≤ 1000) (hB : ∀ j, j ≤ k → (rowW ws j).length ≤ 1000000) : s_words_by [SET p ws, .int k] = .ret (.new (.l ((sortW (rowW ws k)).map .str))) := by
  refine wF_eq ?_
  unfold s_words_by
  rw [wF_sem]
  unfold m_words_by
  simp only [startE_, startR_, List.map_cons, List.map_nil, List.length_cons, List.length_nil, List.replicate, Nat.reduceSub, Nat.reduceAdd, List.cons_append, List.nil_append]
  (repeat (first | simp [sizeLine_eq] | (with_reducible refine wG_mk ?_ ?_; (first | with_reducible assumption | omega | with_reducible exact inB62_ _ (by omega) | with_reducible exact mulOk_ _ _ (by omega) | with_reducible decide))))
  with_reducible refine wS_for (fun ds e => ∃ (i : Nat) (s3 s4 s5 s6 s7 : Sl), i ≤ k ∧ ds = rangeD ((i + 1 : Nat) : Int) ((k + 1 : Nat) : Int) ∧ e = [.val (SET p ws), .val (.int k), .own (.l ((rowsL ws i).map rowD)), s3, s4, s5, s6, s7]) ⟨0, _, _, _, _, _, by omega, by simp, rfl⟩ ?_ ?_
  · rintro e ⟨i, s3, s4, s5, s6, s7, hi, hd, rfl⟩
    have e1 : i = k := by
      by_cases h : i < k
      · rw [rangeD_cons (by omega)] at hd; cases hd
      · omega
    subst e1
    have q := atI_row (ws := ws) (k := i) (j := i) rfl (Nat.le_refl _)
    have q2 := sortB_str (rowW ws i) (by have := hB i (Nat.le_refl _); omega)
    (repeat (first | simp [sizeLine_eq, q, rowD, q2, sortD_str] | (with_reducible refine wG_mk ?_ ?_; (first | with_reducible assumption | omega | with_reducible exact inB62_ _ (by omega) | with_reducible exact mulOk_ _ _ (by omega) | with_reducible decide))))
  · rintro d ds e ⟨i, s3, s4, s5, s6, s7, hi, hd, rfl⟩
    have hik : i < k := by
      by_cases h : i < k
      · exact h
      · rw [rangeD_nil (by omega)] at hd; cases hd
    rw [rangeD_cons (by omega)] at hd
    injection hd with h1 h2
    subst h1
    have hB1 := hB (i + 1) hik
    rw [rowW_succ s.q] at hB1
    have ql := s_letters p ws s.six
    have qz := zipD_let s.six
    rw [List.map_take] at qz
    have qs : SET p ws = .tup [.int p, .tup (ws.map .int)] := rfl
    rw [qs] at ql
    (repeat (first | simp [sizeLine_eq, ql, qz, SET] | (with_reducible refine wG_mk ?_ ?_; (first | with_reducible assumption | omega | with_reducible exact inB62_ _ (by omega) | with_reducible exact mulOk_ _ _ (by omega) | with_reducible decide))))
    with_reducible refine wS_for (fun ds2 e => ∃ (pre post : List Nat) (s5 s6 s7 : Sl), LET.take ws.length = pre ++ post ∧ ds2 = post.map (fun c => Dt.tup [.str [c], .int (wl ws c)]) ∧ e = [.val (SET p ws), .val (.int k), .own (.l ((rowsL ws i).map rowD)), .val (.int ((i : Int) + 1)), .own (.l ((pre.flatMap (rowF ws i)).map .str)), s5, s6, s7]) ⟨[], LET.take ws.length, s5, s6, s7, rfl, by rw [List.map_take], rfl⟩ ?_ ?_
    · rintro e ⟨pre, post, t5, t6, t7, he, hp, rfl⟩
      have hp' : post = [] := by cases post with | nil => rfl | cons _ _ => cases hp
      subst hp'
      rw [List.append_nil] at he
      have hl : (rowsL ws i).length < 16777216 := by rw [rowsL_len]; omega
      (repeat (first | simp [sizeLine_eq, hl] | (with_reducible refine wG_mk ?_ ?_; (first | with_reducible assumption | omega | with_reducible exact inB62_ _ (by omega) | with_reducible exact mulOk_ _ _ (by omega) | with_reducible decide))))
      refine hold ⟨i + 1, .val (.int ((i : Int) + 1)), .val (rowD (pre.flatMap (rowF ws i))), t5, t6, t7, hik, by simpa using h2, ?_⟩
      have e2 : rowsL ws (i + 1) = rowsL ws i ++ [pre.flatMap (rowF ws i)] := by
        have := rowW_succ s.q i
        unfold rowW at this
        rw [rowsL, getD_r _ _ _ _ (by rw [rowsL_len])] at this
        rw [rowsL, this, he]; rfl
      rw [e2, List.map_append]; rfl
    · rintro d2 ds2 e ⟨pre, post, t5, t6, t7, he, hp, rfl⟩
      cases post with
      | nil => cases hp
      | cons c post =>
        rw [List.map_cons] at hp
        injection hp with hp1 hp2
        subst hp1
        have hc : c ∈ LET.take ws.length := by rw [he]; simp
        have hpos := wl_pos s.q hc
        have hlen : (pre.flatMap (rowF ws i)).length + (rowF ws i c).length ≤ 1000000 := by
          refine Nat.le_trans ?_ hB1
          rw [he, show (fun c => if wl ws c ≤ (i : Int) + 1 then (rowW ws (i + 1 - (wl ws c).toNat)).map (· ++ [c]) else []) = rowF ws i from rfl, List.flatMap_append, List.flatMap_cons, List.length_append, List.length_append]
          omega
        (repeat (first | simp [sizeLine_eq] | (with_reducible refine wG_mk ?_ ?_; (first | with_reducible assumption | omega | with_reducible exact inB62_ _ (by omega) | with_reducible exact mulOk_ _ _ (by omega) | with_reducible decide))))
        refine wI_mk (fun h3 => ?_) (fun h3 => ?_)
        · have h4 := of_decide_eq_true h3
          have q := atI_row (ws := ws) (k := i) (j := i + 1 - (wl ws c).toNat) (x := (i : Int) + 1 - wl ws c) (by omega) (by omega)
          have hf : rowF ws i c = (rowW ws (i + 1 - (wl ws c).toNat)).map (· ++ [c]) := if_pos h4
          (repeat (first | simp [sizeLine_eq, q, rowD] | (with_reducible refine wG_mk ?_ ?_; (first | with_reducible assumption | omega | with_reducible exact inB62_ _ (by omega) | with_reducible exact mulOk_ _ _ (by omega) | with_reducible decide))))
          refine wE_compM (mW (· ++ [c])) (by rw [sizeLine_eq, List.length_map]; have := hB (i + 1 - (wl ws c).toNat) (by omega); omega) ?_ ?_
          · have e3 : List.map (mW (· ++ [c])) ((rowW ws (i + 1 - (wl ws c).toNat)).map Dt.str) = (rowF ws i c).map .str := by
              rw [hf, List.map_map, List.map_map]; rfl
            rw [e3]
            have hl2 : ((pre.flatMap (rowF ws i)).map Dt.str).length + ((rowF ws i c).map Dt.str).length ≤ 16777216 := by rw [List.length_map, List.length_map]; omega
            have hl3 : (pre.map fun a => (rowF ws i a).length).sum + (rowF ws i c).length ≤ 16777216 := by rw [← List.length_flatMap]; omega
            (repeat (first | simp [sizeLine_eq] | (with_reducible refine wG_mk ?_ ?_; (first | with_reducible assumption | omega | with_reducible exact inB62_ _ (by omega) | with_reducible exact mulOk_ _ _ (by omega) | with_reducible decide))))
            refine hold ⟨pre ++ [c], post, .val (.str [c]), .val (.int (wl ws c)), t7, by rw [he]; simp, hp2, ?_⟩
            rw [List.flatMap_append, List.map_append]
            simp [SET]
          · intro d3 hd3
            obtain ⟨y, hy, rfl⟩ := List.mem_map.mp hd3
            have hy2 := (rowW_wrd s.q (by omega) hy).2
            have hy3 : y.length + 1 ≤ 16777216 := by omega
            (repeat (first | simp [sizeLine_eq, hy3, mW, wipeE] | (with_reducible refine wG_mk ?_ ?_; (first | with_reducible assumption | omega | with_reducible exact inB62_ _ (by omega) | with_reducible exact mulOk_ _ _ (by omega) | with_reducible decide))))
        · have h4 := of_decide_eq_false h3
          have hf : rowF ws i c = [] := if_neg h4
          (repeat (first | simp [sizeLine_eq] | (with_reducible refine wG_mk ?_ ?_; (first | with_reducible assumption | omega | with_reducible exact inB62_ _ (by omega) | with_reducible exact mulOk_ _ _ (by omega) | with_reducible decide))))
          refine hold ⟨pre ++ [c], post, .val (.str [c]), .val (.int (wl ws c)), t7, by rw [he]; simp, hp2, ?_⟩
          rw [List.flatMap_append, List.map_append]
          simp [hf, SET]
theorem c_words {p : Int} {ws : List Int} (s : Stg p ws) (k : Nat) (hk : k ≤ 1000) (hB : ∀ j, j ≤ k → (rowW ws j).length ≤ 1000000) : s_words_of [SET p ws, .int k] = .ret (.dat (.tup ((sortW (rowW ws k)).map .str))) := by
  refine wF_eq ?_
  unfold s_words_of
  rw [wF_sem]
  unfold m_words_of
  simp only [startE_, startR_, List.map_cons, List.map_nil, List.length_cons, List.length_nil, List.replicate, Nat.reduceSub, Nat.reduceAdd, List.cons_append, List.nil_append]
  (repeat (first | simp [sizeLine_eq, c_set s, s_chkint (.int k) rfl 0, show (0 : Int) ≤ k by omega, c_rows s k hk hB] | (with_reducible refine wG_mk ?_ ?_; (first | with_reducible assumption | omega | with_reducible exact inB62_ _ (by omega) | with_reducible exact mulOk_ _ _ (by omega) | with_reducible decide))))
def plc (x y : Wd) (i : Int) : Bool := decide ((y.drop i.toNat).take x.length = x)
def plcs (x y : Wd) : List Dt := (rangeD 0 y.length).filter (pI (plc x y))
theorem pI_sm {x : Wd} (h : x.all (fun c => decide (c < 1114112)) = true) (i n : Nat) : ((x.drop i).take n).all (fun c => decide (c < 1114112)) = true :=
  List.all_eq_true.mpr fun c hc => List.all_eq_true.mp h c (List.mem_of_mem_drop (List.mem_of_mem_take hc))
theorem rangeD_nat {n : Int} {d : Dt} (h : d ∈ rangeD 0 n) : ∃ k : Nat, (k : Int) < n ∧ d = .int k := by
  unfold rangeD at h
  obtain ⟨k, hk, e⟩ := List.mem_map.mp h
  have := List.mem_range.mp hk
  exact ⟨k, by omega, by rw [← e]; simp⟩
theorem rangeD_nat1 {n : Int} {d : Dt} (h : d ∈ rangeD 1 n) : ∃ k : Nat, 1 ≤ k ∧ (k : Int) < n ∧ d = .int k := by
  unfold rangeD at h
  obtain ⟨k, hk, e⟩ := List.mem_map.mp h
  have := List.mem_range.mp hk
  exact ⟨k + 1, by omega, by omega, by rw [← e]; congr 1; omega⟩
theorem len_rangeD (a b : Int) : (rangeD a b).length = (b - a).toNat := by simp [rangeD]
theorem c_plin {x y : Wd} (hx : x.length ≤ 100000) (hy : y.length ≤ 100000) (hxs : x.all (fun c => decide (c < 1114112)) = true) (hys : y.all (fun c => decide (c < 1114112)) = true) : s_places_in [.str x, .str y] = .ret (.new (.l ((rangeD 0 ((y.length : Int) - x.length + 1)).filter (pI (plc x y))))) := by
  refine wF_eq ?_
  unfold s_places_in
  rw [wF_sem]
  unfold m_places_in
  simp only [startE_, startR_, List.map_cons, List.map_nil, List.length_cons, List.length_nil, List.replicate, Nat.reduceSub, Nat.reduceAdd, List.cons_append, List.nil_append]
  have l1 : x.length ≤ 16777216 := by omega
  have l2 : y.length ≤ 16777216 := by omega
  (repeat (first | simp [sizeLine_eq, l1, l2] | (with_reducible refine wG_mk ?_ ?_; (first | with_reducible assumption | omega | with_reducible exact inB62_ _ (by omega) | with_reducible exact mulOk_ _ _ (by omega) | with_reducible decide))))
  refine wE_compF (pI (plc x y)) id (by rw [len_rangeD, sizeLine_eq]; omega) ?_ ?_
  · rw [List.map_id]
    (repeat (first | simp [sizeLine_eq] | (with_reducible refine wG_mk ?_ ?_; (first | with_reducible assumption | omega | with_reducible exact inB62_ _ (by omega) | with_reducible exact mulOk_ _ _ (by omega) | with_reducible decide))))
  · intro d hd
    obtain ⟨k, hk, rfl⟩ := rangeD_nat hd
    have e1 := cutL_mid y k (k + x.length)
    rw [Nat.add_sub_cancel_left, show ((k + x.length : Nat) : Int) = (k : Int) + x.length by omega] at e1
    have q := fEq_of (n := 1) (m := 1) (a := .str ((y.drop k).take x.length)) (b := .str x) (by rw [gd_str]; exact pI_sm hys _ _) (by rw [gd_str]; exact hxs) (by omega) (by omega)
    rw [eqD_str] at q
    (repeat (first | simp [sizeLine_eq, l1, l2, fSl_str, e1, q] | (with_reducible refine wG_mk ?_ ?_; (first | with_reducible assumption | omega | with_reducible exact inB62_ _ (by omega) | with_reducible exact mulOk_ _ _ (by omega) | with_reducible decide))))
    refine ⟨by simp [pI, plc], ?_⟩
    refine wI_mk (fun _ => ?_) (fun _ => ?_)
    · (repeat (first | simp [sizeLine_eq, wipeE] | (with_reducible refine wG_mk ?_ ?_; (first | with_reducible assumption | omega | with_reducible exact inB62_ _ (by omega) | with_reducible exact mulOk_ _ _ (by omega) | with_reducible decide))))
    · (repeat (first | simp [sizeLine_eq, wipeE] | (with_reducible refine wG_mk ?_ ?_; (first | with_reducible assumption | omega | with_reducible exact inB62_ _ (by omega) | with_reducible exact mulOk_ _ _ (by omega) | with_reducible decide))))
theorem plc_all {x y : Wd} (hx : x ≠ []) : (rangeD 0 ((y.length : Int) - x.length + 1)).filter (pI (plc x y)) = plcs x y := by
  unfold plcs rangeD
  have hx0 : 0 < x.length := by cases x with | nil => exact absurd rfl hx | cons _ _ => simp
  have e : ((y.length : Int) - 0).toNat = ((y.length : Int) - x.length + 1 - 0).toNat + (y.length - ((y.length : Int) - x.length + 1).toNat) := by omega
  rw [e, List.range_add, List.map_append, List.filter_append]
  rw [show List.filter (pI (plc x y)) (List.map (fun k : Nat => Dt.int (0 + (k : Int))) (List.map (fun x_1 => ((y.length : Int) - x.length + 1 - 0).toNat + x_1) (List.range (y.length - ((y.length : Int) - x.length + 1).toNat)))) = [] from ?_, List.append_nil]
  refine List.filter_eq_nil_iff.mpr fun d hd => ?_
  rw [List.map_map] at hd
  obtain ⟨j, hj, rfl⟩ := List.mem_map.mp hd
  have hj2 := List.mem_range.mp hj
  simp only [Function.comp, pI, plc, decide_eq_true_eq]
  intro h
  have := congrArg List.length h
  rw [List.length_take, List.length_drop] at this
  omega
theorem c_places {p : Int} {ws : List Int} (s : Stg p ws) {x y : Wd} (w : Wrd ws.length x) (w2 : Wrd ws.length y) (hx : x ≠ []) : s_places [SET p ws, .str x, .str y] = .ret (.dat (.tup (plcs x y))) := by
  refine wF_eq ?_
  unfold s_places
  rw [wF_sem]
  unfold m_places
  simp only [startE_, startR_, List.map_cons, List.map_nil, List.length_cons, List.length_nil, List.replicate, Nat.reduceSub, Nat.reduceAdd, List.cons_append, List.nil_append]
  have q := fEq_of (n := 1) (m := 1) (a := .str x) (b := .str []) w.g (by simp) (by omega) (by omega)
  rw [eqD_str] at q
  (repeat (first | simp [sizeLine_eq, c_set s, c_wd s w, c_wd s w2, q, hx, c_plin w.len w2.len w.sm w2.sm, plc_all hx] | (with_reducible refine wG_mk ?_ ?_; (first | with_reducible assumption | omega | with_reducible exact inB62_ _ (by omega) | with_reducible exact mulOk_ _ _ (by omega) | with_reducible decide))))
def ovl (x y : Wd) (k : Int) : Bool := decide (x.drop (x.length - k.toNat) = y.take k.toNat)
def ovls (x y : Wd) : List Dt := (rangeD 1 (if (y.length : Int) < x.length then y.length else x.length)).filter (pI (ovl x y))
theorem sm_take {x : Wd} (h : x.all (fun c => decide (c < 1114112)) = true) (n : Nat) : (x.take n).all (fun c => decide (c < 1114112)) = true := by
  have := pI_sm h 0 n; rwa [List.drop_zero] at this
theorem sm_drop {x : Wd} (h : x.all (fun c => decide (c < 1114112)) = true) (n : Nat) : (x.drop n).all (fun c => decide (c < 1114112)) = true :=
  List.all_eq_true.mpr fun c hc => List.all_eq_true.mp h c (List.mem_of_mem_drop hc)
theorem c_ovin {x y : Wd} (hx : x.length ≤ 100000) (hy : y.length ≤ 100000) (hxs : x.all (fun c => decide (c < 1114112)) = true) (hys : y.all (fun c => decide (c < 1114112)) = true) : s_overlaps_of [.str x, .str y] = .ret (.new (.l (ovls x y))) := by
  refine wF_eq ?_
  unfold s_overlaps_of
  rw [wF_sem]
  unfold m_overlaps_of
  simp only [startE_, startR_, List.map_cons, List.map_nil, List.length_cons, List.length_nil, List.replicate, Nat.reduceSub, Nat.reduceAdd, List.cons_append, List.nil_append]
  have l1 : x.length ≤ 16777216 := by omega
  have l2 : y.length ≤ 16777216 := by omega
  (repeat (first | simp [sizeLine_eq, l1, l2] | (with_reducible refine wG_mk ?_ ?_; (first | with_reducible assumption | omega | with_reducible exact inB62_ _ (by omega) | with_reducible exact mulOk_ _ _ (by omega) | with_reducible decide))))
  refine wE_compF (pI (ovl x y)) id (by rw [len_rangeD, sizeLine_eq]; split <;> omega) ?_ ?_
  · rw [List.map_id]
    (repeat (first | simp [sizeLine_eq, ovls] | (with_reducible refine wG_mk ?_ ?_; (first | with_reducible assumption | omega | with_reducible exact inB62_ _ (by omega) | with_reducible exact mulOk_ _ _ (by omega) | with_reducible decide))))
  · intro d hd
    obtain ⟨k, hk1, hk, rfl⟩ := rangeD_nat1 hd
    have hk2 : k ≤ x.length := by split at hk <;> omega
    have e1 := cutL_from x (x.length - k)
    rw [show ((x.length - k : Nat) : Int) = (x.length : Int) - k by omega] at e1
    have e2 := cutL_to y k
    have q := fEq_of (n := 1) (m := 1) (a := .str (x.drop (x.length - k))) (b := .str (y.take k)) (by rw [gd_str]; exact sm_drop hxs _) (by rw [gd_str]; exact sm_take hys _) (by omega) (by omega)
    rw [eqD_str] at q
    (repeat (first | simp [sizeLine_eq, l1, l2, fSl_str, e1, e2, q] | (with_reducible refine wG_mk ?_ ?_; (first | with_reducible assumption | omega | with_reducible exact inB62_ _ (by omega) | with_reducible exact mulOk_ _ _ (by omega) | with_reducible decide))))
    refine ⟨by simp [pI, ovl], ?_⟩
    refine wI_mk (fun _ => ?_) (fun _ => ?_)
    · (repeat (first | simp [sizeLine_eq, wipeE] | (with_reducible refine wG_mk ?_ ?_; (first | with_reducible assumption | omega | with_reducible exact inB62_ _ (by omega) | with_reducible exact mulOk_ _ _ (by omega) | with_reducible decide))))
    · (repeat (first | simp [sizeLine_eq, wipeE] | (with_reducible refine wG_mk ?_ ?_; (first | with_reducible assumption | omega | with_reducible exact inB62_ _ (by omega) | with_reducible exact mulOk_ _ _ (by omega) | with_reducible decide))))
theorem c_overlaps {p : Int} {ws : List Int} (s : Stg p ws) {x y : Wd} (w : Wrd ws.length x) (w2 : Wrd ws.length y) : s_overlaps [SET p ws, .str x, .str y] = .ret (.dat (.tup (ovls x y))) := by
  refine wF_eq ?_
  unfold s_overlaps
  rw [wF_sem]
  unfold m_overlaps
  simp only [startE_, startR_, List.map_cons, List.map_nil, List.length_cons, List.length_nil, List.replicate, Nat.reduceSub, Nat.reduceAdd, List.cons_append, List.nil_append]
  (repeat (first | simp [sizeLine_eq, c_two s w w2, c_ovin w.len w2.len w.sm w2.sm] | (with_reducible refine wG_mk ?_ ?_; (first | with_reducible assumption | omega | with_reducible exact inB62_ _ (by omega) | with_reducible exact mulOk_ _ _ (by omega) | with_reducible decide))))

end Fw

namespace Fw
open PySem PySem.Spec PyProof.Rows L2
noncomputable section
def xNames : List Str := ["OverlapsError", "InvalidInteger", "InvalidSetting", "InvalidWord"]
def m__law_weight : MS :=
  (sRet 0 (eCB fSum (eCons (eComp (iSeq (eVar 1)) (gNm 2) cYes (eBin fIx (eBin fIx (eVar 0) (eDat (.int 1))) (eM1 fIndex (eDat (.str [97, 98, 99, 100, 101, 102])) (eVar 2))) [2]) eNil)))
def s__law_weight : FS := semF 3 m__law_weight
def m__law_all : MS :=
  (sSeq (sPar2 2 3 (eLst vNil) (eLst (vCons (eDat (.str [])) vNil))) (sSeq (sFor (iRange1 (eBin fAdd (eVar 1) (eDat (.int 1)))) (gNm 4) (sSeq (sSet 2 (eBin fAdd (eVar 2) (eComp (iSeq (eVar 3)) (gNm 5) (cBl (eBin fEq (eCall 2 s__law_weight (vCons (eVar 0) (vCons (eVar 5) vNil))) (eVar 1))) (eVar 5) [5]))) (sSeq (sSet 6 (eLst vNil)) (sSeq (sFor (iSeq (eVar 3)) (gNm 5) (sSet 6 (eBin fAdd (eVar 6) (eComp (iSeq (eSlice (eDat (.str [97, 98, 99, 100, 101, 102])) oNone (oSome (eCB fLen (eCons (eBin fIx (eVar 0) (eDat (.int 1))) eNil))))) (gNm 7) (cBl (eBin fLe (eCall 2 s__law_weight (vCons (eVar 0) (vCons (eBin fAdd (eVar 5) (eVar 7)) vNil))) (eVar 1))) (eBin fAdd (eVar 5) (eVar 7)) [7])))) (sSet 3 (eVar 6)))))) (sRet 0 (eCB fTuple (eCons (eUn fSortSet (eVar 2)) eNil)))))
def s__law_all : FS := semF 8 m__law_all
def m__law_word : MS :=
  (sRet 1 (eM1 fJoin (eDat (.str [])) (eComp (iRange1 (eCallR 2 s__law_take 0 (vCons (eBin fAdd (eVar 2) (eDat (.int 1))) vNil))) (gNm 3) cYes (eBin fIx (eDat (.str [97, 98, 99, 100, 101, 102])) (eCallR 2 s__law_take 0 (vCons (eCB fLen (eCons (eBin fIx (eVar 1) (eDat (.int 1))) eNil)) vNil))) [3])))
def s__law_word : FSR := semR 4 m__law_word
def m_law : MS :=
  (sSeq (sSet 1 (eBin fAdd (eLst (vCons (eDat (.int 0)) (vCons (eDat (.int 19)) (vCons (eDat (.int 3)) vNil)))) (eScr 0))) (sSeq (sFor (iRange1 (eDat (.int 4))) (gNm 2) (sSeq (sPar2 3 4 (eBin fIx (eLst (vCons (eDat (.int 0)) (vCons (eDat (.int 2)) (vCons (eDat (.int 97)) vNil)))) (eCallR 2 s__law_take 1 (vCons (eDat (.int 3)) vNil))) (eBin fAdd (eDat (.int 1)) (eCallR 2 s__law_take 1 (vCons (eDat (.int 6)) vNil)))) (sSeq (sSet 5 (eTup (vCons (eVar 3) (vCons (eCB fTuple (eCons (eComp (iRange1 (eVar 4)) (gNm 6) cYes (eBin fAdd (eDat (.int 1)) (eCallR 2 s__law_take 1 (vCons (eDat (.int 9)) vNil))) [6]) eNil)) vNil)))) (sSeq (sPar3 7 8 9 (eCallR 3 s__law_word 1 (vCons (eVar 5) (vCons (eDat (.int 8)) vNil))) (eCallR 3 s__law_word 1 (vCons (eVar 5) (vCons (eDat (.int 8)) vNil))) (eCallR 3 s__law_word 1 (vCons (eVar 5) (vCons (eDat (.int 3)) vNil)))) (sSeq (sIf (cBl (eBin fEq (eCallR 2 s__law_take 1 (vCons (eDat (.int 3)) vNil)) (eDat (.int 0)))) (sSet 8 (eM1 fJoin (eDat (.str [])) (eCB fSorted (eCons (eVar 7) eNil)))) sSkip) (sSeq (sSet 10 (eBin fLt (eTup (vCons (eCall 2 s__law_weight (vCons (eVar 5) (vCons (eVar 7) vNil))) (vCons (eVar 7) vNil))) (eTup (vCons (eCall 2 s__law_weight (vCons (eVar 5) (vCons (eVar 8) vNil))) (vCons (eVar 8) vNil))))) (sSeq (sSet 11 (eLst (vCons (eCall 2 s_weight (vCons (eVar 5) (vCons (eVar 7) vNil))) (vCons (eCallK 2 2 [1, 0] s_weight (vCons (eVar 7) (vCons (eVar 5) vNil))) (vCons (eCall 3 s_is_less (vCons (eVar 5) (vCons (eVar 7) (vCons (eVar 8) vNil)))) (vCons (eCallK 3 3 [2, 1, 0] s_is_less (vCons (eVar 8) (vCons (eVar 7) (vCons (eVar 5) vNil)))) vNil)))))) (sSeq (sIf (cNot (cTru (eCall 2 (s__law_same 6) (vCons (eVar 11) (vCons (eBin fAdd (eBin fMulX (eLst (vCons (eCall 2 s__law_weight (vCons (eVar 5) (vCons (eVar 7) vNil))) vNil)) (eDat (.int 2))) (eBin fMulX (eLst (vCons (eVar 10) vNil)) (eDat (.int 2)))) vNil))))) (sRet 0 (eDat (.bl false))) sSkip) (sSeq (sIf (cNot (cTru (eCall 2 (s__law_same 6) (vCons (eLst (vCons (eCall 3 s_is_less (vCons (eVar 5) (vCons (eBin fAdd (eVar 9) (eVar 7)) (vCons (eBin fAdd (eVar 9) (eVar 8)) vNil)))) (vCons (eCall 3 s_is_less (vCons (eVar 5) (vCons (eBin fAdd (eVar 7) (eVar 9)) (vCons (eBin fAdd (eVar 8) (eVar 9)) vNil)))) (vCons (eCall 3 s_is_less (vCons (eVar 5) (vCons (eVar 7) (vCons (eVar 7) vNil)))) vNil)))) (vCons (eLst (vCons (eVar 10) (vCons (eVar 10) (vCons (eDat (.bl false)) vNil)))) vNil))))) (sRet 0 (eDat (.bl false))) sSkip) (sSeq (sIf (cBl (eBin fGt (eVar 4) (eDat (.int 3)))) (sSet 5 (eTup (vCons (eVar 3) (vCons (eCB fTuple (eCons (eComp (iSeq (eBin fIx (eVar 5) (eDat (.int 1)))) (gNm 12) cYes (eCB fMin2 (eCons (eBin fAdd (eVar 12) (eDat (.int 2))) (eCons (eDat (.int 9)) eNil))) [12]) eNil)) vNil)))) sSkip) (sSeq (sSet 13 (eCallR 2 s__law_take 1 (vCons (eIf (cBl (eBin fEq (eCB fMinL (eCons (eBin fIx (eVar 5) (eDat (.int 1))) eNil)) (eDat (.int 1)))) (eDat (.int 7)) (eDat (.int 9))) vNil))) (sSeq (sSet 14 (eCall 2 s__law_all (vCons (eVar 5) (vCons (eVar 13) vNil)))) (sSeq (sIf (cNot (cTru (eCall 2 (s__law_same 6) (vCons (eLst (vCons (eCall 2 s_words_of (vCons (eVar 5) (vCons (eVar 13) vNil))) (vCons (eCallK 2 2 [1, 0] s_words_of (vCons (eVar 13) (vCons (eVar 5) vNil))) vNil))) (vCons (eLst (vCons (eVar 14) (vCons (eVar 14) vNil))) vNil))))) (sRet 0 (eDat (.bl false))) sSkip) (sSeq (sIf (cNot (cTru (eCall 2 (s__law_same 6) (vCons (eLst (vCons (eCall 2 s_words_number (vCons (eVar 5) (vCons (eVar 13) vNil))) (vCons (eCallK 2 2 [1, 0] s_words_number (vCons (eVar 13) (vCons (eVar 5) vNil))) vNil))) (vCons (eLst (vCons (eCB fLen (eCons (eVar 14) eNil)) (vCons (eCB fLen (eCons (eVar 14) eNil)) vNil))) vNil))))) (sRet 0 (eDat (.bl false))) sSkip) (sSeq (sSet 15 (eIf (cBl (eBin fNe (eVar 7) (eDat (.str [])))) (eSlice (eVar 7) oNone (oSome (eBin fAdd (eDat (.int 1)) (eCallR 2 s__law_take 1 (vCons (eDat (.int 3)) vNil))))) (eDat (.str [97])))) (sSeq (sSet 16 (eBin fAdd (eBin fAdd (eVar 7) (eVar 8)) (eVar 7))) (sSeq (sSet 14 (eCB fTuple (eCons (eComp (iRange1 (eCB fLen (eCons (eVar 16) eNil))) (gNm 6) (cBl (eBin fEq (eSlice (eVar 16) (oSome (eVar 6)) (oSome (eBin fAdd (eVar 6) (eCB fLen (eCons (eVar 15) eNil))))) (eVar 15))) (eVar 6) [6]) eNil))) (sSeq (sIf (cNot (cTru (eCall 2 (s__law_same 6) (vCons (eLst (vCons (eCall 3 s_places (vCons (eVar 5) (vCons (eVar 15) (vCons (eVar 16) vNil)))) (vCons (eCallK 3 3 [2, 1, 0] s_places (vCons (eVar 16) (vCons (eVar 15) (vCons (eVar 5) vNil)))) vNil))) (vCons (eLst (vCons (eVar 14) (vCons (eVar 14) vNil))) vNil))))) (sRet 0 (eDat (.bl false))) sSkip) (sSeq (sAsg (eTup (vCons (eBin fAdd (eVar 7) (eVar 9)) (vCons (eBin fAdd (eVar 9) (eVar 8)) vNil))) (gTp 2 (gC (gNm 17) (gC (gNm 18) gN0)))) (sSeq (sSet 14 (eCB fTuple (eCons (eComp (iRange2 (eDat (.int 1)) (eCB fMin2 (eCons (eCB fLen (eCons (eVar 17) eNil)) (eCons (eCB fLen (eCons (eVar 18) eNil)) eNil)))) (gNm 13) (cBl (eBin fEq (eSlice (eVar 17) (oSome (eBin fSub (eCB fLen (eCons (eVar 17) eNil)) (eVar 13))) oNone) (eSlice (eVar 18) oNone (oSome (eVar 13))))) (eVar 13) [13]) eNil))) (sSeq (sIf (cNot (cTru (eCall 2 (s__law_same 6) (vCons (eLst (vCons (eCall 3 s_overlaps (vCons (eVar 5) (vCons (eVar 17) (vCons (eVar 18) vNil)))) (vCons (eCallK 3 3 [2, 1, 0] s_overlaps (vCons (eVar 18) (vCons (eVar 17) (vCons (eVar 5) vNil)))) vNil))) (vCons (eLst (vCons (eVar 14) (vCons (eVar 14) vNil))) vNil))))) (sRet 0 (eDat (.bl false))) sSkip) (sSeq (sSet 19 (eBin fIx (eLst (vCons (eDat .non) (vCons (eDat (.int 3)) (vCons (eTup (vCons (eDat (.str [97])) vNil)) (vCons (eBin fAdd (eVar 7) (eDat (.str [65]))) (vCons (eBin fAdd (eVar 7) (eBin fIx (eDat (.str [97, 98, 99, 100, 101, 102, 103])) (eVar 4))) (vCons (eLst (vCons (eDat (.str [97])) vNil)) (vCons (eDat (.bl true)) (vCons (eBin fAdd (eVar 7) (eDat (.str [32]))) (vCons (eDat (.str [49])) vNil)))))))))) (eCallR 2 s__law_take 1 (vCons (eDat (.int 9)) vNil)))) (sIf (cNot (cTru (eCall 2 (s__law_same 6) (vCons (eLst (vCons (eCall 2 s_is_word (vCons (eVar 5) (vCons (eVar 7) vNil))) (vCons (eCallK 2 2 [1, 0] s_is_word (vCons (eVar 8) (vCons (eVar 5) vNil))) (vCons (eCall 2 s_is_word (vCons (eVar 5) (vCons (eVar 19) vNil))) vNil)))) (vCons (eLst (vCons (eDat (.bl true)) (vCons (eDat (.bl true)) (vCons (eDat (.bl false)) vNil)))) vNil))))) (sRet 0 (eDat (.bl false))) sSkip))))))))))))))))))))))) (sRet 0 (eDat (.bl true)))))
end
theorem lw (p : Int) (ws : List Int) (h : ws.length ≤ 6) (x : Wd) (w : Wrd ws.length x) : s__law_weight [SET p ws, .str x] = .ret (.dat (.int (wt ws x))) := by
  refine wF_eq ?_
  unfold s__law_weight
  rw [wF_sem]
  unfold m__law_weight
  simp only [startE_, startR_, List.map_cons, List.map_nil, List.length_cons, List.length_nil, List.replicate, Nat.reduceSub, Nat.reduceAdd, List.cons_append, List.nil_append]
  have hin : ∀ c ∈ x, c ∈ LET ∧ c - 97 < ws.length := fun c hc => LET_take h (w.let' c hc)
  have hx := w.len
  (repeat (first | simp [sizeLine_eq] | (with_reducible refine wG_mk ?_ ?_; (first | with_reducible assumption | omega | with_reducible exact inB62_ _ (by omega) | with_reducible exact mulOk_ _ _ (by omega) | with_reducible decide))))
  refine wE_compM (fun d => .int (match d with | .str [c] => wl ws c | _ => 0)) (by rw [sizeLine_eq, List.length_map]; omega) ?_ ?_
  · have a := fSum_map x (wl ws)
    (repeat (first | simp [sizeLine_eq, Function.comp_def, a, wt] | (with_reducible refine wG_mk ?_ ?_; (first | with_reducible assumption | omega | with_reducible exact inB62_ _ (by omega) | with_reducible exact mulOk_ _ _ (by omega) | with_reducible decide))))
  · intro d hd
    obtain ⟨c, hcx, rfl⟩ := List.mem_map.mp hd
    obtain ⟨h1, h2⟩ := hin c hcx
    have q := idx_at h1
    have e : atI (ws.map Dt.int) ((c - 97 : Nat) : Int) = some (.int (wl ws c)) := by
      unfold wl
      rw [atI_ofNat, List.getElem?_map, List.getElem?_eq_getElem h2, List.getD_eq_getElem?_getD, List.getElem?_eq_getElem h2]; rfl
    (repeat (first | simp [sizeLine_eq, q, wipeE, SET, e] | (with_reducible refine wG_mk ?_ ?_; (first | with_reducible assumption | omega | with_reducible exact inB62_ _ (by omega) | with_reducible exact mulOk_ _ _ (by omega) | with_reducible decide))))
theorem LET_mem {k n : Nat} (h : k < n) (hn : n ≤ 6) : ∃ c, LET[k]? = some c ∧ c ∈ LET.take n := by
  have q : (List.range 7).all (fun n => (List.range n).all fun k => match LET[k]? with | some c => decide (c ∈ LET.take n) | none => false) = true := by decide +kernel
  have := List.all_eq_true.mp (List.all_eq_true.mp q n (List.mem_range.mpr (by omega))) k (List.mem_range.mpr h)
  cases e : LET[k]? with
  | none => rw [e] at this; cases this
  | some c => rw [e] at this; exact ⟨c, rfl, of_decide_eq_true this⟩
theorem lword {cs : List Dt} {p : Int} {ws : List Int} {Q : Res → Cn → Prop} (hp : PotOk cs) (s : Stg p ws) (most : Int) (h0m : 0 ≤ most) (hm : most ≤ 100) (k : ∀ x cs', Wrd ws.length x → (x.length : Int) ≤ most → PotOk cs' → Q (.dat (.str x)) (.l cs')) : wFR (s__law_word (.l cs) [SET p ws, .int most]) Q := by
  unfold s__law_word
  rw [wFR_sem]
  unfold m__law_word
  simp only [startE_, startR_, List.map_cons, List.map_nil, List.length_cons, List.length_nil, List.replicate, Nat.reduceSub, Nat.reduceAdd, List.cons_append, List.nil_append]
  have six := s.six
  have pos := s.pos
  (repeat (first | simp [sizeLine_eq] | (with_reducible refine wG_mk ?_ ?_; (first | with_reducible assumption | omega | with_reducible exact inB62_ _ (by omega) | with_reducible exact mulOk_ _ _ (by omega) | with_reducible decide))))
  with_reducible refine take_w hp (by omega) (by omega) fun r c1 r0 r1 p1 => ?_
  (repeat (first | simp [sizeLine_eq] | (with_reducible refine wG_mk ?_ ?_; (first | with_reducible assumption | omega | with_reducible exact inB62_ _ (by omega) | with_reducible exact mulOk_ _ _ (by omega) | with_reducible decide))))
  with_reducible refine wE_compI (fun xs acc e => ∃ (cs : List Dt) (x : Wd), e = [.own cs, .val (SET p ws), .val (.int most), .un] ∧ PotOk cs ∧ acc = x.map (fun c => .str [c]) ∧ (x.length : Int) + xs.length ≤ most ∧ ∀ c ∈ x, c ∈ LET.take ws.length) ?_ ?_ ?_ ?_
  · refine ⟨c1, [], rfl, p1, rfl, ?_, by simp⟩
    rw [len_rangeD]
    simp
    omega
  · rw [sizeLine_eq, len_rangeD]; simp; omega
  · rintro acc e ⟨cs, x, h1, p2, h2, hlen, ha⟩
    subst h1 h2
    have hl : (x.length : Int) ≤ most := by simpa using hlen
    have q := fJoin_l (x.map fun c => [c]) (by rw [sum_one]; omega)
    rw [flat_one, List.map_map] at q
    have q' : fJoin [] (.lst (x.map fun c => .str [c])) = some (.dat (.str x)) := q
    (repeat (first | simp [sizeLine_eq, q'] | (with_reducible refine wG_mk ?_ ?_; (first | with_reducible assumption | omega | with_reducible exact inB62_ _ (by omega) | with_reducible exact mulOk_ _ _ (by omega) | with_reducible decide))))
    exact k x _ ⟨by omega, ha⟩ hl p2
  · rintro d ds acc e ⟨cs, x, h1, p2, h2, hlen, ha⟩
    subst h1 h2
    rw [List.length_cons] at hlen
    (repeat (first | simp [sizeLine_eq, SET] | (with_reducible refine wG_mk ?_ ?_; (first | with_reducible assumption | omega | with_reducible exact inB62_ _ (by omega) | with_reducible exact mulOk_ _ _ (by omega) | with_reducible decide))))
    with_reducible refine take_w p2 (by omega) (by omega) fun r c2 g0 g1 p3 => ?_
    obtain ⟨j, rfl⟩ : ∃ j : Nat, r = j := ⟨r.toNat, by omega⟩
    obtain ⟨c, hc1, hc2⟩ := LET_mem (k := j) (n := ws.length) (by omega) six
    have hix : fIx (.str [97, 98, 99, 100, 101, 102]) (.int (j : Int)) = some (.dat (.str [c])) := by
      show (if ([97, 98, 99, 100, 101, 102] : Wd).length ≤ sizeLine then (atI ([97, 98, 99, 100, 101, 102] : Wd) (j : Int)).map fun c => Res.dat (.str [c]) else none) = _
      have e : atI ([97, 98, 99, 100, 101, 102] : Wd) (j : Int) = some c := by
        unfold atI ixN
        have hj : j < ([97, 98, 99, 100, 101, 102] : Wd).length := by show j < 6; omega
        rw [if_pos (by omega), if_pos (by omega)]
        exact hc1
      rw [if_pos (by rw [sizeLine_eq]; decide), e]; rfl
    (repeat (first | simp [sizeLine_eq, hix, wipeE] | (with_reducible refine wG_mk ?_ ?_; (first | with_reducible assumption | omega | with_reducible exact inB62_ _ (by omega) | with_reducible exact mulOk_ _ _ (by omega) | with_reducible decide))))
    refine hold ⟨_, x ++ [c], rfl, p3, by simp, by simp; omega, fun c' hc' => ?_⟩
    rcases List.mem_append.mp hc' with h | h
    · exact ha c' h
    · rw [List.mem_singleton.mp h]; exact hc2
/-! ### all words -/
def pW (q : Wd → Bool) : Dt → Bool
  | .str x => q x
  | _ => false
theorem filt_str (q : Wd → Bool) (f : Wd → Wd) : ∀ l : List Wd, ((l.map Dt.str).filter (pW q)).map (mW f) = ((l.filter q).map f).map Dt.str
  | [] => rfl
  | w :: l => by
    rw [List.map_cons, List.filter_cons, List.filter_cons]
    show List.map (mW f) (if q w = true then _ else _) = _
    cases q w
    · exact filt_str q f l
    · exact congrArg (Dt.str (f w) :: ·) (filt_str q f l)
theorem mW_id : ∀ d : Dt, mW id d = d := fun d => by cases d <;> rfl
theorem Wrd.app {k : Nat} {x y : Wd} (a : Wrd k x) (b : Wrd k y) (h : x.length + y.length ≤ 100000) : Wrd k (x ++ y) := ⟨by rw [List.length_append]; exact h, fun c hc => (List.mem_append.mp hc).elim (a.let' c) (b.let' c)⟩
theorem Wrd.one {k : Nat} {c : Nat} (h : c ∈ LET.take k) : Wrd k [c] := ⟨by simp, fun d hd => by rw [List.mem_singleton.mp hd]; exact h⟩
theorem pw9 : (6 : Nat) ^ 9 = 10077696 := by decide
theorem lall {p : Int} {ws : List Int} (s : Stg p ws) (k : Nat) (hk : k ≤ 8) (hB : (rowW ws k).length < 4095) : s__law_all [SET p ws, .int k] = .ret (.dat (.tup ((sortW (rowW ws k)).map .str))) := by
  refine wF_eq ?_
  unfold s__law_all
  rw [wF_sem]
  unfold m__law_all
  simp only [startE_, startR_, List.map_cons, List.map_nil, List.length_cons, List.length_nil, List.replicate, Nat.reduceSub, Nat.reduceAdd, List.cons_append, List.nil_append]
  have six := s.six
  have qs : SET p ws = .tup [.int p, .tup (ws.map .int)] := rfl
  (repeat (first | simp [sizeLine_eq] | (with_reducible refine wG_mk ?_ ?_; (first | with_reducible assumption | omega | with_reducible exact inB62_ _ (by omega) | with_reducible exact mulOk_ _ _ (by omega) | with_reducible decide))))
  with_reducible refine wS_for (fun ds e => ∃ (t : Nat) (s3 s4 s5 s6 s7 : Sl), t ≤ k + 1 ∧ ds = rangeD (t : Int) ((k + 1 : Nat) : Int) ∧ e = [.val (SET p ws), .val (.int k), .own (.l ((foundW ws k t).map .str)), s3, s4, s5, s6, s7] ∧ (s3 = .own (.l ((ringW ws k t).map .str)) ∨ s3 = .val (.lst ((ringW ws k t).map .str)))) ⟨0, _, _, _, _, _, by omega, by simp, rfl, .inl rfl⟩ ?_ ?_
  · rintro e ⟨t, s3, s4, s5, s6, s7, ht, hd, rfl, -⟩
    have e1 : t = k + 1 := by
      by_cases h : t < k + 1
      · rw [rangeD_cons h] at hd; cases hd
      · omega
    subst e1
    have pm := found_row s.q k
    have q := fSortSet_str (foundW ws k (k + 1)) (foundW_nodup s.q k _) (by rw [pm.length_eq]; exact hB)
    (repeat (first | simp [sizeLine_eq, q, sortW_perm pm] | (with_reducible refine wG_mk ?_ ?_; (first | with_reducible assumption | omega | with_reducible exact inB62_ _ (by omega) | with_reducible exact mulOk_ _ _ (by omega) | with_reducible decide))))
  · rintro d ds e ⟨t, s3, s4, s5, s6, s7, ht, hd, rfl, hs3⟩
    have hik : t < k + 1 := by
      by_cases h : t < k + 1
      · exact h
      · rw [rangeD_nil (by omega)] at hd; cases hd
    rw [rangeD_cons hik] at hd
    injection hd with h1 h2
    subst h1
    have rl : (ringW ws k t).length ≤ 6 ^ 8 := Nat.le_trans (ringW_len s.q k t) (Nat.pow_le_pow_right (by decide) (by omega))
    have fl : (foundW ws k t).length ≤ 6 ^ 8 := by
      have := foundW_len s.q k t
      have : 6 ^ t ≤ 6 ^ 8 := Nat.pow_le_pow_right (by decide) (by omega)
      omega
    have ef : ((ringW ws k t).filter fun w => decide (wt ws w = k)).length ≤ 6 ^ 8 := Nat.le_trans (List.length_filter_le _ _) rl
    rw [show 6 ^ 8 = 1679616 by decide] at rl fl ef
    have rw_ : ∀ x ∈ ringW ws k t, Wrd ws.length x ∧ x.length = t := fun x hx => by
      obtain ⟨h1, h2, h3⟩ := (ringW_mem s.q k t x).mp hx
      exact ⟨⟨by omega, h2⟩, h1⟩
    rw [wL_gNm]
    with_reducible refine wS_cut (fun e => e = [.val (SET p ws), .val (.int k), .own (.l ((foundW ws k (t + 1)).map .str)), .val (.lst ((ringW ws k t).map .str)), .val (.int t), s5, s6, s7]) ?_ ?_
    · rcases hs3 with rfl | rfl
      all_goals
        (repeat (first | simp [sizeLine_eq] | (with_reducible refine wG_mk ?_ ?_; (first | with_reducible assumption | omega | with_reducible exact inB62_ _ (by omega) | with_reducible exact mulOk_ _ _ (by omega) | with_reducible decide))))
        refine wE_compF (pW fun w => decide (wt ws w = k)) (mW id) (by rw [sizeLine_eq, List.length_map]; omega) ?_ ?_
        · rw [filt_str]
          (repeat (first | simp [sizeLine_eq] | (with_reducible refine wG_mk ?_ ?_; (first | with_reducible assumption | omega | with_reducible exact inB62_ _ (by omega) | with_reducible exact mulOk_ _ _ (by omega) | with_reducible decide))))
          exact hold (by simp [foundW, SET])
        · intro d hd
          obtain ⟨x, hx, rfl⟩ := List.mem_map.mp hd
          have q := lw p ws six x (rw_ x hx).1
          (repeat (first | simp [sizeLine_eq, q] | (with_reducible refine wG_mk ?_ ?_; (first | with_reducible assumption | omega | with_reducible exact inB62_ _ (by omega) | with_reducible exact mulOk_ _ _ (by omega) | with_reducible decide))))
          refine ⟨by simp [pW], ?_⟩
          refine wI_mk (fun _ => ?_) (fun _ => ?_)
          · (repeat (first | simp [sizeLine_eq, wipeE, mW] | (with_reducible refine wG_mk ?_ ?_; (first | with_reducible assumption | omega | with_reducible exact inB62_ _ (by omega) | with_reducible exact mulOk_ _ _ (by omega) | with_reducible decide))))
          · (repeat (first | simp [sizeLine_eq, wipeE] | (with_reducible refine wG_mk ?_ ?_; (first | with_reducible assumption | omega | with_reducible exact inB62_ _ (by omega) | with_reducible exact mulOk_ _ _ (by omega) | with_reducible decide))))
    · rintro e rfl
      (repeat (first | simp [sizeLine_eq] | (with_reducible refine wG_mk ?_ ?_; (first | with_reducible assumption | omega | with_reducible exact inB62_ _ (by omega) | with_reducible exact mulOk_ _ _ (by omega) | with_reducible decide))))
      with_reducible refine wS_for (fun ds2 e => ∃ (pre post : List Wd) (s5 s7 : Sl), ringW ws k t = pre ++ post ∧ ds2 = post.map .str ∧ e = [.val (SET p ws), .val (.int k), .own (.l ((foundW ws k (t + 1)).map .str)), .val (.lst ((ringW ws k t).map .str)), .val (.int t), s5, .own (.l ((pre.flatMap (ringF ws k)).map .str)), s7]) ⟨[], ringW ws k t, _, _, rfl, rfl, rfl⟩ ?_ ?_
      · rintro e ⟨pre, post, t5, t7, he, hp, rfl⟩
        have hp' : post = [] := by cases post with | nil => rfl | cons _ _ => cases hp
        subst hp'
        rw [List.append_nil] at he
        subst he
        (repeat (first | simp [sizeLine_eq] | (with_reducible refine wG_mk ?_ ?_; (first | with_reducible assumption | omega | with_reducible exact inB62_ _ (by omega) | with_reducible exact mulOk_ _ _ (by omega) | with_reducible decide))))
        exact hold ⟨t + 1, _, _, _, _, _, by omega, by simpa using h2, rfl, .inr rfl⟩
      · rintro d2 ds2 e ⟨pre, post, t5, t7, he, hp, rfl⟩
        cases post with
        | nil => cases hp
        | cons x post =>
          rw [List.map_cons] at hp
          injection hp with hp1 hp2
          subst hp1
          have hx : x ∈ ringW ws k t := by rw [he]; simp
          obtain ⟨wx, lx⟩ := rw_ x hx
          have lx' : x.length + 1 ≤ 16777216 := by omega
          have hlen : (pre.flatMap (ringF ws k)).length ≤ 10077696 := by
            rw [List.length_flatMap]
            refine Nat.le_trans (sum_le _ 6 _ fun w _ => ringF_len s.q k w) ?_
            have := congrArg List.length he
            rw [List.length_append] at this
            omega
          have hlen2 := ringF_len s.q k x
          rw [List.length_flatMap] at hlen
          (repeat (first | simp [sizeLine_eq, SET, fSl_str, cutL_to] | (with_reducible refine wG_mk ?_ ?_; (first | with_reducible assumption | omega | with_reducible exact inB62_ _ (by omega) | with_reducible exact mulOk_ _ _ (by omega) | with_reducible decide))))
          have e4 : List.take ws.length [Dt.str [97], Dt.str [98], Dt.str [99], Dt.str [100], Dt.str [101], Dt.str [102]] = (LET.take ws.length).map fun c => .str [c] := by rw [List.map_take]; rfl
          rw [e4]
          refine wE_compF (fun d => match d with | .str [c] => decide (wt ws (x ++ [c]) ≤ k) | _ => false) (fun d => match d with | .str [c] => .str (x ++ [c]) | d => d) (by rw [sizeLine_eq]; simp; omega) ?_ ?_
          · have e3 : List.map (fun d => match d with | .str [c] => .str (x ++ [c]) | d => d) (List.filter (fun d => match d with | .str [c] => decide (wt ws (x ++ [c]) ≤ k) | _ => false) (List.map (fun c => Dt.str [c]) (List.take ws.length LET))) = (ringF ws k x).map Dt.str := by
              unfold ringF
              rw [List.filter_map, List.map_map, List.map_map]; rfl
            rw [e3]
            (repeat (first | simp [sizeLine_eq] | (with_reducible refine wG_mk ?_ ?_; (first | with_reducible assumption | omega | with_reducible exact inB62_ _ (by omega) | with_reducible exact mulOk_ _ _ (by omega) | with_reducible decide))))
            refine hold ⟨pre ++ [x], post, .val (.str x), t7, by rw [he]; simp, hp2, ?_⟩
            rw [List.flatMap_append, List.map_append]
            simp [SET]
          · intro d hd
            obtain ⟨c, hc, rfl⟩ := List.mem_map.mp hd
            have q := lw p ws six (x ++ [c]) (wx.app (Wrd.one hc) (by simp; omega))
            rw [qs] at q
            (repeat (first | simp [sizeLine_eq, q] | (with_reducible refine wG_mk ?_ ?_; (first | with_reducible assumption | omega | with_reducible exact inB62_ _ (by omega) | with_reducible exact mulOk_ _ _ (by omega) | with_reducible decide))))
            refine wI_mk (fun h3 => ?_) (fun h3 => ?_)
            · (repeat (first | simp [sizeLine_eq, wipeE] | (with_reducible refine wG_mk ?_ ?_; (first | with_reducible assumption | omega | with_reducible exact inB62_ _ (by omega) | with_reducible exact mulOk_ _ _ (by omega) | with_reducible decide))))
            · (repeat (first | simp [sizeLine_eq, wipeE] | (with_reducible refine wG_mk ?_ ?_; (first | with_reducible assumption | omega | with_reducible exact inB62_ _ (by omega) | with_reducible exact mulOk_ _ _ (by omega) | with_reducible decide))))
theorem P3_at (r : Int) (h0 : 0 ≤ r) (h : r < 3) : ∃ p, atI [Dt.int 0, .int 2, .int 97] r = some (.int p) ∧ fldI p = true := by
  have : r = 0 ∨ r = 1 ∨ r = 2 := by omega
  rcases this with rfl | rfl | rfl <;> exact ⟨_, rfl, by decide +kernel⟩
theorem minI_le : ∀ (ns : List Int) (n : Int), bestI false n ns ≤ n ∧ ∀ x ∈ ns, bestI false n ns ≤ x
  | [], n => ⟨Int.le_refl _, by simp⟩
  | m :: ns, n => by
    have e : bestI false n (m :: ns) = bestI false (min n m) ns := rfl
    have h := minI_le ns (min n m)
    rw [e]
    refine ⟨by have := h.1; omega, fun x hx => ?_⟩
    rcases List.mem_cons.mp hx with rfl | hx
    · have := h.1; omega
    · exact h.2 x hx
theorem minI_mem {ws : List Int} {n : Int} {ns : List Int} (h : ws = n :: ns) : bestI false n ns ∈ ws := by
  subst h
  induction ns generalizing n with
  | nil => exact List.mem_cons_self
  | cons m ns ih =>
    have e : bestI false n (m :: ns) = bestI false (min n m) ns := rfl
    rw [e]
    have h := ih (n := min n m)
    rcases List.mem_cons.mp h with h | h
    · rw [h]
      rcases Int.le_total n m with q | q
      · rw [Int.min_eq_left q]; simp
      · rw [Int.min_eq_right q]; simp
    · exact List.mem_cons_of_mem _ (List.mem_cons_of_mem _ h)
theorem lsame (d : Dt) (h : gd 5 d = true) : s__law_same 6 [d, d] = .ret (.dat (.bl true)) := law_same_refl 5 6 d (by decide) h
def ODD (x : Wd) (c : Nat) : List Dt := [.non, .int 3, .tup [.str [97]], .str (x ++ [65]), .str (x ++ [c]), .lst [.str [97]], .bl true, .str (x ++ [32]), .str [49]]
theorem odd_at {n : Nat} {x : Wd} {c : Nat} (hx : Wrd n x) (hl : x.length ≤ 1000) (hc : c ∉ LET.take n) (hcs : c < 1114112) (r : Int) (h0 : 0 ≤ r) (h : r < 9) : ∃ d, atI (ODD x c) r = some d ∧ gd 2 d = true ∧ wordB n d = false ∧ ∀ y, d = .str y → y.length ≤ 100000 := by
  have bad : ∀ c, c ∉ LET.take n → wordB n (.str (x ++ [c])) = false := fun c h => by
    show (x ++ [c]).all _ = false
    rw [List.all_append]
    simp [h]
  have sm : ∀ c, c < 1114112 → gd 2 (.str (x ++ [c])) = true := fun c h => by
    rw [gd_str, List.all_append, hx.sm]
    simp [h]
  have lt : ∀ c, c ∉ LET → c ∉ LET.take n := fun c h z => h (List.mem_of_mem_take z)
  have : r = 0 ∨ r = 1 ∨ r = 2 ∨ r = 3 ∨ r = 4 ∨ r = 5 ∨ r = 6 ∨ r = 7 ∨ r = 8 := by omega
  rcases this with rfl | rfl | rfl | rfl | rfl | rfl | rfl | rfl | rfl
  · exact ⟨_, rfl, by decide, rfl, fun y e => by cases e⟩
  · exact ⟨_, rfl, by decide, rfl, fun y e => by cases e⟩
  · exact ⟨_, rfl, by decide, rfl, fun y e => by cases e⟩
  · exact ⟨_, rfl, sm _ (by decide), bad _ (lt _ (by decide)), fun y e => by cases e; simp; omega⟩
  · exact ⟨_, rfl, sm _ hcs, bad _ hc, fun y e => by cases e; simp; omega⟩
  · exact ⟨_, rfl, by decide, rfl, fun y e => by cases e⟩
  · exact ⟨_, rfl, by decide, rfl, fun y e => by cases e⟩
  · exact ⟨_, rfl, sm _ (by decide), bad _ (lt _ (by decide)), fun y e => by cases e; simp; omega⟩
  · refine ⟨_, rfl, by decide, ?_, fun y e => by cases e; simp⟩
    have := lt 49 (by decide)
    simp [wordB, this]
theorem after_at {n : Nat} (h0 : 0 < n) (h : n ≤ 6) : ∃ c, fIx (.str [97, 98, 99, 100, 101, 102, 103]) (.int (n : Int)) = some (.dat (.str [c])) ∧ c ∉ LET.take n ∧ decide (c < 1114112) = true := by
  have : n = 1 ∨ n = 2 ∨ n = 3 ∨ n = 4 ∨ n = 5 ∨ n = 6 := by omega
  have e : ∀ i : Int, fIx (.str [97, 98, 99, 100, 101, 102, 103]) (.int i) = if ([97, 98, 99, 100, 101, 102, 103] : Wd).length ≤ sizeLine then (atI ([97, 98, 99, 100, 101, 102, 103] : Wd) i).map fun c => Res.dat (.str [c]) else none := fun _ => rfl
  have hl : ([97, 98, 99, 100, 101, 102, 103] : Wd).length ≤ sizeLine := by rw [sizeLine_eq]; decide
  rcases this with rfl | rfl | rfl | rfl | rfl | rfl <;> exact ⟨_, by rw [e, if_pos hl]; rfl, by decide, by decide⟩
theorem Wrd.perm {k : Nat} {x y : Wd} (p : y.Perm x) (w : Wrd k x) : Wrd k y := ⟨by rw [p.length_eq]; exact w.len, fun c hc => w.let' c (p.mem_iff.mp hc)⟩
theorem join_sorted (x : Wd) (h : x.length ≤ 100000) : ∃ y : Wd, y.Perm x ∧ fJoin [] (.lst (sortD (x.map fun c => .str [c]))) = some (.dat (.str y)) := by
  have e : (x.map fun c => Dt.str [c]) = (x.map fun c => [c]).map .str := by rw [List.map_map]; rfl
  rw [e, sortD_str]
  obtain ⟨y, p, q⟩ := ones_of (List.mergeSort_perm (x.map fun c => [c]) leW)
  have q' : sortW (x.map fun c => [c]) = y.map fun c => [c] := q
  refine ⟨y, p, ?_⟩
  rw [q', fJoin_l _ (by rw [sum_one, p.length_eq]; omega), flat_one]
theorem sortB_one (x : Wd) (h : x.length ≤ 100000) : sortB (x.map fun c => .str [c]) = true := by
  have e : (x.map fun c => Dt.str [c]) = (x.map fun c => [c]).map .str := by rw [List.map_map]; rfl
  rw [e]
  exact sortB_str _ (by rw [List.length_map]; omega)
theorem rowW_gd {ws : List Int} (s : Pos ws) {k : Nat} (hk : k ≤ 100) (hB : (rowW ws k).length ≤ 1000) (n : Nat) : gd (n + 1) (.tup ((sortW (rowW ws k)).map .str)) = true := by
  rw [gd_tup, List.length_map, sortW_len, decide_eq_true (by omega), gds_map fun x hx => ?_]
  · rfl
  · rw [gd_str]; exact (rowW_wrd s (by omega) (sortW_mem.mp hx)).1.sm
theorem rangeD_gd (p : Dt → Bool) (a b : Int) (h : (b - a).toNat ≤ 100000) (n : Nat) : gd (n + 1) (.tup ((rangeD a b).filter p)) = true := by
  rw [gd_tup, gds_all.mpr, decide_eq_true]
  · rfl
  · exact Nat.le_trans (List.length_filter_le _ _) (by rw [len_rangeD]; exact h)
  · intro d hd
    unfold rangeD at hd
    obtain ⟨k, _, rfl⟩ := List.mem_map.mp (List.mem_filter.mp hd).1
    simp
theorem rowB {ws : List Int} (s : Pos ws) (h0 : 0 < ws.length) (k : Nat) (h : (ws.length ≤ 3 ∧ (k < 7 ∨ (k < 9 ∧ ∀ w ∈ ws, 2 ≤ w))) ∨ (k < 9 ∧ ∀ w ∈ ws, 3 ≤ w)) : ∀ j, j ≤ k → (rowW ws j).length ≤ 729 := by
  intro j hj
  have pw : ∀ {n b a c : Nat}, n ≤ b → a ≤ c → 0 < b → n ^ a ≤ b ^ c := fun h1 h2 h3 => Nat.le_trans (Nat.pow_le_pow_left h1 _) (Nat.pow_le_pow_right h3 h2)
  rcases h with ⟨h1, h2 | ⟨h2, h3⟩⟩ | ⟨h1, h2⟩
  · exact Nat.le_trans (rowW_le s h0 1 (by decide) (fun w hw => by have := (s.w w hw).1; omega) j) (pw (b := 3) (c := 6) h1 (by rw [Nat.div_one]; omega) (by decide))
  · exact Nat.le_trans (rowW_le s h0 2 (by decide) (fun w hw => h3 w hw) j) (pw (b := 3) (c := 6) h1 (by omega) (by decide))
  · exact Nat.le_trans (rowW_le s h0 3 (by decide) (fun w hw => h2 w hw) j) (Nat.le_trans (pw (b := 6) (c := 2) s.six (by omega) (by decide)) (by decide))
theorem law_true (ns : List Int) (hl : ns.length ≤ 63) : ∃ en, m_law (.scr ns :: List.replicate (20 - 1) .un) = .ret (.dat (.bl true)) en := by
  refine law_of ?_
  show wS (m_law [.scr ns, .un, .un, .un, .un, .un, .un, .un, .un, .un, .un, .un, .un, .un, .un, .un, .un, .un, .un, .un]) _
  unfold m_law
  have hp0 : PotOk (.int 0 :: .int 19 :: .int 3 :: ns.map .int) := ⟨0, 19, 3, ns, rfl, by omega, by omega, by omega, by omega, by omega, hl⟩
  (repeat (first | simp [sizeLine_eq] | (with_reducible refine wG_mk ?_ ?_; (first | with_reducible assumption | omega | with_reducible exact inB62_ _ (by omega) | with_reducible exact mulOk_ _ _ (by omega) | with_reducible decide))))
  with_reducible refine wS_for (fun _ e => ∃ (cs : List Dt) (s2 s3 s4 s5 s6 s7 s8 s9 s10 s11 s12 s13 s14 s15 s16 s17 s18 s19 : Sl), e = [.scr ns, .own cs, s2, s3, s4, s5, s6, s7, s8, s9, s10, s11, s12, s13, s14, s15, s16, s17, s18, s19] ∧ PotOk cs) ⟨_, _, _, _, _, _, _, _, _, _, _, _, _, _, _, _, _, _, _, rfl, hp0⟩ ?_ ?_
  · rintro e ⟨cs, s2, s3, s4, s5, s6, s7, s8, s9, s10, s11, s12, s13, s14, s15, s16, s17, s18, s19, h, _⟩
    subst h
    (repeat (first | simp [sizeLine_eq] | (with_reducible refine wG_mk ?_ ?_; (first | with_reducible assumption | omega | with_reducible exact inB62_ _ (by omega) | with_reducible exact mulOk_ _ _ (by omega) | with_reducible decide))))
  rintro d ds e ⟨cs, s2, s3, s4, s5, s6, s7, s8, s9, s10, s11, s12, s13, s14, s15, s16, s17, s18, s19, h, hp⟩
  subst h
  (repeat (first | simp [sizeLine_eq] | (with_reducible refine wG_mk ?_ ?_; (first | with_reducible assumption | omega | with_reducible exact inB62_ _ (by omega) | with_reducible exact mulOk_ _ _ (by omega) | with_reducible decide))))
  with_reducible refine take_w hp (by decide) (by decide) fun r c1 r0 r1 p1 => ?_
  obtain ⟨p, hpa, hpf⟩ := P3_at r r0 r1
  (repeat (first | simp [sizeLine_eq, hpa] | (with_reducible refine wG_mk ?_ ?_; (first | with_reducible assumption | omega | with_reducible exact inB62_ _ (by omega) | with_reducible exact mulOk_ _ _ (by omega) | with_reducible decide))))
  with_reducible refine take_w p1 (by decide) (by decide) fun r2 c2 r20 r21 p2 => ?_
  obtain ⟨n, rfl⟩ : ∃ n : Nat, r2 = n := ⟨r2.toNat, by omega⟩
  (repeat (first | simp [sizeLine_eq] | (with_reducible refine wG_mk ?_ ?_; (first | with_reducible assumption | omega | with_reducible exact inB62_ _ (by omega) | with_reducible exact mulOk_ _ _ (by omega) | with_reducible decide))))
  with_reducible refine wE_compI (fun xs acc e => ∃ (cs : List Dt) (ws : List Int), e = [.scr ns, .own cs, .val d, .val (.int p), .val (.int (1 + n)), s5, .un, s7, s8, s9, s10, s11, s12, s13, s14, s15, s16, s17, s18, s19] ∧ PotOk cs ∧ acc = ws.map .int ∧ ws.length + xs.length = 1 + n ∧ ∀ w ∈ ws, 0 < w ∧ w ≤ 9) ?_ ?_ ?_ ?_
  · refine ⟨c2, [], rfl, p2, rfl, ?_, by simp⟩
    rw [len_rangeD]
    simp
    omega
  · rw [sizeLine_eq, len_rangeD]; simp; omega
  rotate_left
  · rintro d2 ds2 acc e ⟨cs, ws, rfl, p3, rfl, hlen, hw⟩
    rw [List.length_cons] at hlen
    (repeat (first | simp [sizeLine_eq] | (with_reducible refine wG_mk ?_ ?_; (first | with_reducible assumption | omega | with_reducible exact inB62_ _ (by omega) | with_reducible exact mulOk_ _ _ (by omega) | with_reducible decide))))
    with_reducible refine take_w p3 (by decide) (by decide) fun r c3 g0 g1 p3 => ?_
    (repeat (first | simp [sizeLine_eq, wipeE] | (with_reducible refine wG_mk ?_ ?_; (first | with_reducible assumption | omega | with_reducible exact inB62_ _ (by omega) | with_reducible exact mulOk_ _ _ (by omega) | with_reducible decide))))
    refine hold ⟨_, ws ++ [1 + r], rfl, p3, by simp, by simp; omega, fun w h => ?_⟩
    rcases List.mem_append.mp h with h | h
    · exact hw w h
    · rw [List.mem_singleton.mp h]; omega
  rintro acc e ⟨cs, ws, rfl, p3, rfl, hlen, hw⟩
  have wl1 : ws.length = 1 + n := by simpa using hlen
  have s : Stg p ws := ⟨hpf, by omega, by omega, hw⟩
  have qs : Dt.tup [.int p, .tup (ws.map .int)] = SET p ws := rfl
  clear hlen hw hpa
  (repeat (first | simp [sizeLine_eq, qs] | (with_reducible refine wG_mk ?_ ?_; (first | with_reducible assumption | omega | with_reducible exact inB62_ _ (by omega) | with_reducible exact mulOk_ _ _ (by omega) | with_reducible decide))))
  with_reducible refine lword p3 s 8 (by decide) (by decide) fun x c4 hx xl p4 => ?_
  (repeat (first | simp [sizeLine_eq, qs] | (with_reducible refine wG_mk ?_ ?_; (first | with_reducible assumption | omega | with_reducible exact inB62_ _ (by omega) | with_reducible exact mulOk_ _ _ (by omega) | with_reducible decide))))
  with_reducible refine lword p4 s 8 (by decide) (by decide) fun y c5 hy yl p5 => ?_
  (repeat (first | simp [sizeLine_eq, qs] | (with_reducible refine wG_mk ?_ ?_; (first | with_reducible assumption | omega | with_reducible exact inB62_ _ (by omega) | with_reducible exact mulOk_ _ _ (by omega) | with_reducible decide))))
  with_reducible refine lword p5 s 3 (by decide) (by decide) fun z c6 hz zl p6 => ?_
  (repeat (first | simp [sizeLine_eq, qs] | (with_reducible refine wG_mk ?_ ?_; (first | with_reducible assumption | omega | with_reducible exact inB62_ _ (by omega) | with_reducible exact mulOk_ _ _ (by omega) | with_reducible decide))))
  with_reducible refine take_w p6 (by decide) (by decide) fun r3 c7 _ _ p7 => ?_
  (repeat (first | simp [sizeLine_eq, qs] | (with_reducible refine wG_mk ?_ ?_; (first | with_reducible assumption | omega | with_reducible exact inB62_ _ (by omega) | with_reducible exact mulOk_ _ _ (by omega) | with_reducible decide))))
  with_reducible refine wI_cut (fun e => ∃ y : Wd, Wrd ws.length y ∧ (y.length : Int) ≤ 8 ∧ e = [.scr ns, .own c7, .val d, .val (.int p), .val (.int (1 + n)), .val (SET p ws), s6, .val (.str x), .val (.str y), .val (.str z), s10, s11, s12, s13, s14, s15, s16, s17, s18, s19]) ?_ ?_ ?_
  · intro _
    have q1 := sortB_one x hx.len
    obtain ⟨y2, yp, q2⟩ := join_sorted x hx.len
    (repeat (first | simp [sizeLine_eq, q1, q2, qs] | (with_reducible refine wG_mk ?_ ?_; (first | with_reducible assumption | omega | with_reducible exact inB62_ _ (by omega) | with_reducible exact mulOk_ _ _ (by omega) | with_reducible decide))))
    exact hold ⟨y2, hx.perm yp, by rw [yp.length_eq]; exact xl, by simp⟩
  · intro _
    (repeat (first | simp [sizeLine_eq, qs] | (with_reducible refine wG_mk ?_ ?_; (first | with_reducible assumption | omega | with_reducible exact inB62_ _ (by omega) | with_reducible exact mulOk_ _ _ (by omega) | with_reducible decide))))
    exact hold ⟨y, hy, yl, by simp⟩
  clear hy yl y
  rintro e ⟨y, hy, yl, rfl⟩
  have six := s.six
  have wx := lw p ws six x hx
  have wy := lw p ws six y hy
  have q1 := lsame (.lst [.int (wt ws x), .int (wt ws x), .bl (lessK ws x y), .bl (lessK ws x y)]) (by simp)
  have hlk : lessK ws x y = (decide (wt ws x < wt ws y) || (decide (wt ws x = wt ws y) && decide (x < y))) := rfl
  (repeat (first | simp [sizeLine_eq, wx, wy, fLt_key, ← hlk, c_weight s hx, c_less s hx hy, q1, pmL] | (with_reducible refine wG_mk ?_ ?_; (first | with_reducible assumption | omega | with_reducible exact inB62_ _ (by omega) | with_reducible exact mulOk_ _ _ (by omega) | with_reducible decide))))
  have l1 : z.length + x.length ≤ 16777216 := by omega
  have l2 : z.length + y.length ≤ 16777216 := by omega
  have l3 : x.length + z.length ≤ 16777216 := by omega
  have l4 : y.length + z.length ≤ 16777216 := by omega
  have l5 : x.length + y.length ≤ 16777216 := by omega
  have l6 : x.length + y.length + x.length ≤ 16777216 := by omega
  have g1 := c_less s (hz.app hx (by omega)) (hz.app hy (by omega))
  have g2 := c_less s (hx.app hz (by omega)) (hy.app hz (by omega))
  have g3 := c_less s hx hx
  rw [less_pre] at g1
  rw [less_suf s.q z hx.let' hy.let'] at g2
  rw [less_self] at g3
  have q2 := lsame (.lst [.bl (lessK ws x y), .bl (lessK ws x y), .bl false]) (by simp)
  (repeat (first | simp [sizeLine_eq, g1, g2, g3, q2] | (with_reducible refine wG_mk ?_ ?_; (first | with_reducible assumption | omega | with_reducible exact inB62_ _ (by omega) | with_reducible exact mulOk_ _ _ (by omega) | with_reducible decide))))
  with_reducible refine wI_cut (fun e => ∃ (vs : List Int) (s10 s11 s12 : Sl), vs.length = ws.length ∧ Stg p vs ∧ (vs.length ≤ 3 ∨ ∀ w ∈ vs, 3 ≤ w) ∧ e = [.scr ns, .own c7, .val d, .val (.int p), .val (.int (1 + n)), .val (SET p vs), s6, .val (.str x), .val (.str y), .val (.str z), s10, s11, s12, s13, s14, s15, s16, s17, s18, s19]) ?_ ?_ ?_
  · intro h3
    have h4 := of_decide_eq_true h3
    (repeat (first | simp [sizeLine_eq, SET] | (with_reducible refine wG_mk ?_ ?_; (first | with_reducible assumption | omega | with_reducible exact inB62_ _ (by omega) | with_reducible exact mulOk_ _ _ (by omega) | with_reducible decide))))
    refine wE_compM (mI fun w => if 9 < w + 2 then 9 else w + 2) (by rw [sizeLine_eq, List.length_map]; omega) ?_ ?_
    · have e1 : List.map (mI fun w => if 9 < w + 2 then 9 else w + 2) (ws.map Dt.int) = (ws.map fun w => if 9 < w + 2 then 9 else w + 2).map .int := by rw [List.map_map, List.map_map]; rfl
      rw [e1]
      (repeat (first | simp [sizeLine_eq] | (with_reducible refine wG_mk ?_ ?_; (first | with_reducible assumption | omega | with_reducible exact inB62_ _ (by omega) | with_reducible exact mulOk_ _ _ (by omega) | with_reducible decide))))
      refine hold ⟨ws.map fun w => if 9 < w + 2 then 9 else w + 2, _, _, _, by simp, ⟨hpf, by simp; omega, by simp; omega, fun w hw => ?_⟩, .inr fun w hw => ?_, by simp [SET]; exact ⟨rfl, rfl, rfl⟩⟩
      · obtain ⟨v, hv, rfl⟩ := List.mem_map.mp hw
        have := s.w v hv
        split <;> omega
      · obtain ⟨v, hv, rfl⟩ := List.mem_map.mp hw
        have := s.w v hv
        split <;> omega
    · intro d2 hd2
      obtain ⟨w, hw, rfl⟩ := List.mem_map.mp hd2
      (repeat (first | simp [sizeLine_eq, wipeE, mI] | (with_reducible refine wG_mk ?_ ?_; (first | with_reducible assumption | omega | with_reducible exact inB62_ _ (by omega) | with_reducible exact mulOk_ _ _ (by omega) | with_reducible decide))))
  · intro h3
    have h4 := of_decide_eq_false h3
    (repeat (first | simp [sizeLine_eq] | (with_reducible refine wG_mk ?_ ?_; (first | with_reducible assumption | omega | with_reducible exact inB62_ _ (by omega) | with_reducible exact mulOk_ _ _ (by omega) | with_reducible decide))))
    exact hold ⟨ws, _, _, _, rfl, s, .inl (by omega), by simp; exact ⟨rfl, rfl, rfl⟩⟩
  rintro e ⟨vs, t10, t11, t12, vl, sv, hv, rfl⟩
  clear hp0 hp p1 p2 p3 p4 p5 p6 wx wy q1 hlk g1 g2 g3 q2 qs
  rw [← vl] at hx hy hz wl1 six
  clear s vl
  have hvp := sv.pos
  obtain ⟨v0, vr, ev⟩ : ∃ v0 vr, vs = v0 :: vr := by
    cases vs with
    | nil => simp at hvp
    | cons a b => exact ⟨a, b, rfl⟩
  have qm : fMinL [.tup (vs.map Dt.int)] = some (.dat (.int (bestI false v0 vr))) := by rw [ev]; exact fMinL_t v0 vr
  have qm2 : ∀ w ∈ vs, bestI false v0 vr ≤ w := fun w hw => by
    rw [ev] at hw
    rcases List.mem_cons.mp hw with rfl | hw
    · exact (minI_le vr w).1
    · exact (minI_le vr v0).2 w hw
  have qi : fIx (SET p vs) (.int 1) = some (.dat (.tup (vs.map Dt.int))) := rfl
  (repeat (first | simp [sizeLine_eq, qi, qm] | (with_reducible refine wG_mk ?_ ?_; (first | with_reducible assumption | omega | with_reducible exact inB62_ _ (by omega) | with_reducible exact mulOk_ _ _ (by omega) | with_reducible decide))))
  with_reducible refine wIE_cut (fun r e => ∃ m : Int, r = .dat (.int m) ∧ (m = 7 ∨ (m = 9 ∧ ∀ w ∈ vs, 2 ≤ w)) ∧ e = [.scr ns, .own c7, .val d, .val (.int p), .val (.int (1 + n)), .val (SET p vs), s6, .val (.str x), .val (.str y), .val (.str z), t10, t11, t12, s13, s14, s15, s16, s17, s18, s19]) ?_ ?_ ?_
  · intro _
    (repeat (first | simp [sizeLine_eq] | (with_reducible refine wG_mk ?_ ?_; (first | with_reducible assumption | omega | with_reducible exact inB62_ _ (by omega) | with_reducible exact mulOk_ _ _ (by omega) | with_reducible decide))))
    exact hold ⟨7, rfl, .inl rfl, by simp⟩
  · intro h3
    have h4 := of_decide_eq_false h3
    (repeat (first | simp [sizeLine_eq] | (with_reducible refine wG_mk ?_ ?_; (first | with_reducible assumption | omega | with_reducible exact inB62_ _ (by omega) | with_reducible exact mulOk_ _ _ (by omega) | with_reducible decide))))
    exact hold ⟨9, rfl, .inr ⟨rfl, fun w hw => by have := qm2 w hw; have := (sv.w w hw).1; have := qm2 v0 (by rw [ev]; simp); have := (sv.w v0 (by rw [ev]; simp)).1; have h5 : bestI false v0 vr ∈ vs := minI_mem ev; have := (sv.w _ h5).1; omega⟩, by simp⟩
  rintro r e ⟨m, rfl, hm, rfl⟩
  (repeat (first | simp [sizeLine_eq] | (with_reducible refine wG_mk ?_ ?_; (first | with_reducible assumption | omega | with_reducible exact inB62_ _ (by omega) | with_reducible exact mulOk_ _ _ (by omega) | with_reducible decide))))
  with_reducible refine take_w p7 (by omega) (by omega) fun k c8 k0 k1 p8 => ?_
  clear qm qm2 ev p7
  obtain ⟨k, rfl⟩ : ∃ k' : Nat, k = k' := ⟨k.toNat, by omega⟩
  have hB := rowB sv.q sv.pos k (by
    rcases hv with hv | hv
    · rcases hm with rfl | ⟨rfl, hm⟩
      · exact .inl ⟨hv, .inl (by omega)⟩
      · exact .inl ⟨hv, .inr ⟨by omega, hm⟩⟩
    · exact .inr ⟨by omega, hv⟩)
  have hk8 : k ≤ 8 := by omega
  clear hv hm k0 k1
  have hBk := hB k (Nat.le_refl _)
  have qa := lall sv k hk8 (by omega)
  have qw := c_words sv k (by omega) (fun j hj => by have := hB j hj; omega)
  have qn := c_num sv k (by omega)
  rw [← rowW_num sv.q k] at qn
  have sl := sortW_len (rowW vs k)
  have g0 := fun n => rowW_gd sv.q (k := k) (by omega) (by omega) n
  have q1 := lsame (.lst [.tup ((sortW (rowW vs k)).map .str), .tup ((sortW (rowW vs k)).map .str)]) (by rw [gd_lst, gds_cons, gds_cons, gds_nil, g0 3]; simp)
  have q2 := lsame (.lst [.int ((rowW vs k).length : Nat), .int ((rowW vs k).length : Nat)]) (by simp)
  (repeat (first | simp [sizeLine_eq, qa, qw, qn, sl, q1, q2, pmL] | (with_reducible refine wG_mk ?_ ?_; (first | with_reducible assumption | omega | with_reducible exact inB62_ _ (by omega) | with_reducible exact mulOk_ _ _ (by omega) | with_reducible decide))))
  have qe := fNe_of (n := 1) (m := 1) (a := .str x) (b := .str []) hx.g (by simp) (by omega) (by omega)
  rw [eqD_str] at qe
  (repeat (first | simp [sizeLine_eq, qe] | (with_reducible refine wG_mk ?_ ?_; (first | with_reducible assumption | omega | with_reducible exact inB62_ _ (by omega) | with_reducible exact mulOk_ _ _ (by omega) | with_reducible decide))))
  with_reducible refine wIE_cut (fun r e => ∃ (u : Wd) (c9 : List Dt), r = .dat (.str u) ∧ u ≠ [] ∧ Wrd vs.length u ∧ PotOk c9 ∧ e = [.scr ns, .own c9, .val d, .val (.int p), .val (.int (1 + n)), .val (SET p vs), s6, .val (.str x), .val (.str y), .val (.str z), t10, t11, t12, .val (.int k), .val (.tup ((sortW (rowW vs k)).map .str)), s15, s16, s17, s18, s19]) ?_ ?_ ?_
  · intro h3
    have h4 : x ≠ [] := by simpa using h3
    (repeat (first | simp [sizeLine_eq] | (with_reducible refine wG_mk ?_ ?_; (first | with_reducible assumption | omega | with_reducible exact inB62_ _ (by omega) | with_reducible exact mulOk_ _ _ (by omega) | with_reducible decide))))
    with_reducible refine take_w p8 (by decide) (by decide) fun r9 c9 k0 k1 p9 => ?_
    obtain ⟨j, rfl⟩ : ∃ j : Nat, r9 = j := ⟨r9.toNat, by omega⟩
    have e1 := cutL_to x (1 + j)
    rw [show ((1 + j : Nat) : Int) = 1 + (j : Int) by omega] at e1
    have hxl := hx.len
    (repeat (first | simp [sizeLine_eq, fSl_str, e1] | (with_reducible refine wG_mk ?_ ?_; (first | with_reducible assumption | omega | with_reducible exact inB62_ _ (by omega) | with_reducible exact mulOk_ _ _ (by omega) | with_reducible decide))))
    refine hold ⟨x.take (1 + j), c9, rfl, ?_, ⟨Nat.le_trans (List.length_take_le _ _) (by omega), fun c hc => hx.let' c (List.mem_of_mem_take hc)⟩, p9, by simp⟩
    cases x with
    | nil => exact absurd rfl h4
    | cons a b => rw [Nat.add_comm]; simp
  · intro _
    (repeat (first | simp [sizeLine_eq] | (with_reducible refine wG_mk ?_ ?_; (first | with_reducible assumption | omega | with_reducible exact inB62_ _ (by omega) | with_reducible exact mulOk_ _ _ (by omega) | with_reducible decide))))
    obtain ⟨c, hc1, hc2⟩ := LET_mem (k := 0) (n := vs.length) hvp six
    have hc3 : c = 97 := by simpa [LET] using hc1.symm
    subst hc3
    exact hold ⟨[97], c8, rfl, by simp, Wrd.one hc2, p8, by simp⟩
  rintro r e ⟨u, c9, rfl, hu0, hu, p9, rfl⟩
  clear p8 qe q1 q2 qa qw qn sl g0
  have hv : Wrd vs.length (x ++ y ++ x) := (hx.app hy (by omega)).app hx (by rw [List.length_append]; omega)
  have hul := hu.len
  have lv : (x ++ y ++ x).length ≤ 24 := by rw [List.length_append, List.length_append]; omega
  have ql := c_places sv hu hv hu0
  have e0 : x ++ y ++ x = x ++ (y ++ x) := List.append_assoc ..
  obtain ⟨v, hw⟩ : ∃ v, x ++ (y ++ x) = v := ⟨_, rfl⟩
  rw [e0, hw] at hv lv ql
  have lv2 : v.length ≤ 16777216 := by omega
  (repeat (first | simp [sizeLine_eq, hw, lv2] | (with_reducible refine wG_mk ?_ ?_; (first | with_reducible assumption | omega | with_reducible exact inB62_ _ (by omega) | with_reducible exact mulOk_ _ _ (by omega) | with_reducible decide))))
  with_reducible refine wE_compF (pI (plc u v)) id (by rw [len_rangeD, sizeLine_eq]; omega) ?_ ?_
  rotate_left
  · intro d2 hd2
    obtain ⟨j, hj, rfl⟩ := rangeD_nat hd2
    have e1 := cutL_mid v j (j + u.length)
    rw [Nat.add_sub_cancel_left, show ((j + u.length : Nat) : Int) = (j : Int) + u.length by omega] at e1
    have q := fEq_of (n := 1) (m := 1) (a := .str ((v.drop j).take u.length)) (b := .str u) (by rw [gd_str]; exact pI_sm hv.sm _ _) hu.g (by omega) (by omega)
    rw [eqD_str] at q
    have l9 : u.length ≤ 16777216 := by omega
    (repeat (first | simp [sizeLine_eq, lv2, l9, fSl_str, e1, q] | (with_reducible refine wG_mk ?_ ?_; (first | with_reducible assumption | omega | with_reducible exact inB62_ _ (by omega) | with_reducible exact mulOk_ _ _ (by omega) | with_reducible decide))))
    refine ⟨by simp [pI, plc], ?_⟩
    refine wI_mk (fun _ => ?_) (fun _ => ?_)
    · (repeat (first | simp [sizeLine_eq, wipeE] | (with_reducible refine wG_mk ?_ ?_; (first | with_reducible assumption | omega | with_reducible exact inB62_ _ (by omega) | with_reducible exact mulOk_ _ _ (by omega) | with_reducible decide))))
    · (repeat (first | simp [sizeLine_eq, wipeE] | (with_reducible refine wG_mk ?_ ?_; (first | with_reducible assumption | omega | with_reducible exact inB62_ _ (by omega) | with_reducible exact mulOk_ _ _ (by omega) | with_reducible decide))))
  rw [List.map_id]
  have g1 : ∀ n, gd (n + 1) (.tup (plcs u v)) = true := fun n => rangeD_gd _ _ _ (by omega) n
  have q1 := lsame (.lst [.tup (plcs u v), .tup (plcs u v)]) (by rw [gd_lst, gds_cons, gds_cons, gds_nil, g1 3]; simp)
  have hpl : List.filter (pI (plc u v)) (rangeD 0 v.length) = plcs u v := rfl
  have h1 : Wrd vs.length (x ++ z) := hx.app hz (by omega)
  have h2 : Wrd vs.length (z ++ y) := hz.app hy (by omega)
  have o1 : (x ++ z).length ≤ 16777216 := by rw [List.length_append]; omega
  have o2 : (z ++ y).length ≤ 16777216 := by rw [List.length_append]; omega
  have qo := c_overlaps sv h1 h2
  obtain ⟨f, hfx⟩ : ∃ f, x ++ z = f := ⟨_, rfl⟩
  obtain ⟨g, hgx⟩ : ∃ g, z ++ y = g := ⟨_, rfl⟩
  rw [hfx] at h1 o1 qo
  rw [hgx] at h2 o2 qo
  have f2 := h1.len
  have f3 := h2.len
  (repeat (first | simp [sizeLine_eq, hpl, ql, q1, pmL, hfx, hgx, o1, o2] | (with_reducible refine wG_mk ?_ ?_; (first | with_reducible assumption | omega | with_reducible exact inB62_ _ (by omega) | with_reducible exact mulOk_ _ _ (by omega) | with_reducible decide))))
  with_reducible refine wE_compF (pI (ovl f g)) id (by rw [len_rangeD, sizeLine_eq]; split <;> omega) ?_ ?_
  rotate_left
  · intro d2 hd2
    obtain ⟨j, hk1, hk, rfl⟩ := rangeD_nat1 hd2
    have hk2 : j ≤ f.length := by split at hk <;> omega
    have e1 := cutL_from f (f.length - j)
    rw [show ((f.length - j : Nat) : Int) = (f.length : Int) - j by omega] at e1
    have e2 := cutL_to g j
    have q := fEq_of (n := 1) (m := 1) (a := .str (f.drop (f.length - j))) (b := .str (g.take j)) (by rw [gd_str]; exact sm_drop h1.sm _) (by rw [gd_str]; exact sm_take h2.sm _) (by omega) (by omega)
    rw [eqD_str] at q
    (repeat (first | simp [sizeLine_eq, o1, o2, fSl_str, e1, e2, q] | (with_reducible refine wG_mk ?_ ?_; (first | with_reducible assumption | omega | with_reducible exact inB62_ _ (by omega) | with_reducible exact mulOk_ _ _ (by omega) | with_reducible decide))))
    refine ⟨by simp [pI, ovl], ?_⟩
    refine wI_mk (fun _ => ?_) (fun _ => ?_)
    · (repeat (first | simp [sizeLine_eq, wipeE] | (with_reducible refine wG_mk ?_ ?_; (first | with_reducible assumption | omega | with_reducible exact inB62_ _ (by omega) | with_reducible exact mulOk_ _ _ (by omega) | with_reducible decide))))
    · (repeat (first | simp [sizeLine_eq, wipeE] | (with_reducible refine wG_mk ?_ ?_; (first | with_reducible assumption | omega | with_reducible exact inB62_ _ (by omega) | with_reducible exact mulOk_ _ _ (by omega) | with_reducible decide))))
  rw [List.map_id]
  have g2 : ∀ n, gd (n + 1) (.tup (ovls f g)) = true := fun n => rangeD_gd _ _ _ (by split <;> omega) n
  have q2 := lsame (.lst [.tup (ovls f g), .tup (ovls f g)]) (by rw [gd_lst, gds_cons, gds_cons, gds_nil, g2 3]; simp)
  have hov : List.filter (pI (ovl f g)) (rangeD 1 (if g.length < f.length then (g.length : Int) else (f.length : Int))) = ovls f g := by unfold ovls; simp only [Int.ofNat_lt]
  (repeat (first | simp [sizeLine_eq, hov, qo, q2, pmL] | (with_reducible refine wG_mk ?_ ?_; (first | with_reducible assumption | omega | with_reducible exact inB62_ _ (by omega) | with_reducible exact mulOk_ _ _ (by omega) | with_reducible decide))))
  have ha := after_at hvp six
  cases ha with
  | intro c hc =>
  have hc1 := hc.1
  have hc2 := hc.2.1
  have hc3 := hc.2.2
  rw [wl1, show ((1 + n : Nat) : Int) = 1 + (n : Int) by omega] at hc1
  have lx1 : x.length + 1 ≤ 16777216 := by omega
  (repeat (first | simp [sizeLine_eq, hc1, lx1] | (with_reducible refine wG_mk ?_ ?_; (first | with_reducible assumption | omega | with_reducible exact inB62_ _ (by omega) | with_reducible exact mulOk_ _ _ (by omega) | with_reducible decide))))
  with_reducible refine take_w p9 (by decide) (by decide) fun r9 ca k0 k1 pa => ?_
  obtain ⟨o, ho1, ho2, ho3, ho4⟩ := odd_at hx (by omega) hc2 (of_decide_eq_true hc3) r9 k0 k1
  have w1 := c_isword sv (.str x) 1 hx.g (fun y e => by cases e; exact hx.len)
  have w2 := c_isword sv (.str y) 1 hy.g (fun y e => by cases e; exact hy.len)
  have w3 := c_isword sv o 2 ho2 ho4
  rw [hx.b] at w1
  rw [hy.b] at w2
  rw [ho3] at w3
  have q3 := lsame (.lst [.bl true, .bl true, .bl false]) (by simp)
  have ho1' : atI [Dt.non, .int 3, .tup [.str [97]], .str (x ++ [65]), .str (x ++ [c]), .lst [.str [97]], .bl true, .str (x ++ [32]), .str [49]] r9 = some o := ho1
  (repeat (first | simp [sizeLine_eq, ho1', w1, w2, w3, q3, pmL] | (with_reducible refine wG_mk ?_ ?_; (first | with_reducible assumption | omega | with_reducible exact inB62_ _ (by omega) | with_reducible exact mulOk_ _ _ (by omega) | with_reducible decide))))
  exact hold ⟨_, _, _, _, _, _, _, _, _, _, _, _, _, _, _, _, _, _, _, rfl, pa⟩

def topS (i : Nat) : Stmt := PySem.Challenge.pw_wholeoverlaps_k03_words_of_settings.main.body.getD i (.Pass ⟨0, 0, 0, 0⟩)
structure Txt (P : Program) (w : World) (K : PySem.W.Frag) (mg : Str → Option Value) (base : Heap) (fs : Nat → Addr) (fds : Nat → FuncData) (xD xI : Addr) (xfd : FuncData) : Prop where
  at__law_weight : FnAt K mg "_law_weight" (topS 35) ["setting", "word"] (fs 35) (fds 35)
  at__law_all : FnAt K mg "_law_all" (topS 37) ["setting", "k"] (fs 37) (fds 37)
  at__law_same : FnAt K mg "_law_same" (topS 34) ["got", "due"] (fs 34) (fds 34)
  at__law_take : FnAt K mg "_law_take" (topS 33) ["pot", "many"] (fs 33) (fds 33)
  at__law_word : FnAt K mg "_law_word" (topS 36) ["pot", "setting", "most"] (fs 36) (fds 36)
  at_is_integer : FnAt K mg "is_integer" (topS 7) ["value"] (fs 7) (fds 7)
  at_is_natural : FnAt K mg "is_natural" (topS 8) ["value"] (fs 8) (fds 8)
  at_is_field : FnAt K mg "is_field" (topS 10) ["value"] (fs 10) (fds 10)
  at_is_setting : FnAt K mg "is_setting" (topS 14) ["value"] (fs 14) (fds 14)
  at_check_setting : FnAt K mg "check_setting" (topS 15) ["setting"] (fs 15) (fds 15)
  at_letters_of : FnAt K mg "letters_of" (topS 16) ["setting"] (fs 16) (fds 16)
  at_is_word_of : FnAt K mg "is_word_of" (topS 17) ["setting", "value"] (fs 17) (fds 17)
  at_check_word : FnAt K mg "check_word" (topS 18) ["setting", "word"] (fs 18) (fds 18)
  at_check_two_words : FnAt K mg "check_two_words" (topS 26) ["setting", "word", "second_word"] (fs 26) (fds 26)
  at_weight_of : FnAt K mg "weight_of" (topS 19) ["setting", "word"] (fs 19) (fds 19)
  at_order_key : FnAt K mg "order_key" (topS 20) ["setting", "word"] (fs 20) (fds 20)
  at_is_less : FnAt K mg "is_less" (topS 27) ["setting", "word", "second_word"] (fs 27) (fds 27)
  at_is_word : FnAt K mg "is_word" (topS 24) ["setting", "value"] (fs 24) (fds 24)
  at_overlaps_of : FnAt K mg "overlaps_of" (topS 23) ["word", "second"] (fs 23) (fds 23)
  at_overlaps : FnAt K mg "overlaps" (topS 31) ["setting", "word", "second_word"] (fs 31) (fds 31)
  at_places_in : FnAt K mg "places_in" (topS 22) ["word", "second"] (fs 22) (fds 22)
  at_places : FnAt K mg "places" (topS 30) ["setting", "word", "second_word"] (fs 30) (fds 30)
  at_weight : FnAt K mg "weight" (topS 25) ["setting", "word"] (fs 25) (fds 25)
  at_check_integer : FnAt K mg "check_integer" (topS 9) ["value", "least"] (fs 9) (fds 9)
  at_words_number : FnAt K mg "words_number" (topS 29) ["setting", "k"] (fs 29) (fds 29)
  at_words_by : FnAt K mg "words_by" (topS 21) ["setting", "k"] (fs 21) (fds 21)
  at_words_of : FnAt K mg "words_of" (topS 28) ["setting", "k"] (fs 28) (fds 28)
  at_law : FnAt K mg "law" (topS 38) ["script"] (fs 38) (fds 38)
  c_HEAVIEST : ∃ t, mg "HEAVIEST" = some (Value.int 9 t)
  c_LARGEST : ∃ t, mg "LARGEST" = some (Value.int 99 t)
  c_LETTERS : ∃ t, mg "LETTERS" = some (Value.str (st [97, 98, 99, 100, 101, 102]) t)
  b_all : mg "all" = none
  b_bool : mg "bool" = none
  b_int : mg "int" = none
  b_isinstance : mg "isinstance" = none
  b_len : mg "len" = none
  b_list : mg "list" = none
  b_min : mg "min" = none
  b_range : mg "range" = none
  b_set : mg "set" = none
  b_sorted : mg "sorted" = none
  b_str : mg "str" = none
  b_sum : mg "sum" = none
  b_tuple : mg "tuple" = none
  b_zip : mg "zip" = none
  xk : XK P w K mg base xD xI xfd xNames
  x_OverlapsError : ClsAt K mg "OverlapsError"
  x_InvalidInteger : ClsAt K mg "InvalidInteger"
  x_InvalidSetting : ClsAt K mg "InvalidSetting"
  x_InvalidWord : ClsAt K mg "InvalidWord"
section
variable {P : Program} {w : World} {K : PySem.W.Frag} {mg : Str → Option Value} {base : Heap} {fs : Nat → Addr} {fds : Nat → FuncData} {xD xI : Addr} {xfd : FuncData}
theorem sc__law_weight : FnScope ["setting", "word", "sign"] ["setting", "word"] (defScope (topS 35)) := ⟨rfl, rfl, rfl, by decide +kernel, rfl, by decide +kernel, by decide +kernel⟩
theorem ok__law_weight (T : Txt P w K mg base fs fds xD xI xfd) : FnOk P w K mg base (L2.CX P w) 1 (fs 35) (fds 35) ["setting", "word"] (spF K mg 2 s__law_weight) :=
  okF (N := ["setting", "word", "sign"]) (ps := ["setting", "word"]) (k := 0) T.at__law_weight.F sc__law_weight (m := m__law_weight) (fun _ _ _ _ _ _ ct => (rss_one (rs_ret (re_cb (prim_sum ct.calm) T.b_sum PyProof.Rows.boot_sum (rs_cons (re_comp ct (blkOk_by (N := ["setting", "word", "sign"]) (own := [("sign", 2)]) (sc := (defScope (topS 35))) (by decide +kernel)) (ri_seq (re_var 1)) (fun _ _ _ _ _ ct => (rg_name 2 (out_wipe (by decide)) ct.nd)) (fun _ _ _ _ _ ct => rts_nil) (fun _ _ _ _ _ ct => (re_ix prim_ix (re_ix prim_ix (re_var 0) re_int) (re_m1 F.slot_str_index F.type_str_index prim_index (re_str [97, 98, 99, 100, 101, 102]) (re_var 2))))) rs_nil)))))
theorem sc__law_all : FnScope ["setting", "k", "found", "ring", "turn", "word", "longer", "sign"] ["setting", "k"] (defScope (topS 37)) := ⟨rfl, rfl, rfl, by decide +kernel, rfl, by decide +kernel, by decide +kernel⟩
theorem ok__law_all (T : Txt P w K mg base fs fds xD xI xfd) : FnOk P w K mg base (L2.CX P w) 2 (fs 37) (fds 37) ["setting", "k"] (spF K mg 2 s__law_all) :=
  okF (N := ["setting", "k", "found", "ring", "turn", "word", "longer", "sign"]) (ps := ["setting", "k"]) (k := 1) T.at__law_all.F sc__law_all (m := m__law_all) (fun _ _ _ _ _ _ ct => (rss_cons (rs_par2 2 3 (by decide) ct.calm ct.nd (re_lst vs_nil) (re_lst (vs_cons (re_str []) vs_nil))) (rss_cons (rs_for ct (ri_range1 T.b_range (re_bin prim_add (re_var 1) re_int)) (rg_name 4 (out_take (by decide)) ct.nd) (rss_cons (rs_set 2 (by decide) ct.nd (re_bin prim_add (re_var 2) (re_comp ct (blkOk_by (N := ["setting", "k", "found", "ring", "turn", "word", "longer", "sign"]) (own := [("word", 5)]) (sc := (defScope (topS 37))) (by decide +kernel)) (ri_seq (re_var 3)) (fun _ _ _ _ _ ct => (rg_name 5 (out_wipe (by decide)) ct.nd)) (fun _ _ _ _ _ ct => (rts_one (rt_cmp (prim_eq ct.room) (re_call ct.tk (ct.room.mono (by decide)) (ok__law_weight T) T.at__law_weight.g T.at__law_weight.F.kp T.at__law_weight.b (vs_cons (re_var 0) (vs_cons (re_var 5) vs_nil))) (re_var 1)))) (fun _ _ _ _ _ ct => (re_var 5))))) (rss_cons (rs_set 6 (by decide) ct.nd (re_lst vs_nil)) (rss_cons (rs_for ct (ri_seq (re_var 3)) (rg_name 5 (out_take (by decide)) ct.nd) (rss_one (rs_set 6 (by decide) ct.nd (re_bin prim_add (re_var 6) (re_comp ct (blkOk_by (N := ["setting", "k", "found", "ring", "turn", "word", "longer", "sign"]) (own := [("sign", 7)]) (sc := (defScope (topS 37))) (by decide +kernel)) (ri_seq (re_slice (re_str [97, 98, 99, 100, 101, 102]) ro_none (ro_some (re_cb prim_len T.b_len PySem.boot_len (rs_cons (re_ix prim_ix (re_var 0) re_int) rs_nil))))) (fun _ _ _ _ _ ct => (rg_name 7 (out_wipe (by decide)) ct.nd)) (fun _ _ _ _ _ ct => (rts_one (rt_cmp (prim_le ct.room) (re_call ct.tk (ct.room.mono (by decide)) (ok__law_weight T) T.at__law_weight.g T.at__law_weight.F.kp T.at__law_weight.b (vs_cons (re_var 0) (vs_cons (re_bin prim_add (re_var 5) (re_var 7)) vs_nil))) (re_var 1)))) (fun _ _ _ _ _ ct => (re_bin prim_add (re_var 5) (re_var 7)))))))) (rss_one (rs_set 3 (by decide) ct.nd (re_var 6))))))) (rss_one (rs_ret (re_ct prim_tuple T.b_tuple PyProof.Rows.boot_tuple (rs_cons (re_sortset ct T.b_sorted T.b_set (re_var 2)) rs_nil)))))))
theorem sc__law_same : FnScope ["got", "due", "k"] ["got", "due"] (defScope (topS 34)) := ⟨rfl, rfl, rfl, by decide +kernel, rfl, by decide +kernel, by decide +kernel⟩
theorem ok__law_same_rec (T : Txt P w K mg base fs fds xD xI xfd) : ∀ n, FnOk P w K mg base (L2.CX P w) (1 + n) (fs 34) (fds 34) ["got", "due"] (spF K mg 2 (s__law_same n))
  | 0 => FnOk.stuck0 (by rfl)
  | n + 1 => by
    have O := ok__law_same_rec T n
    have hk : 1 + n ≤ 1 + n := Nat.le_refl _
    show FnOk P w K mg base (L2.CX P w) (1 + n + 1) (fs 34) (fds 34) ["got", "due"] (spF K mg 2 (semF 3 (m__law_same (s__law_same n))))
    generalize s__law_same n = S at O ⊢
    exact okF (N := ["got", "due", "k"]) (ps := ["got", "due"]) (k := 1 + n) T.at__law_same.F sc__law_same (m := m__law_same S) (fun _ _ _ _ _ _ ct => (rss_cons (rs_if (rt_cmp prim_isN (re_var 1) re_non) (rss_one (rs_ret (re_cmp prim_isN (re_var 0) re_non))) rss_nil) (rss_cons (rs_if (rt_tru (re_isi2 "bool" "str" T.b_isinstance T.b_bool PyProof.Rows.boot_bool T.b_str PyProof.Rows.boot_str (re_var 1))) (rss_one (rs_ret (re_and (re_cmp (prim_eq ct.room) (re_isi "bool" T.b_isinstance T.b_bool PyProof.Rows.boot_bool (re_var 0)) (re_isi "bool" T.b_isinstance T.b_bool PyProof.Rows.boot_bool (re_var 1))) (re_and (re_isi2 "bool" "str" T.b_isinstance T.b_bool PyProof.Rows.boot_bool T.b_str PyProof.Rows.boot_str (re_var 0)) (re_one (re_cmp (prim_eq ct.room) (re_var 0) (re_var 1))))))) rss_nil) (rss_cons (rs_if (rt_tru (re_isi "int" T.b_isinstance T.b_int PyProof.Rows.boot_int (re_var 1))) (rss_one (rs_ret (re_and (re_isi "int" T.b_isinstance T.b_int PyProof.Rows.boot_int (re_var 0)) (re_and (re_not (re_isi "bool" T.b_isinstance T.b_bool PyProof.Rows.boot_bool (re_var 0))) (re_one (re_cmp (prim_eq ct.room) (re_var 0) (re_var 1))))))) rss_nil) (rss_cons (rs_if (rt_w (rw_or (rt_cmp (prim_ne ct.room) (re_isi "list" T.b_isinstance T.b_list PyProof.Rows.boot_list (re_var 1)) (re_isi "list" T.b_isinstance T.b_list PyProof.Rows.boot_list (re_var 0))) (rw_or1 (rt_cmp (prim_ne ct.room) (re_isi "tuple" T.b_isinstance T.b_tuple PyProof.Rows.boot_tuple (re_var 1)) (re_isi "tuple" T.b_isinstance T.b_tuple PyProof.Rows.boot_tuple (re_var 0)))))) (rss_one (rs_ret re_bl)) rss_nil) (rss_one (rs_ret (re_and (re_cmp (prim_eq ct.room) (re_cb prim_len T.b_len PySem.boot_len (rs_cons (re_var 0) rs_nil)) (re_cb prim_len T.b_len PySem.boot_len (rs_cons (re_var 1) rs_nil))) (re_one (re_cb (prim_all ct.calm) T.b_all PyProof.Rows.boot_all (rs_cons (re_comp ct (blkOk_by (N := ["got", "due", "k"]) (own := [("k", 2)]) (sc := (defScope (topS 34))) (by decide +kernel)) (ri_range1 T.b_range (re_cb prim_len T.b_len PySem.boot_len (rs_cons (re_var 1) rs_nil))) (fun _ _ _ _ _ ct => (rg_name 2 (out_wipe (by decide)) ct.nd)) (fun _ _ _ _ _ ct => rts_nil) (fun _ _ _ _ _ ct => (re_call ct.tk (ct.room.mono hk) O T.at__law_same.g T.at__law_same.F.kp T.at__law_same.b (vs_cons (re_ix prim_ix (re_var 0) (re_var 2)) (vs_cons (re_ix prim_ix (re_var 1) (re_var 2)) vs_nil))))) rs_nil)))))))))))
theorem ok__law_same (T : Txt P w K mg base fs fds xD xI xfd) : FnOk P w K mg base (L2.CX P w) 7 (fs 34) (fds 34) ["got", "due"] (spF K mg 2 (s__law_same 6)) := ok__law_same_rec T 6
theorem sc__law_take : FnScope ["pot", "many", "cell", "mixed", "drawn_now"] ["pot", "many"] (defScope (topS 33)) := ⟨rfl, rfl, rfl, by decide +kernel, rfl, by decide +kernel, by decide +kernel⟩
theorem ok__law_take (T : Txt P w K mg base fs fds xD xI xfd) : FnOk P w K mg base (L2.CX P w) 1 (fs 33) (fds 33) ["pot", "many"] (spFR K 2 s__law_take) :=
  okR (N := ["pot", "many", "cell", "mixed", "drawn_now"]) (ps := ["pot", "many"]) (k := 0) T.at__law_take.F sc__law_take (by decide) (m := m__law_take) (fun _ _ _ _ _ _ ct => (rss_cons (rs_if (rt_w (rw_and (rt_cmp (prim_eq ct.room) (re_ix prim_ix (re_var 0) re_int) re_int) (rw_and1 (rt_cmp (prim_lt ct.room) (re_ix prim_ix (re_var 0) re_int) (re_cb prim_len T.b_len PySem.boot_len (rs_cons (re_var 0) rs_nil)))))) (rss_cons (rs_set 2 (by decide) ct.nd (re_ix prim_ix (re_var 0) (re_ix prim_ix (re_var 0) re_int))) (rss_cons (rs_augIx 0 ip_add re_int re_int) (rss_one (rs_if (rt_cmp (prim_ge ct.room) (re_var 2) (re_bin prim_pow re_int re_int)) (rss_one (rs_setIx 0 (re_bin prim_sub (re_var 2) (re_bin prim_pow re_int re_int)) re_int)) (rss_cons (rs_set 3 (by decide) ct.nd (re_bin prim_mod (re_ct prim_int T.b_int PyProof.Rows.boot_int (rs_cons (re_var 2) rs_nil)) re_int)) (rss_cons (rs_set 3 (by decide) ct.nd (re_bin prim_mod (re_ct prim_int T.b_int PyProof.Rows.boot_int (rs_cons (re_bin prim_add (re_bin prim_add (re_bin prim_mulX (re_var 3) (re_var 3)) (re_bin prim_mulX re_int (re_var 3))) (re_bin prim_mulX re_int (re_ix prim_ix (re_var 0) re_int))) rs_nil)) re_int)) (rss_one (rs_setIx 0 (re_bin prim_mod (re_ct prim_int T.b_int PyProof.Rows.boot_int (rs_cons (re_bin prim_add (re_ix prim_ix (re_var 0) re_int) (re_var 3)) rs_nil)) re_int) re_int)))))))) rss_nil) (rss_cons (rs_if (rt_cmp (prim_gt ct.room) (re_ix prim_ix (re_var 0) re_int) re_int) (rss_cons (rs_set 4 (by decide) ct.nd (re_bin prim_mod (re_ct prim_int T.b_int PyProof.Rows.boot_int (rs_cons (re_ix prim_ix (re_var 0) re_int) rs_nil)) (re_var 1))) (rss_cons (rs_setIx 0 (re_bin prim_div (re_ix prim_ix (re_var 0) re_int) (re_var 1)) re_int) (rss_one (rs_ret (re_var 4))))) rss_nil) (rss_cons (rs_setIx 0 (re_bin prim_mod (re_ct prim_int T.b_int PyProof.Rows.boot_int (rs_cons (re_bin prim_add (re_bin prim_add (re_bin prim_mulX (re_ix prim_ix (re_var 0) re_int) re_int) (re_bin prim_mulX re_int (re_ix prim_ix (re_var 0) re_int))) re_int) rs_nil)) re_int) re_int) (rss_cons (rs_setIx 0 (re_bin prim_mod (re_ct prim_int T.b_int PyProof.Rows.boot_int (rs_cons (re_bin prim_add (re_bin prim_mulX (re_ix prim_ix (re_var 0) re_int) (re_ix prim_ix (re_var 0) re_int)) re_int) rs_nil)) re_int) re_int) (rss_one (rs_ret (re_bin prim_mod (re_ct prim_int T.b_int PyProof.Rows.boot_int (rs_cons (re_bin prim_div (re_ix prim_ix (re_var 0) re_int) re_int) rs_nil)) (re_var 1)))))))))
theorem sc__law_word : FnScope ["pot", "setting", "most", "at"] ["pot", "setting", "most"] (defScope (topS 36)) := ⟨rfl, rfl, rfl, by decide +kernel, rfl, by decide +kernel, by decide +kernel⟩
theorem ok__law_word (T : Txt P w K mg base fs fds xD xI xfd) : FnOk P w K mg base (L2.CX P w) 2 (fs 36) (fds 36) ["pot", "setting", "most"] (spFR K 3 s__law_word) :=
  okR (N := ["pot", "setting", "most", "at"]) (ps := ["pot", "setting", "most"]) (k := 1) T.at__law_word.F sc__law_word (by decide) (m := m__law_word) (fun _ _ _ _ _ _ ct => (rss_one (rs_ret (re_m1 F.slot_str_join F.type_str_join prim_join (re_str []) (re_comp ct (blkOk_by (N := ["pot", "setting", "most", "at"]) (own := [("at", 3)]) (sc := (defScope (topS 36))) (by decide +kernel)) (ri_range1 T.b_range (re_callR 0 ct.tk (ct.room.mono (by decide)) (ok__law_take T) T.at__law_take.g T.at__law_take.F.kp T.at__law_take.b (vs_cons (re_bin prim_add (re_var 2) re_int) vs_nil))) (fun _ _ _ _ _ ct => (rg_name 3 (out_wipe (by decide)) ct.nd)) (fun _ _ _ _ _ ct => rts_nil) (fun _ _ _ _ _ ct => (re_ix prim_ix (re_str [97, 98, 99, 100, 101, 102]) (re_callR 0 ct.tk (ct.room.mono (by decide)) (ok__law_take T) T.at__law_take.g T.at__law_take.F.kp T.at__law_take.b (vs_cons (re_cb prim_len T.b_len PySem.boot_len (rs_cons (re_ix prim_ix (re_var 1) re_int) rs_nil)) vs_nil)))))))))
theorem sc_is_integer : FnScope ["value"] ["value"] (defScope (topS 7)) := ⟨rfl, rfl, rfl, by decide +kernel, rfl, by decide +kernel, by decide +kernel⟩
theorem ok_is_integer (T : Txt P w K mg base fs fds xD xI xfd) : FnOk P w K mg base (L2.CX P w) 1 (fs 7) (fds 7) ["value"] (spF K mg 1 s_is_integer) :=
  okF (N := ["value"]) (ps := ["value"]) (k := 0) T.at_is_integer.F sc_is_integer (m := m_is_integer) (fun _ _ _ _ _ _ ct => (rss_one (rs_ret (re_and (re_isi "int" T.b_isinstance T.b_int PyProof.Rows.boot_int (re_var 0)) (re_one (re_not (re_isi "bool" T.b_isinstance T.b_bool PyProof.Rows.boot_bool (re_var 0))))))))
theorem sc_is_natural : FnScope ["value"] ["value"] (defScope (topS 8)) := ⟨rfl, rfl, rfl, by decide +kernel, rfl, by decide +kernel, by decide +kernel⟩
theorem ok_is_natural (T : Txt P w K mg base fs fds xD xI xfd) : FnOk P w K mg base (L2.CX P w) 2 (fs 8) (fds 8) ["value"] (spF K mg 1 s_is_natural) :=
  okF (N := ["value"]) (ps := ["value"]) (k := 1) T.at_is_natural.F sc_is_natural (m := m_is_natural) (fun _ _ _ _ _ _ ct => (rss_one (rs_ret (re_and (re_call ct.tk (ct.room.mono (by decide)) (ok_is_integer T) T.at_is_integer.g T.at_is_integer.F.kp T.at_is_integer.b (vs_cons (re_var 0) vs_nil)) (re_one (re_cmp (prim_ge ct.room) (re_var 0) re_int))))))
theorem sc_is_field : FnScope ["value", "by"] ["value"] (defScope (topS 10)) := ⟨rfl, rfl, rfl, by decide +kernel, rfl, by decide +kernel, by decide +kernel⟩
theorem ok_is_field (T : Txt P w K mg base fs fds xD xI xfd) : FnOk P w K mg base (L2.CX P w) 3 (fs 10) (fds 10) ["value"] (spF K mg 1 s_is_field) :=
  okF (N := ["value", "by"]) (ps := ["value"]) (k := 2) T.at_is_field.F sc_is_field (m := m_is_field) (fun _ _ _ _ _ _ ct => (rss_cons (rs_if (rt_w (rw_or (rt_not (rt_tru (re_call ct.tk (ct.room.mono (by decide)) (ok_is_natural T) T.at_is_natural.g T.at_is_natural.F.kp T.at_is_natural.b (vs_cons (re_var 0) vs_nil)))) (rw_or1 (rt_cmp (prim_gt ct.room) (re_var 0) (re_gint T.c_LARGEST))))) (rss_one (rs_ret re_bl)) rss_nil) (rss_one (rs_ret (re_or (re_cmp (prim_eq ct.room) (re_var 0) re_int) (re_one (re_and (re_cmp (prim_gt ct.room) (re_var 0) re_int) (re_one (re_cb (prim_all ct.calm) T.b_all PyProof.Rows.boot_all (rs_cons (re_comp ct (blkOk_by (N := ["value", "by"]) (own := [("by", 1)]) (sc := (defScope (topS 10))) (by decide +kernel)) (ri_range2 T.b_range re_int (re_var 0)) (fun _ _ _ _ _ ct => (rg_name 1 (out_wipe (by decide)) ct.nd)) (fun _ _ _ _ _ ct => rts_nil) (fun _ _ _ _ _ ct => (re_cmp (prim_ne ct.room) (re_bin prim_mod (re_var 0) (re_var 1)) re_int))) rs_nil))))))))))
theorem sc_is_setting : FnScope ["value", "own"] ["value"] (defScope (topS 14)) := ⟨rfl, rfl, rfl, by decide +kernel, rfl, by decide +kernel, by decide +kernel⟩
theorem ok_is_setting (T : Txt P w K mg base fs fds xD xI xfd) : FnOk P w K mg base (L2.CX P w) 4 (fs 14) (fds 14) ["value"] (spF K mg 1 s_is_setting) :=
  okF (N := ["value", "own"]) (ps := ["value"]) (k := 3) T.at_is_setting.F sc_is_setting (m := m_is_setting) (fun _ _ _ _ _ _ ct => (rss_cons (rs_if (rt_w (rw_or (rt_not (rt_tru (re_isi "tuple" T.b_isinstance T.b_tuple PyProof.Rows.boot_tuple (re_var 0)))) (rw_or (rt_cmp (prim_ne ct.room) (re_cb prim_len T.b_len PySem.boot_len (rs_cons (re_var 0) rs_nil)) re_int) (rw_or (rt_not (rt_tru (re_call ct.tk (ct.room.mono (by decide)) (ok_is_field T) T.at_is_field.g T.at_is_field.F.kp T.at_is_field.b (vs_cons (re_ix prim_ix (re_var 0) re_int) vs_nil)))) (rw_or1 (rt_not (rt_tru (re_isi "tuple" T.b_isinstance T.b_tuple PyProof.Rows.boot_tuple (re_ix prim_ix (re_var 0) re_int))))))))) (rss_one (rs_ret re_bl)) rss_nil) (rss_cons (rs_if (rt_not (rt_chain (prim_lt ct.room) (prim_le ct.room) re_int (re_cb prim_len T.b_len PySem.boot_len (rs_cons (re_ix prim_ix (re_var 0) re_int) rs_nil)) (re_cb prim_len T.b_len PySem.boot_len (rs_cons (re_gstr T.c_LETTERS) rs_nil)))) (rss_one (rs_ret re_bl)) rss_nil) (rss_one (rs_ret (re_cb (prim_all ct.calm) T.b_all PyProof.Rows.boot_all (rs_cons (re_comp ct (blkOk_by (N := ["value", "own"]) (own := [("own", 1)]) (sc := (defScope (topS 14))) (by decide +kernel)) (ri_seq (re_ix prim_ix (re_var 0) re_int)) (fun _ _ _ _ _ ct => (rg_name 1 (out_wipe (by decide)) ct.nd)) (fun _ _ _ _ _ ct => rts_nil) (fun _ _ _ _ _ ct => (re_and (re_call ct.tk (ct.room.mono (by decide)) (ok_is_integer T) T.at_is_integer.g T.at_is_integer.F.kp T.at_is_integer.b (vs_cons (re_var 1) vs_nil)) (re_one (re_chain (prim_lt ct.room) (prim_le ct.room) re_int (re_var 1) (re_gint T.c_HEAVIEST)))))) rs_nil)))))))
theorem sc_check_setting : FnScope ["setting"] ["setting"] (defScope (topS 15)) := ⟨rfl, rfl, rfl, by decide +kernel, rfl, by decide +kernel, by decide +kernel⟩
theorem ok_check_setting (T : Txt P w K mg base fs fds xD xI xfd) : FnOk P w K mg base (L2.CX P w) 5 (fs 15) (fds 15) ["setting"] (spF K mg 1 s_check_setting) :=
  okF (N := ["setting"]) (ps := ["setting"]) (k := 4) T.at_check_setting.F sc_check_setting (m := m_check_setting) (fun _ _ _ _ _ _ ct => (rss_one (rs_if (rt_not (rt_tru (re_call ct.tk (ct.room.mono (by decide)) (ok_is_setting T) T.at_is_setting.g T.at_is_setting.F.kp T.at_is_setting.b (vs_cons (re_var 0) vs_nil)))) (rss_one (rs_raise ct.calm ct.tk (ct.room.mono (by decide)) T.xk T.x_InvalidSetting (re_var 0))) rss_nil)))
theorem sc_letters_of : FnScope ["setting"] ["setting"] (defScope (topS 16)) := ⟨rfl, rfl, rfl, by decide +kernel, rfl, by decide +kernel, by decide +kernel⟩
theorem ok_letters_of (T : Txt P w K mg base fs fds xD xI xfd) : FnOk P w K mg base (L2.CX P w) 1 (fs 16) (fds 16) ["setting"] (spF K mg 1 s_letters_of) :=
  okF (N := ["setting"]) (ps := ["setting"]) (k := 0) T.at_letters_of.F sc_letters_of (m := m_letters_of) (fun _ _ _ _ _ _ ct => (rss_one (rs_ret (re_slice (re_gstr T.c_LETTERS) ro_none (ro_some (re_cb prim_len T.b_len PySem.boot_len (rs_cons (re_ix prim_ix (re_var 0) re_int) rs_nil)))))))
theorem sc_is_word_of : FnScope ["setting", "value", "sign"] ["setting", "value"] (defScope (topS 17)) := ⟨rfl, rfl, rfl, by decide +kernel, rfl, by decide +kernel, by decide +kernel⟩
theorem ok_is_word_of (T : Txt P w K mg base fs fds xD xI xfd) : FnOk P w K mg base (L2.CX P w) 2 (fs 17) (fds 17) ["setting", "value"] (spF K mg 2 s_is_word_of) :=
  okF (N := ["setting", "value", "sign"]) (ps := ["setting", "value"]) (k := 1) T.at_is_word_of.F sc_is_word_of (m := m_is_word_of) (fun _ _ _ _ _ _ ct => (rss_one (rs_ret (re_and (re_isi "str" T.b_isinstance T.b_str PyProof.Rows.boot_str (re_var 1)) (re_one (re_cb (prim_all ct.calm) T.b_all PyProof.Rows.boot_all (rs_cons (re_comp ct (blkOk_by (N := ["setting", "value", "sign"]) (own := [("sign", 2)]) (sc := (defScope (topS 17))) (by decide +kernel)) (ri_seq (re_var 1)) (fun _ _ _ _ _ ct => (rg_name 2 (out_wipe (by decide)) ct.nd)) (fun _ _ _ _ _ ct => rts_nil) (fun _ _ _ _ _ ct => (re_cmp prim_in (re_var 2) (re_call ct.tk (ct.room.mono (by decide)) (ok_letters_of T) T.at_letters_of.g T.at_letters_of.F.kp T.at_letters_of.b (vs_cons (re_var 0) vs_nil))))) rs_nil)))))))
theorem sc_check_word : FnScope ["setting", "word"] ["setting", "word"] (defScope (topS 18)) := ⟨rfl, rfl, rfl, by decide +kernel, rfl, by decide +kernel, by decide +kernel⟩
theorem ok_check_word (T : Txt P w K mg base fs fds xD xI xfd) : FnOk P w K mg base (L2.CX P w) 3 (fs 18) (fds 18) ["setting", "word"] (spF K mg 2 s_check_word) :=
  okF (N := ["setting", "word"]) (ps := ["setting", "word"]) (k := 2) T.at_check_word.F sc_check_word (m := m_check_word) (fun _ _ _ _ _ _ ct => (rss_one (rs_if (rt_not (rt_tru (re_call ct.tk (ct.room.mono (by decide)) (ok_is_word_of T) T.at_is_word_of.g T.at_is_word_of.F.kp T.at_is_word_of.b (vs_cons (re_var 0) (vs_cons (re_var 1) vs_nil))))) (rss_one (rs_raise ct.calm ct.tk (ct.room.mono (by decide)) T.xk T.x_InvalidWord (re_var 1))) rss_nil)))
theorem sc_check_two_words : FnScope ["setting", "word", "second_word"] ["setting", "word", "second_word"] (defScope (topS 26)) := ⟨rfl, rfl, rfl, by decide +kernel, rfl, by decide +kernel, by decide +kernel⟩
theorem ok_check_two_words (T : Txt P w K mg base fs fds xD xI xfd) : FnOk P w K mg base (L2.CX P w) 6 (fs 26) (fds 26) ["setting", "word", "second_word"] (spF K mg 3 s_check_two_words) :=
  okF (N := ["setting", "word", "second_word"]) (ps := ["setting", "word", "second_word"]) (k := 5) T.at_check_two_words.F sc_check_two_words (m := m_check_two_words) (fun _ _ _ _ _ _ ct => (rss_cons (rs_expr (re_call ct.tk (ct.room.mono (by decide)) (ok_check_setting T) T.at_check_setting.g T.at_check_setting.F.kp T.at_check_setting.b (vs_cons (re_var 0) vs_nil))) (rss_cons (rs_expr (re_call ct.tk (ct.room.mono (by decide)) (ok_check_word T) T.at_check_word.g T.at_check_word.F.kp T.at_check_word.b (vs_cons (re_var 0) (vs_cons (re_var 1) vs_nil)))) (rss_one (rs_expr (re_call ct.tk (ct.room.mono (by decide)) (ok_check_word T) T.at_check_word.g T.at_check_word.F.kp T.at_check_word.b (vs_cons (re_var 0) (vs_cons (re_var 2) vs_nil))))))))
theorem sc_weight_of : FnScope ["setting", "word", "sign"] ["setting", "word"] (defScope (topS 19)) := ⟨rfl, rfl, rfl, by decide +kernel, rfl, by decide +kernel, by decide +kernel⟩
theorem ok_weight_of (T : Txt P w K mg base fs fds xD xI xfd) : FnOk P w K mg base (L2.CX P w) 1 (fs 19) (fds 19) ["setting", "word"] (spF K mg 2 s_weight_of) :=
  okF (N := ["setting", "word", "sign"]) (ps := ["setting", "word"]) (k := 0) T.at_weight_of.F sc_weight_of (m := m_weight_of) (fun _ _ _ _ _ _ ct => (rss_one (rs_ret (re_cb (prim_sum ct.calm) T.b_sum PyProof.Rows.boot_sum (rs_cons (re_comp ct (blkOk_by (N := ["setting", "word", "sign"]) (own := [("sign", 2)]) (sc := (defScope (topS 19))) (by decide +kernel)) (ri_seq (re_var 1)) (fun _ _ _ _ _ ct => (rg_name 2 (out_wipe (by decide)) ct.nd)) (fun _ _ _ _ _ ct => rts_nil) (fun _ _ _ _ _ ct => (re_ix prim_ix (re_ix prim_ix (re_var 0) re_int) (re_m1 F.slot_str_index F.type_str_index prim_index (re_gstr T.c_LETTERS) (re_var 2))))) rs_nil)))))
theorem sc_order_key : FnScope ["setting", "word"] ["setting", "word"] (defScope (topS 20)) := ⟨rfl, rfl, rfl, by decide +kernel, rfl, by decide +kernel, by decide +kernel⟩
theorem ok_order_key (T : Txt P w K mg base fs fds xD xI xfd) : FnOk P w K mg base (L2.CX P w) 2 (fs 20) (fds 20) ["setting", "word"] (spF K mg 2 s_order_key) :=
  okF (N := ["setting", "word"]) (ps := ["setting", "word"]) (k := 1) T.at_order_key.F sc_order_key (m := m_order_key) (fun _ _ _ _ _ _ ct => (rss_one (rs_ret (re_tup (vs_cons (re_call ct.tk (ct.room.mono (by decide)) (ok_weight_of T) T.at_weight_of.g T.at_weight_of.F.kp T.at_weight_of.b (vs_cons (re_var 0) (vs_cons (re_var 1) vs_nil))) (vs_cons (re_var 1) vs_nil))))))
theorem sc_is_less : FnScope ["setting", "word", "second_word"] ["setting", "word", "second_word"] (defScope (topS 27)) := ⟨rfl, rfl, rfl, by decide +kernel, rfl, by decide +kernel, by decide +kernel⟩
theorem ok_is_less (T : Txt P w K mg base fs fds xD xI xfd) : FnOk P w K mg base (L2.CX P w) 7 (fs 27) (fds 27) ["setting", "word", "second_word"] (spF K mg 3 s_is_less) :=
  okF (N := ["setting", "word", "second_word"]) (ps := ["setting", "word", "second_word"]) (k := 6) T.at_is_less.F sc_is_less (m := m_is_less) (fun _ _ _ _ _ _ ct => (rss_cons (rs_expr (re_call ct.tk (ct.room.mono (by decide)) (ok_check_two_words T) T.at_check_two_words.g T.at_check_two_words.F.kp T.at_check_two_words.b (vs_cons (re_var 0) (vs_cons (re_var 1) (vs_cons (re_var 2) vs_nil))))) (rss_one (rs_ret (re_cmp (prim_lt ct.room) (re_call ct.tk (ct.room.mono (by decide)) (ok_order_key T) T.at_order_key.g T.at_order_key.F.kp T.at_order_key.b (vs_cons (re_var 0) (vs_cons (re_var 1) vs_nil))) (re_call ct.tk (ct.room.mono (by decide)) (ok_order_key T) T.at_order_key.g T.at_order_key.F.kp T.at_order_key.b (vs_cons (re_var 0) (vs_cons (re_var 2) vs_nil))))))))
theorem sc_is_word : FnScope ["setting", "value"] ["setting", "value"] (defScope (topS 24)) := ⟨rfl, rfl, rfl, by decide +kernel, rfl, by decide +kernel, by decide +kernel⟩
theorem ok_is_word (T : Txt P w K mg base fs fds xD xI xfd) : FnOk P w K mg base (L2.CX P w) 6 (fs 24) (fds 24) ["setting", "value"] (spF K mg 2 s_is_word) :=
  okF (N := ["setting", "value"]) (ps := ["setting", "value"]) (k := 5) T.at_is_word.F sc_is_word (m := m_is_word) (fun _ _ _ _ _ _ ct => (rss_cons (rs_expr (re_call ct.tk (ct.room.mono (by decide)) (ok_check_setting T) T.at_check_setting.g T.at_check_setting.F.kp T.at_check_setting.b (vs_cons (re_var 0) vs_nil))) (rss_one (rs_ret (re_call ct.tk (ct.room.mono (by decide)) (ok_is_word_of T) T.at_is_word_of.g T.at_is_word_of.F.kp T.at_is_word_of.b (vs_cons (re_var 0) (vs_cons (re_var 1) vs_nil)))))))
theorem sc_overlaps_of : FnScope ["word", "second", "many"] ["word", "second"] (defScope (topS 23)) := ⟨rfl, rfl, rfl, by decide +kernel, rfl, by decide +kernel, by decide +kernel⟩
theorem ok_overlaps_of (T : Txt P w K mg base fs fds xD xI xfd) : FnOk P w K mg base (L2.CX P w) 1 (fs 23) (fds 23) ["word", "second"] (spF K mg 2 s_overlaps_of) :=
  okF (N := ["word", "second", "many"]) (ps := ["word", "second"]) (k := 0) T.at_overlaps_of.F sc_overlaps_of (m := m_overlaps_of) (fun _ _ _ _ _ _ ct => (rss_one (rs_ret (re_comp ct (blkOk_by (N := ["word", "second", "many"]) (own := [("many", 2)]) (sc := (defScope (topS 23))) (by decide +kernel)) (ri_range2 T.b_range re_int (re_cb (prim_min2 ct.calm) T.b_min PyProof.Rows.boot_min (rs_cons (re_cb prim_len T.b_len PySem.boot_len (rs_cons (re_var 0) rs_nil)) (rs_cons (re_cb prim_len T.b_len PySem.boot_len (rs_cons (re_var 1) rs_nil)) rs_nil)))) (fun _ _ _ _ _ ct => (rg_name 2 (out_wipe (by decide)) ct.nd)) (fun _ _ _ _ _ ct => (rts_one (rt_cmp (prim_eq ct.room) (re_slice (re_var 0) (ro_some (re_bin prim_sub (re_cb prim_len T.b_len PySem.boot_len (rs_cons (re_var 0) rs_nil)) (re_var 2))) ro_none) (re_slice (re_var 1) ro_none (ro_some (re_var 2)))))) (fun _ _ _ _ _ ct => (re_var 2))))))
theorem sc_overlaps : FnScope ["setting", "word", "second_word"] ["setting", "word", "second_word"] (defScope (topS 31)) := ⟨rfl, rfl, rfl, by decide +kernel, rfl, by decide +kernel, by decide +kernel⟩
theorem ok_overlaps (T : Txt P w K mg base fs fds xD xI xfd) : FnOk P w K mg base (L2.CX P w) 7 (fs 31) (fds 31) ["setting", "word", "second_word"] (spF K mg 3 s_overlaps) :=
  okF (N := ["setting", "word", "second_word"]) (ps := ["setting", "word", "second_word"]) (k := 6) T.at_overlaps.F sc_overlaps (m := m_overlaps) (fun _ _ _ _ _ _ ct => (rss_cons (rs_expr (re_call ct.tk (ct.room.mono (by decide)) (ok_check_two_words T) T.at_check_two_words.g T.at_check_two_words.F.kp T.at_check_two_words.b (vs_cons (re_var 0) (vs_cons (re_var 1) (vs_cons (re_var 2) vs_nil))))) (rss_one (rs_ret (re_ct prim_tuple T.b_tuple PyProof.Rows.boot_tuple (rs_cons (re_call ct.tk (ct.room.mono (by decide)) (ok_overlaps_of T) T.at_overlaps_of.g T.at_overlaps_of.F.kp T.at_overlaps_of.b (vs_cons (re_var 1) (vs_cons (re_var 2) vs_nil))) rs_nil))))))
theorem sc_places_in : FnScope ["word", "second", "at"] ["word", "second"] (defScope (topS 22)) := ⟨rfl, rfl, rfl, by decide +kernel, rfl, by decide +kernel, by decide +kernel⟩
theorem ok_places_in (T : Txt P w K mg base fs fds xD xI xfd) : FnOk P w K mg base (L2.CX P w) 1 (fs 22) (fds 22) ["word", "second"] (spF K mg 2 s_places_in) :=
  okF (N := ["word", "second", "at"]) (ps := ["word", "second"]) (k := 0) T.at_places_in.F sc_places_in (m := m_places_in) (fun _ _ _ _ _ _ ct => (rss_one (rs_ret (re_comp ct (blkOk_by (N := ["word", "second", "at"]) (own := [("at", 2)]) (sc := (defScope (topS 22))) (by decide +kernel)) (ri_range1 T.b_range (re_bin prim_add (re_bin prim_sub (re_cb prim_len T.b_len PySem.boot_len (rs_cons (re_var 1) rs_nil)) (re_cb prim_len T.b_len PySem.boot_len (rs_cons (re_var 0) rs_nil))) re_int)) (fun _ _ _ _ _ ct => (rg_name 2 (out_wipe (by decide)) ct.nd)) (fun _ _ _ _ _ ct => (rts_one (rt_cmp (prim_eq ct.room) (re_slice (re_var 1) (ro_some (re_var 2)) (ro_some (re_bin prim_add (re_var 2) (re_cb prim_len T.b_len PySem.boot_len (rs_cons (re_var 0) rs_nil))))) (re_var 0)))) (fun _ _ _ _ _ ct => (re_var 2))))))
theorem sc_places : FnScope ["setting", "word", "second_word"] ["setting", "word", "second_word"] (defScope (topS 30)) := ⟨rfl, rfl, rfl, by decide +kernel, rfl, by decide +kernel, by decide +kernel⟩
theorem ok_places (T : Txt P w K mg base fs fds xD xI xfd) : FnOk P w K mg base (L2.CX P w) 6 (fs 30) (fds 30) ["setting", "word", "second_word"] (spF K mg 3 s_places) :=
  okF (N := ["setting", "word", "second_word"]) (ps := ["setting", "word", "second_word"]) (k := 5) T.at_places.F sc_places (m := m_places) (fun _ _ _ _ _ _ ct => (rss_cons (rs_expr (re_call ct.tk (ct.room.mono (by decide)) (ok_check_setting T) T.at_check_setting.g T.at_check_setting.F.kp T.at_check_setting.b (vs_cons (re_var 0) vs_nil))) (rss_cons (rs_expr (re_call ct.tk (ct.room.mono (by decide)) (ok_check_word T) T.at_check_word.g T.at_check_word.F.kp T.at_check_word.b (vs_cons (re_var 0) (vs_cons (re_var 1) vs_nil)))) (rss_cons (rs_if (rt_cmp (prim_eq ct.room) (re_var 1) (re_str [])) (rss_one (rs_raise ct.calm ct.tk (ct.room.mono (by decide)) T.xk T.x_InvalidWord (re_var 1))) rss_nil) (rss_cons (rs_expr (re_call ct.tk (ct.room.mono (by decide)) (ok_check_word T) T.at_check_word.g T.at_check_word.F.kp T.at_check_word.b (vs_cons (re_var 0) (vs_cons (re_var 2) vs_nil)))) (rss_one (rs_ret (re_ct prim_tuple T.b_tuple PyProof.Rows.boot_tuple (rs_cons (re_call ct.tk (ct.room.mono (by decide)) (ok_places_in T) T.at_places_in.g T.at_places_in.F.kp T.at_places_in.b (vs_cons (re_var 1) (vs_cons (re_var 2) vs_nil))) rs_nil)))))))))
theorem sc_weight : FnScope ["setting", "word"] ["setting", "word"] (defScope (topS 25)) := ⟨rfl, rfl, rfl, by decide +kernel, rfl, by decide +kernel, by decide +kernel⟩
theorem ok_weight (T : Txt P w K mg base fs fds xD xI xfd) : FnOk P w K mg base (L2.CX P w) 6 (fs 25) (fds 25) ["setting", "word"] (spF K mg 2 s_weight) :=
  okF (N := ["setting", "word"]) (ps := ["setting", "word"]) (k := 5) T.at_weight.F sc_weight (m := m_weight) (fun _ _ _ _ _ _ ct => (rss_cons (rs_expr (re_call ct.tk (ct.room.mono (by decide)) (ok_check_setting T) T.at_check_setting.g T.at_check_setting.F.kp T.at_check_setting.b (vs_cons (re_var 0) vs_nil))) (rss_cons (rs_expr (re_call ct.tk (ct.room.mono (by decide)) (ok_check_word T) T.at_check_word.g T.at_check_word.F.kp T.at_check_word.b (vs_cons (re_var 0) (vs_cons (re_var 1) vs_nil)))) (rss_one (rs_ret (re_call ct.tk (ct.room.mono (by decide)) (ok_weight_of T) T.at_weight_of.g T.at_weight_of.F.kp T.at_weight_of.b (vs_cons (re_var 0) (vs_cons (re_var 1) vs_nil))))))))
theorem sc_check_integer : FnScope ["value", "least"] ["value", "least"] (defScope (topS 9)) := ⟨rfl, rfl, rfl, by decide +kernel, rfl, by decide +kernel, by decide +kernel⟩
theorem ok_check_integer (T : Txt P w K mg base fs fds xD xI xfd) : FnOk P w K mg base (L2.CX P w) 3 (fs 9) (fds 9) ["value", "least"] (spF K mg 2 s_check_integer) :=
  okF (N := ["value", "least"]) (ps := ["value", "least"]) (k := 2) T.at_check_integer.F sc_check_integer (m := m_check_integer) (fun _ _ _ _ _ _ ct => (rss_one (rs_if (rt_w (rw_or (rt_not (rt_tru (re_call ct.tk (ct.room.mono (by decide)) (ok_is_integer T) T.at_is_integer.g T.at_is_integer.F.kp T.at_is_integer.b (vs_cons (re_var 0) vs_nil)))) (rw_or1 (rt_cmp (prim_lt ct.room) (re_var 0) (re_var 1))))) (rss_one (rs_raise ct.calm ct.tk (ct.room.mono (by decide)) T.xk T.x_InvalidInteger (re_var 0))) rss_nil)))
theorem sc_words_number : FnScope ["setting", "k", "numbers", "own", "weight"] ["setting", "k"] (defScope (topS 29)) := ⟨rfl, rfl, rfl, by decide +kernel, rfl, by decide +kernel, by decide +kernel⟩
theorem ok_words_number (T : Txt P w K mg base fs fds xD xI xfd) : FnOk P w K mg base (L2.CX P w) 6 (fs 29) (fds 29) ["setting", "k"] (spF K mg 2 s_words_number) :=
  okF (N := ["setting", "k", "numbers", "own", "weight"]) (ps := ["setting", "k"]) (k := 5) T.at_words_number.F sc_words_number (m := m_words_number) (fun _ _ _ _ _ _ ct => (rss_cons (rs_expr (re_call ct.tk (ct.room.mono (by decide)) (ok_check_setting T) T.at_check_setting.g T.at_check_setting.F.kp T.at_check_setting.b (vs_cons (re_var 0) vs_nil))) (rss_cons (rs_expr (re_call ct.tk (ct.room.mono (by decide)) (ok_check_integer T) T.at_check_integer.g T.at_check_integer.F.kp T.at_check_integer.b (vs_cons (re_var 1) (vs_cons re_int vs_nil)))) (rss_cons (rs_set 2 (by decide) ct.nd (re_lst (vs_cons re_int vs_nil))) (rss_cons (rs_for ct (ri_range2 T.b_range re_int (re_bin prim_add (re_var 1) re_int)) (rg_name 3 (out_take (by decide)) ct.nd) (rss_one (rs_expr (re_append 2 (re_cb (prim_sum ct.calm) T.b_sum PyProof.Rows.boot_sum (rs_cons (re_comp ct (blkOk_by (N := ["setting", "k", "numbers", "own", "weight"]) (own := [("weight", 4)]) (sc := (defScope (topS 29))) (by decide +kernel)) (ri_seq (re_ix prim_ix (re_var 0) re_int)) (fun _ _ _ _ _ ct => (rg_name 4 (out_wipe (by decide)) ct.nd)) (fun _ _ _ _ _ ct => (rts_one (rt_cmp (prim_le ct.room) (re_var 4) (re_var 3)))) (fun _ _ _ _ _ ct => (re_ix prim_ix (re_var 2) (re_bin prim_sub (re_var 3) (re_var 4))))) rs_nil)))))) (rss_one (rs_ret (re_ix prim_ix (re_var 2) (re_var 1)))))))))
theorem sc_words_by : FnScope ["setting", "k", "rows", "own", "found", "sign", "weight", "word"] ["setting", "k"] (defScope (topS 21)) := ⟨rfl, rfl, rfl, by decide +kernel, rfl, by decide +kernel, by decide +kernel⟩
theorem ok_words_by (T : Txt P w K mg base fs fds xD xI xfd) : FnOk P w K mg base (L2.CX P w) 2 (fs 21) (fds 21) ["setting", "k"] (spF K mg 2 s_words_by) :=
  okF (N := ["setting", "k", "rows", "own", "found", "sign", "weight", "word"]) (ps := ["setting", "k"]) (k := 1) T.at_words_by.F sc_words_by (m := m_words_by) (fun _ _ _ _ _ _ ct => (rss_cons (rs_set 2 (by decide) ct.nd (re_lst (vs_cons (re_lst (vs_cons (re_str []) vs_nil)) vs_nil))) (rss_cons (rs_for ct (ri_range2 T.b_range re_int (re_bin prim_add (re_var 1) re_int)) (rg_name 3 (out_take (by decide)) ct.nd) (rss_cons (rs_set 4 (by decide) ct.nd (re_lst vs_nil)) (rss_cons (rs_for ct (ri_zip2 T.b_zip (vs_cons (re_call ct.tk (ct.room.mono (by decide)) (ok_letters_of T) T.at_letters_of.g T.at_letters_of.F.kp T.at_letters_of.b (vs_cons (re_var 0) vs_nil)) (vs_cons (re_ix prim_ix (re_var 0) re_int) vs_nil))) (rg_tup 2 ct.calm (rgs_cons (rg_name 5 (out_take (by decide)) ct.nd) (rgs_cons (rg_name 6 (out_take (by decide)) ct.nd) rgs_nil))) (rss_one (rs_if (rt_cmp (prim_le ct.room) (re_var 6) (re_var 3)) (rss_one (rs_expr (re_extend 4 (re_comp ct (blkOk_by (N := ["setting", "k", "rows", "own", "found", "sign", "weight", "word"]) (own := [("word", 7)]) (sc := (defScope (topS 21))) (by decide +kernel)) (ri_seq (re_ix prim_ix (re_var 2) (re_bin prim_sub (re_var 3) (re_var 6)))) (fun _ _ _ _ _ ct => (rg_name 7 (out_wipe (by decide)) ct.nd)) (fun _ _ _ _ _ ct => rts_nil) (fun _ _ _ _ _ ct => (re_bin prim_add (re_var 7) (re_var 5))))))) rss_nil))) (rss_one (rs_expr (re_append 2 (re_var 4))))))) (rss_one (rs_ret (re_cb (prim_sorted ct.calm ct.room) T.b_sorted PyProof.Rows.boot_sorted (rs_cons (re_ix prim_ix (re_var 2) (re_var 1)) rs_nil)))))))
theorem sc_words_of : FnScope ["setting", "k"] ["setting", "k"] (defScope (topS 28)) := ⟨rfl, rfl, rfl, by decide +kernel, rfl, by decide +kernel, by decide +kernel⟩
theorem ok_words_of (T : Txt P w K mg base fs fds xD xI xfd) : FnOk P w K mg base (L2.CX P w) 6 (fs 28) (fds 28) ["setting", "k"] (spF K mg 2 s_words_of) :=
  okF (N := ["setting", "k"]) (ps := ["setting", "k"]) (k := 5) T.at_words_of.F sc_words_of (m := m_words_of) (fun _ _ _ _ _ _ ct => (rss_cons (rs_expr (re_call ct.tk (ct.room.mono (by decide)) (ok_check_setting T) T.at_check_setting.g T.at_check_setting.F.kp T.at_check_setting.b (vs_cons (re_var 0) vs_nil))) (rss_cons (rs_expr (re_call ct.tk (ct.room.mono (by decide)) (ok_check_integer T) T.at_check_integer.g T.at_check_integer.F.kp T.at_check_integer.b (vs_cons (re_var 1) (vs_cons re_int vs_nil)))) (rss_one (rs_ret (re_ct prim_tuple T.b_tuple PyProof.Rows.boot_tuple (rs_cons (re_call ct.tk (ct.room.mono (by decide)) (ok_words_by T) T.at_words_by.g T.at_words_by.F.kp T.at_words_by.b (vs_cons (re_var 0) (vs_cons (re_var 1) vs_nil))) rs_nil)))))))
theorem sc_law : FnScope ["script", "pot", "turn", "p", "many", "setting", "at", "one", "other", "more", "less", "told", "own", "k", "due", "part", "whole", "first", "second", "odd"] ["script"] (defScope (topS 38)) := ⟨rfl, rfl, rfl, by decide +kernel, rfl, by decide +kernel, by decide +kernel⟩
theorem ok_law (T : Txt P w K mg base fs fds xD xI xfd) : FnOk P w K mg base (L2.CX P w) 8 (fs 38) (fds 38) ["script"] (spL K 20 m_law) :=
  okL (N := ["script", "pot", "turn", "p", "many", "setting", "at", "one", "other", "more", "less", "told", "own", "k", "due", "part", "whole", "first", "second", "odd"]) (k := 7) T.at_law.F sc_law (by decide) (m := m_law) (fun _ _ _ _ _ _ ct => (rss_cons (rs_set 1 (by decide) ct.nd (re_bin prim_add (re_lst (vs_cons re_int (vs_cons re_int (vs_cons re_int vs_nil)))) (re_scr 0 T.b_list))) (rss_cons (rs_for ct (ri_range1 T.b_range re_int) (rg_name 2 (out_take (by decide)) ct.nd) (rss_cons (rs_par2 3 4 (by decide) ct.calm ct.nd (re_ix prim_ix (re_lst (vs_cons re_int (vs_cons re_int (vs_cons re_int vs_nil)))) (re_callR 1 ct.tk (ct.room.mono (by decide)) (ok__law_take T) T.at__law_take.g T.at__law_take.F.kp T.at__law_take.b (vs_cons re_int vs_nil))) (re_bin prim_add re_int (re_callR 1 ct.tk (ct.room.mono (by decide)) (ok__law_take T) T.at__law_take.g T.at__law_take.F.kp T.at__law_take.b (vs_cons re_int vs_nil)))) (rss_cons (rs_set 5 (by decide) ct.nd (re_tup (vs_cons (re_var 3) (vs_cons (re_ct prim_tuple T.b_tuple PyProof.Rows.boot_tuple (rs_cons (re_comp ct (blkOk_by (N := ["script", "pot", "turn", "p", "many", "setting", "at", "one", "other", "more", "less", "told", "own", "k", "due", "part", "whole", "first", "second", "odd"]) (own := [("at", 6)]) (sc := (defScope (topS 38))) (by decide +kernel)) (ri_range1 T.b_range (re_var 4)) (fun _ _ _ _ _ ct => (rg_name 6 (out_wipe (by decide)) ct.nd)) (fun _ _ _ _ _ ct => rts_nil) (fun _ _ _ _ _ ct => (re_bin prim_add re_int (re_callR 1 ct.tk (ct.room.mono (by decide)) (ok__law_take T) T.at__law_take.g T.at__law_take.F.kp T.at__law_take.b (vs_cons re_int vs_nil))))) rs_nil)) vs_nil)))) (rss_cons (rs_par3 7 8 9 (by decide) ct.calm ct.nd (re_callR 1 ct.tk (ct.room.mono (by decide)) (ok__law_word T) T.at__law_word.g T.at__law_word.F.kp T.at__law_word.b (vs_cons (re_var 5) (vs_cons re_int vs_nil))) (re_callR 1 ct.tk (ct.room.mono (by decide)) (ok__law_word T) T.at__law_word.g T.at__law_word.F.kp T.at__law_word.b (vs_cons (re_var 5) (vs_cons re_int vs_nil))) (re_callR 1 ct.tk (ct.room.mono (by decide)) (ok__law_word T) T.at__law_word.g T.at__law_word.F.kp T.at__law_word.b (vs_cons (re_var 5) (vs_cons re_int vs_nil)))) (rss_cons (rs_if (rt_cmp (prim_eq ct.room) (re_callR 1 ct.tk (ct.room.mono (by decide)) (ok__law_take T) T.at__law_take.g T.at__law_take.F.kp T.at__law_take.b (vs_cons re_int vs_nil)) re_int) (rss_one (rs_set 8 (by decide) ct.nd (re_m1 F.slot_str_join F.type_str_join prim_join (re_str []) (re_cb (prim_sorted ct.calm ct.room) T.b_sorted PyProof.Rows.boot_sorted (rs_cons (re_var 7) rs_nil))))) rss_nil) (rss_cons (rs_set 10 (by decide) ct.nd (re_cmp (prim_lt ct.room) (re_tup (vs_cons (re_call ct.tk (ct.room.mono (by decide)) (ok__law_weight T) T.at__law_weight.g T.at__law_weight.F.kp T.at__law_weight.b (vs_cons (re_var 5) (vs_cons (re_var 7) vs_nil))) (vs_cons (re_var 7) vs_nil))) (re_tup (vs_cons (re_call ct.tk (ct.room.mono (by decide)) (ok__law_weight T) T.at__law_weight.g T.at__law_weight.F.kp T.at__law_weight.b (vs_cons (re_var 5) (vs_cons (re_var 8) vs_nil))) (vs_cons (re_var 8) vs_nil))))) (rss_cons (rs_set 11 (by decide) ct.nd (re_lst (vs_cons (re_call ct.tk (ct.room.mono (by decide)) (ok_weight T) T.at_weight.g T.at_weight.F.kp T.at_weight.b (vs_cons (re_var 5) (vs_cons (re_var 7) vs_nil))) (vs_cons (re_callK ct.tk (ct.room.mono (by decide)) (ok_weight T) T.at_weight.g T.at_weight.F.kp (Fun_kwb (ks := ["word", "setting"]) (pm := [1, 0]) T.at_weight.F fun _ _ _ _ _ _ us hl => match us, hl with | [_, _], _ => rfl) (ks_cons (re_var 7) (ks_cons (re_var 5) ks_nil))) (vs_cons (re_call ct.tk (ct.room.mono (by decide)) (ok_is_less T) T.at_is_less.g T.at_is_less.F.kp T.at_is_less.b (vs_cons (re_var 5) (vs_cons (re_var 7) (vs_cons (re_var 8) vs_nil)))) (vs_cons (re_callK ct.tk (ct.room.mono (by decide)) (ok_is_less T) T.at_is_less.g T.at_is_less.F.kp (Fun_kwb (ks := ["second_word", "word", "setting"]) (pm := [2, 1, 0]) T.at_is_less.F fun _ _ _ _ _ _ us hl => match us, hl with | [_, _, _], _ => rfl) (ks_cons (re_var 8) (ks_cons (re_var 7) (ks_cons (re_var 5) ks_nil)))) vs_nil)))))) (rss_cons (rs_if (rt_not (rt_tru (re_call ct.tk (ct.room.mono (by decide)) (ok__law_same T) T.at__law_same.g T.at__law_same.F.kp T.at__law_same.b (vs_cons (re_var 11) (vs_cons (re_bin prim_add (re_bin prim_mulX (re_lst (vs_cons (re_call ct.tk (ct.room.mono (by decide)) (ok__law_weight T) T.at__law_weight.g T.at__law_weight.F.kp T.at__law_weight.b (vs_cons (re_var 5) (vs_cons (re_var 7) vs_nil))) vs_nil)) re_int) (re_bin prim_mulX (re_lst (vs_cons (re_var 10) vs_nil)) re_int)) vs_nil))))) (rss_one (rs_ret re_bl)) rss_nil) (rss_cons (rs_if (rt_not (rt_tru (re_call ct.tk (ct.room.mono (by decide)) (ok__law_same T) T.at__law_same.g T.at__law_same.F.kp T.at__law_same.b (vs_cons (re_lst (vs_cons (re_call ct.tk (ct.room.mono (by decide)) (ok_is_less T) T.at_is_less.g T.at_is_less.F.kp T.at_is_less.b (vs_cons (re_var 5) (vs_cons (re_bin prim_add (re_var 9) (re_var 7)) (vs_cons (re_bin prim_add (re_var 9) (re_var 8)) vs_nil)))) (vs_cons (re_call ct.tk (ct.room.mono (by decide)) (ok_is_less T) T.at_is_less.g T.at_is_less.F.kp T.at_is_less.b (vs_cons (re_var 5) (vs_cons (re_bin prim_add (re_var 7) (re_var 9)) (vs_cons (re_bin prim_add (re_var 8) (re_var 9)) vs_nil)))) (vs_cons (re_call ct.tk (ct.room.mono (by decide)) (ok_is_less T) T.at_is_less.g T.at_is_less.F.kp T.at_is_less.b (vs_cons (re_var 5) (vs_cons (re_var 7) (vs_cons (re_var 7) vs_nil)))) vs_nil)))) (vs_cons (re_lst (vs_cons (re_var 10) (vs_cons (re_var 10) (vs_cons re_bl vs_nil)))) vs_nil))))) (rss_one (rs_ret re_bl)) rss_nil) (rss_cons (rs_if (rt_cmp (prim_gt ct.room) (re_var 4) re_int) (rss_one (rs_set 5 (by decide) ct.nd (re_tup (vs_cons (re_var 3) (vs_cons (re_ct prim_tuple T.b_tuple PyProof.Rows.boot_tuple (rs_cons (re_comp ct (blkOk_by (N := ["script", "pot", "turn", "p", "many", "setting", "at", "one", "other", "more", "less", "told", "own", "k", "due", "part", "whole", "first", "second", "odd"]) (own := [("own", 12)]) (sc := (defScope (topS 38))) (by decide +kernel)) (ri_seq (re_ix prim_ix (re_var 5) re_int)) (fun _ _ _ _ _ ct => (rg_name 12 (out_wipe (by decide)) ct.nd)) (fun _ _ _ _ _ ct => rts_nil) (fun _ _ _ _ _ ct => (re_cb (prim_min2 ct.calm) T.b_min PyProof.Rows.boot_min (rs_cons (re_bin prim_add (re_var 12) re_int) (rs_cons re_int rs_nil))))) rs_nil)) vs_nil))))) rss_nil) (rss_cons (rs_set 13 (by decide) ct.nd (re_callR 1 ct.tk (ct.room.mono (by decide)) (ok__law_take T) T.at__law_take.g T.at__law_take.F.kp T.at__law_take.b (vs_cons (re_if (rt_cmp (prim_eq ct.room) (re_cb (prim_minL ct.calm ct.room) T.b_min PyProof.Rows.boot_min (rs_cons (re_ix prim_ix (re_var 5) re_int) rs_nil)) re_int) re_int re_int) vs_nil))) (rss_cons (rs_set 14 (by decide) ct.nd (re_call ct.tk (ct.room.mono (by decide)) (ok__law_all T) T.at__law_all.g T.at__law_all.F.kp T.at__law_all.b (vs_cons (re_var 5) (vs_cons (re_var 13) vs_nil)))) (rss_cons (rs_if (rt_not (rt_tru (re_call ct.tk (ct.room.mono (by decide)) (ok__law_same T) T.at__law_same.g T.at__law_same.F.kp T.at__law_same.b (vs_cons (re_lst (vs_cons (re_call ct.tk (ct.room.mono (by decide)) (ok_words_of T) T.at_words_of.g T.at_words_of.F.kp T.at_words_of.b (vs_cons (re_var 5) (vs_cons (re_var 13) vs_nil))) (vs_cons (re_callK ct.tk (ct.room.mono (by decide)) (ok_words_of T) T.at_words_of.g T.at_words_of.F.kp (Fun_kwb (ks := ["k", "setting"]) (pm := [1, 0]) T.at_words_of.F fun _ _ _ _ _ _ us hl => match us, hl with | [_, _], _ => rfl) (ks_cons (re_var 13) (ks_cons (re_var 5) ks_nil))) vs_nil))) (vs_cons (re_lst (vs_cons (re_var 14) (vs_cons (re_var 14) vs_nil))) vs_nil))))) (rss_one (rs_ret re_bl)) rss_nil) (rss_cons (rs_if (rt_not (rt_tru (re_call ct.tk (ct.room.mono (by decide)) (ok__law_same T) T.at__law_same.g T.at__law_same.F.kp T.at__law_same.b (vs_cons (re_lst (vs_cons (re_call ct.tk (ct.room.mono (by decide)) (ok_words_number T) T.at_words_number.g T.at_words_number.F.kp T.at_words_number.b (vs_cons (re_var 5) (vs_cons (re_var 13) vs_nil))) (vs_cons (re_callK ct.tk (ct.room.mono (by decide)) (ok_words_number T) T.at_words_number.g T.at_words_number.F.kp (Fun_kwb (ks := ["k", "setting"]) (pm := [1, 0]) T.at_words_number.F fun _ _ _ _ _ _ us hl => match us, hl with | [_, _], _ => rfl) (ks_cons (re_var 13) (ks_cons (re_var 5) ks_nil))) vs_nil))) (vs_cons (re_lst (vs_cons (re_cb prim_len T.b_len PySem.boot_len (rs_cons (re_var 14) rs_nil)) (vs_cons (re_cb prim_len T.b_len PySem.boot_len (rs_cons (re_var 14) rs_nil)) vs_nil))) vs_nil))))) (rss_one (rs_ret re_bl)) rss_nil) (rss_cons (rs_set 15 (by decide) ct.nd (re_if (rt_cmp (prim_ne ct.room) (re_var 7) (re_str [])) (re_slice (re_var 7) ro_none (ro_some (re_bin prim_add re_int (re_callR 1 ct.tk (ct.room.mono (by decide)) (ok__law_take T) T.at__law_take.g T.at__law_take.F.kp T.at__law_take.b (vs_cons re_int vs_nil))))) (re_str [97]))) (rss_cons (rs_set 16 (by decide) ct.nd (re_bin prim_add (re_bin prim_add (re_var 7) (re_var 8)) (re_var 7))) (rss_cons (rs_set 14 (by decide) ct.nd (re_ct prim_tuple T.b_tuple PyProof.Rows.boot_tuple (rs_cons (re_comp ct (blkOk_by (N := ["script", "pot", "turn", "p", "many", "setting", "at", "one", "other", "more", "less", "told", "own", "k", "due", "part", "whole", "first", "second", "odd"]) (own := [("at", 6)]) (sc := (defScope (topS 38))) (by decide +kernel)) (ri_range1 T.b_range (re_cb prim_len T.b_len PySem.boot_len (rs_cons (re_var 16) rs_nil))) (fun _ _ _ _ _ ct => (rg_name 6 (out_wipe (by decide)) ct.nd)) (fun _ _ _ _ _ ct => (rts_one (rt_cmp (prim_eq ct.room) (re_slice (re_var 16) (ro_some (re_var 6)) (ro_some (re_bin prim_add (re_var 6) (re_cb prim_len T.b_len PySem.boot_len (rs_cons (re_var 15) rs_nil))))) (re_var 15)))) (fun _ _ _ _ _ ct => (re_var 6))) rs_nil))) (rss_cons (rs_if (rt_not (rt_tru (re_call ct.tk (ct.room.mono (by decide)) (ok__law_same T) T.at__law_same.g T.at__law_same.F.kp T.at__law_same.b (vs_cons (re_lst (vs_cons (re_call ct.tk (ct.room.mono (by decide)) (ok_places T) T.at_places.g T.at_places.F.kp T.at_places.b (vs_cons (re_var 5) (vs_cons (re_var 15) (vs_cons (re_var 16) vs_nil)))) (vs_cons (re_callK ct.tk (ct.room.mono (by decide)) (ok_places T) T.at_places.g T.at_places.F.kp (Fun_kwb (ks := ["second_word", "word", "setting"]) (pm := [2, 1, 0]) T.at_places.F fun _ _ _ _ _ _ us hl => match us, hl with | [_, _, _], _ => rfl) (ks_cons (re_var 16) (ks_cons (re_var 15) (ks_cons (re_var 5) ks_nil)))) vs_nil))) (vs_cons (re_lst (vs_cons (re_var 14) (vs_cons (re_var 14) vs_nil))) vs_nil))))) (rss_one (rs_ret re_bl)) rss_nil) (rss_cons (rs_asg (re_tup (vs_cons (re_bin prim_add (re_var 7) (re_var 9)) (vs_cons (re_bin prim_add (re_var 9) (re_var 8)) vs_nil))) (rg_tup 2 ct.calm (rgs_cons (rg_name 17 (out_take (by decide)) ct.nd) (rgs_cons (rg_name 18 (out_take (by decide)) ct.nd) rgs_nil)))) (rss_cons (rs_set 14 (by decide) ct.nd (re_ct prim_tuple T.b_tuple PyProof.Rows.boot_tuple (rs_cons (re_comp ct (blkOk_by (N := ["script", "pot", "turn", "p", "many", "setting", "at", "one", "other", "more", "less", "told", "own", "k", "due", "part", "whole", "first", "second", "odd"]) (own := [("k", 13)]) (sc := (defScope (topS 38))) (by decide +kernel)) (ri_range2 T.b_range re_int (re_cb (prim_min2 ct.calm) T.b_min PyProof.Rows.boot_min (rs_cons (re_cb prim_len T.b_len PySem.boot_len (rs_cons (re_var 17) rs_nil)) (rs_cons (re_cb prim_len T.b_len PySem.boot_len (rs_cons (re_var 18) rs_nil)) rs_nil)))) (fun _ _ _ _ _ ct => (rg_name 13 (out_wipe (by decide)) ct.nd)) (fun _ _ _ _ _ ct => (rts_one (rt_cmp (prim_eq ct.room) (re_slice (re_var 17) (ro_some (re_bin prim_sub (re_cb prim_len T.b_len PySem.boot_len (rs_cons (re_var 17) rs_nil)) (re_var 13))) ro_none) (re_slice (re_var 18) ro_none (ro_some (re_var 13)))))) (fun _ _ _ _ _ ct => (re_var 13))) rs_nil))) (rss_cons (rs_if (rt_not (rt_tru (re_call ct.tk (ct.room.mono (by decide)) (ok__law_same T) T.at__law_same.g T.at__law_same.F.kp T.at__law_same.b (vs_cons (re_lst (vs_cons (re_call ct.tk (ct.room.mono (by decide)) (ok_overlaps T) T.at_overlaps.g T.at_overlaps.F.kp T.at_overlaps.b (vs_cons (re_var 5) (vs_cons (re_var 17) (vs_cons (re_var 18) vs_nil)))) (vs_cons (re_callK ct.tk (ct.room.mono (by decide)) (ok_overlaps T) T.at_overlaps.g T.at_overlaps.F.kp (Fun_kwb (ks := ["second_word", "word", "setting"]) (pm := [2, 1, 0]) T.at_overlaps.F fun _ _ _ _ _ _ us hl => match us, hl with | [_, _, _], _ => rfl) (ks_cons (re_var 18) (ks_cons (re_var 17) (ks_cons (re_var 5) ks_nil)))) vs_nil))) (vs_cons (re_lst (vs_cons (re_var 14) (vs_cons (re_var 14) vs_nil))) vs_nil))))) (rss_one (rs_ret re_bl)) rss_nil) (rss_cons (rs_set 19 (by decide) ct.nd (re_ix prim_ix (re_lst (vs_cons re_non (vs_cons re_int (vs_cons (re_tup (vs_cons (re_str [97]) vs_nil)) (vs_cons (re_bin prim_add (re_var 7) (re_str [65])) (vs_cons (re_bin prim_add (re_var 7) (re_ix prim_ix (re_str [97, 98, 99, 100, 101, 102, 103]) (re_var 4))) (vs_cons (re_lst (vs_cons (re_str [97]) vs_nil)) (vs_cons re_bl (vs_cons (re_bin prim_add (re_var 7) (re_str [32])) (vs_cons (re_str [49]) vs_nil)))))))))) (re_callR 1 ct.tk (ct.room.mono (by decide)) (ok__law_take T) T.at__law_take.g T.at__law_take.F.kp T.at__law_take.b (vs_cons re_int vs_nil)))) (rss_one (rs_if (rt_not (rt_tru (re_call ct.tk (ct.room.mono (by decide)) (ok__law_same T) T.at__law_same.g T.at__law_same.F.kp T.at__law_same.b (vs_cons (re_lst (vs_cons (re_call ct.tk (ct.room.mono (by decide)) (ok_is_word T) T.at_is_word.g T.at_is_word.F.kp T.at_is_word.b (vs_cons (re_var 5) (vs_cons (re_var 7) vs_nil))) (vs_cons (re_callK ct.tk (ct.room.mono (by decide)) (ok_is_word T) T.at_is_word.g T.at_is_word.F.kp (Fun_kwb (ks := ["value", "setting"]) (pm := [1, 0]) T.at_is_word.F fun _ _ _ _ _ _ us hl => match us, hl with | [_, _], _ => rfl) (ks_cons (re_var 8) (ks_cons (re_var 5) ks_nil))) (vs_cons (re_call ct.tk (ct.room.mono (by decide)) (ok_is_word T) T.at_is_word.g T.at_is_word.F.kp T.at_is_word.b (vs_cons (re_var 5) (vs_cons (re_var 19) vs_nil))) vs_nil)))) (vs_cons (re_lst (vs_cons re_bl (vs_cons re_bl (vs_cons re_bl vs_nil)))) vs_nil))))) (rss_one (rs_ret re_bl)) rss_nil)))))))))))))))))))))))) (rss_one (rs_ret re_bl)))))
end
theorem all_mk {P : Program} {w : World} {K : PySem.W.Frag} {h : Heap} {mg : Str → Option Value} {fa : Addr} (X : K.In h) (G : h.Ns mainGlobals mg) (hfa : mg "law" = some (.ref fa))
    {f35 f37 f34 f33 f36 f7 f8 f10 f14 f15 f16 f17 f18 f26 f19 f20 f27 f24 f23 f31 f22 f30 f25 f9 f29 f21 f28 f38 : Addr}
    (a35 : PySem.W.nsIn K mainGlobals "_law_weight" = some (some (.ref f35))) {oc35 : Value} {od35 an35 : Option Addr} {sl35 : Array (Option Value)} {kV35 dc35 pm35 cd35 ct35 : Value}
    (l35 : K.lookup f35 = some ⟨oc35, od35, .func (PySem.W.fnOf "_law_weight" "_law_weight" (defArgs (topS 35)) (defBody (topS 35)) (defScope (topS 35)) .none kV35 dc35 pm35 an35 cd35 ct35), sl35⟩) (c35 : PySem.W.codeIn K cd35 "_law_weight" = true) (k35 : PySem.W.keepIn K (.ref f35) = true)
    (a37 : PySem.W.nsIn K mainGlobals "_law_all" = some (some (.ref f37))) {oc37 : Value} {od37 an37 : Option Addr} {sl37 : Array (Option Value)} {kV37 dc37 pm37 cd37 ct37 : Value}
    (l37 : K.lookup f37 = some ⟨oc37, od37, .func (PySem.W.fnOf "_law_all" "_law_all" (defArgs (topS 37)) (defBody (topS 37)) (defScope (topS 37)) .none kV37 dc37 pm37 an37 cd37 ct37), sl37⟩) (c37 : PySem.W.codeIn K cd37 "_law_all" = true) (k37 : PySem.W.keepIn K (.ref f37) = true)
    (a34 : PySem.W.nsIn K mainGlobals "_law_same" = some (some (.ref f34))) {oc34 : Value} {od34 an34 : Option Addr} {sl34 : Array (Option Value)} {kV34 dc34 pm34 cd34 ct34 : Value}
    (l34 : K.lookup f34 = some ⟨oc34, od34, .func (PySem.W.fnOf "_law_same" "_law_same" (defArgs (topS 34)) (defBody (topS 34)) (defScope (topS 34)) .none kV34 dc34 pm34 an34 cd34 ct34), sl34⟩) (c34 : PySem.W.codeIn K cd34 "_law_same" = true) (k34 : PySem.W.keepIn K (.ref f34) = true)
    (a33 : PySem.W.nsIn K mainGlobals "_law_take" = some (some (.ref f33))) {oc33 : Value} {od33 an33 : Option Addr} {sl33 : Array (Option Value)} {kV33 dc33 pm33 cd33 ct33 : Value}
    (l33 : K.lookup f33 = some ⟨oc33, od33, .func (PySem.W.fnOf "_law_take" "_law_take" (defArgs (topS 33)) (defBody (topS 33)) (defScope (topS 33)) .none kV33 dc33 pm33 an33 cd33 ct33), sl33⟩) (c33 : PySem.W.codeIn K cd33 "_law_take" = true) (k33 : PySem.W.keepIn K (.ref f33) = true)
    (a36 : PySem.W.nsIn K mainGlobals "_law_word" = some (some (.ref f36))) {oc36 : Value} {od36 an36 : Option Addr} {sl36 : Array (Option Value)} {kV36 dc36 pm36 cd36 ct36 : Value}
    (l36 : K.lookup f36 = some ⟨oc36, od36, .func (PySem.W.fnOf "_law_word" "_law_word" (defArgs (topS 36)) (defBody (topS 36)) (defScope (topS 36)) .none kV36 dc36 pm36 an36 cd36 ct36), sl36⟩) (c36 : PySem.W.codeIn K cd36 "_law_word" = true) (k36 : PySem.W.keepIn K (.ref f36) = true)
    (a7 : PySem.W.nsIn K mainGlobals "is_integer" = some (some (.ref f7))) {oc7 : Value} {od7 an7 : Option Addr} {sl7 : Array (Option Value)} {kV7 dc7 pm7 cd7 ct7 : Value}
    (l7 : K.lookup f7 = some ⟨oc7, od7, .func (PySem.W.fnOf "is_integer" "is_integer" (defArgs (topS 7)) (defBody (topS 7)) (defScope (topS 7)) .none kV7 dc7 pm7 an7 cd7 ct7), sl7⟩) (c7 : PySem.W.codeIn K cd7 "is_integer" = true) (k7 : PySem.W.keepIn K (.ref f7) = true)
    (a8 : PySem.W.nsIn K mainGlobals "is_natural" = some (some (.ref f8))) {oc8 : Value} {od8 an8 : Option Addr} {sl8 : Array (Option Value)} {kV8 dc8 pm8 cd8 ct8 : Value}
    (l8 : K.lookup f8 = some ⟨oc8, od8, .func (PySem.W.fnOf "is_natural" "is_natural" (defArgs (topS 8)) (defBody (topS 8)) (defScope (topS 8)) .none kV8 dc8 pm8 an8 cd8 ct8), sl8⟩) (c8 : PySem.W.codeIn K cd8 "is_natural" = true) (k8 : PySem.W.keepIn K (.ref f8) = true)
    (a10 : PySem.W.nsIn K mainGlobals "is_field" = some (some (.ref f10))) {oc10 : Value} {od10 an10 : Option Addr} {sl10 : Array (Option Value)} {kV10 dc10 pm10 cd10 ct10 : Value}
    (l10 : K.lookup f10 = some ⟨oc10, od10, .func (PySem.W.fnOf "is_field" "is_field" (defArgs (topS 10)) (defBody (topS 10)) (defScope (topS 10)) .none kV10 dc10 pm10 an10 cd10 ct10), sl10⟩) (c10 : PySem.W.codeIn K cd10 "is_field" = true) (k10 : PySem.W.keepIn K (.ref f10) = true)
    (a14 : PySem.W.nsIn K mainGlobals "is_setting" = some (some (.ref f14))) {oc14 : Value} {od14 an14 : Option Addr} {sl14 : Array (Option Value)} {kV14 dc14 pm14 cd14 ct14 : Value}
    (l14 : K.lookup f14 = some ⟨oc14, od14, .func (PySem.W.fnOf "is_setting" "is_setting" (defArgs (topS 14)) (defBody (topS 14)) (defScope (topS 14)) .none kV14 dc14 pm14 an14 cd14 ct14), sl14⟩) (c14 : PySem.W.codeIn K cd14 "is_setting" = true) (k14 : PySem.W.keepIn K (.ref f14) = true)
    (a15 : PySem.W.nsIn K mainGlobals "check_setting" = some (some (.ref f15))) {oc15 : Value} {od15 an15 : Option Addr} {sl15 : Array (Option Value)} {kV15 dc15 pm15 cd15 ct15 : Value}
    (l15 : K.lookup f15 = some ⟨oc15, od15, .func (PySem.W.fnOf "check_setting" "check_setting" (defArgs (topS 15)) (defBody (topS 15)) (defScope (topS 15)) .none kV15 dc15 pm15 an15 cd15 ct15), sl15⟩) (c15 : PySem.W.codeIn K cd15 "check_setting" = true) (k15 : PySem.W.keepIn K (.ref f15) = true)
    (a16 : PySem.W.nsIn K mainGlobals "letters_of" = some (some (.ref f16))) {oc16 : Value} {od16 an16 : Option Addr} {sl16 : Array (Option Value)} {kV16 dc16 pm16 cd16 ct16 : Value}
    (l16 : K.lookup f16 = some ⟨oc16, od16, .func (PySem.W.fnOf "letters_of" "letters_of" (defArgs (topS 16)) (defBody (topS 16)) (defScope (topS 16)) .none kV16 dc16 pm16 an16 cd16 ct16), sl16⟩) (c16 : PySem.W.codeIn K cd16 "letters_of" = true) (k16 : PySem.W.keepIn K (.ref f16) = true)
    (a17 : PySem.W.nsIn K mainGlobals "is_word_of" = some (some (.ref f17))) {oc17 : Value} {od17 an17 : Option Addr} {sl17 : Array (Option Value)} {kV17 dc17 pm17 cd17 ct17 : Value}
    (l17 : K.lookup f17 = some ⟨oc17, od17, .func (PySem.W.fnOf "is_word_of" "is_word_of" (defArgs (topS 17)) (defBody (topS 17)) (defScope (topS 17)) .none kV17 dc17 pm17 an17 cd17 ct17), sl17⟩) (c17 : PySem.W.codeIn K cd17 "is_word_of" = true) (k17 : PySem.W.keepIn K (.ref f17) = true)
    (a18 : PySem.W.nsIn K mainGlobals "check_word" = some (some (.ref f18))) {oc18 : Value} {od18 an18 : Option Addr} {sl18 : Array (Option Value)} {kV18 dc18 pm18 cd18 ct18 : Value}
    (l18 : K.lookup f18 = some ⟨oc18, od18, .func (PySem.W.fnOf "check_word" "check_word" (defArgs (topS 18)) (defBody (topS 18)) (defScope (topS 18)) .none kV18 dc18 pm18 an18 cd18 ct18), sl18⟩) (c18 : PySem.W.codeIn K cd18 "check_word" = true) (k18 : PySem.W.keepIn K (.ref f18) = true)
    (a26 : PySem.W.nsIn K mainGlobals "check_two_words" = some (some (.ref f26))) {oc26 : Value} {od26 an26 : Option Addr} {sl26 : Array (Option Value)} {kV26 dc26 pm26 cd26 ct26 : Value}
    (l26 : K.lookup f26 = some ⟨oc26, od26, .func (PySem.W.fnOf "check_two_words" "check_two_words" (defArgs (topS 26)) (defBody (topS 26)) (defScope (topS 26)) .none kV26 dc26 pm26 an26 cd26 ct26), sl26⟩) (c26 : PySem.W.codeIn K cd26 "check_two_words" = true) (k26 : PySem.W.keepIn K (.ref f26) = true)
    (a19 : PySem.W.nsIn K mainGlobals "weight_of" = some (some (.ref f19))) {oc19 : Value} {od19 an19 : Option Addr} {sl19 : Array (Option Value)} {kV19 dc19 pm19 cd19 ct19 : Value}
    (l19 : K.lookup f19 = some ⟨oc19, od19, .func (PySem.W.fnOf "weight_of" "weight_of" (defArgs (topS 19)) (defBody (topS 19)) (defScope (topS 19)) .none kV19 dc19 pm19 an19 cd19 ct19), sl19⟩) (c19 : PySem.W.codeIn K cd19 "weight_of" = true) (k19 : PySem.W.keepIn K (.ref f19) = true)
    (a20 : PySem.W.nsIn K mainGlobals "order_key" = some (some (.ref f20))) {oc20 : Value} {od20 an20 : Option Addr} {sl20 : Array (Option Value)} {kV20 dc20 pm20 cd20 ct20 : Value}
    (l20 : K.lookup f20 = some ⟨oc20, od20, .func (PySem.W.fnOf "order_key" "order_key" (defArgs (topS 20)) (defBody (topS 20)) (defScope (topS 20)) .none kV20 dc20 pm20 an20 cd20 ct20), sl20⟩) (c20 : PySem.W.codeIn K cd20 "order_key" = true) (k20 : PySem.W.keepIn K (.ref f20) = true)
    (a27 : PySem.W.nsIn K mainGlobals "is_less" = some (some (.ref f27))) {oc27 : Value} {od27 an27 : Option Addr} {sl27 : Array (Option Value)} {kV27 dc27 pm27 cd27 ct27 : Value}
    (l27 : K.lookup f27 = some ⟨oc27, od27, .func (PySem.W.fnOf "is_less" "is_less" (defArgs (topS 27)) (defBody (topS 27)) (defScope (topS 27)) .none kV27 dc27 pm27 an27 cd27 ct27), sl27⟩) (c27 : PySem.W.codeIn K cd27 "is_less" = true) (k27 : PySem.W.keepIn K (.ref f27) = true)
    (a24 : PySem.W.nsIn K mainGlobals "is_word" = some (some (.ref f24))) {oc24 : Value} {od24 an24 : Option Addr} {sl24 : Array (Option Value)} {kV24 dc24 pm24 cd24 ct24 : Value}
    (l24 : K.lookup f24 = some ⟨oc24, od24, .func (PySem.W.fnOf "is_word" "is_word" (defArgs (topS 24)) (defBody (topS 24)) (defScope (topS 24)) .none kV24 dc24 pm24 an24 cd24 ct24), sl24⟩) (c24 : PySem.W.codeIn K cd24 "is_word" = true) (k24 : PySem.W.keepIn K (.ref f24) = true)
    (a23 : PySem.W.nsIn K mainGlobals "overlaps_of" = some (some (.ref f23))) {oc23 : Value} {od23 an23 : Option Addr} {sl23 : Array (Option Value)} {kV23 dc23 pm23 cd23 ct23 : Value}
    (l23 : K.lookup f23 = some ⟨oc23, od23, .func (PySem.W.fnOf "overlaps_of" "overlaps_of" (defArgs (topS 23)) (defBody (topS 23)) (defScope (topS 23)) .none kV23 dc23 pm23 an23 cd23 ct23), sl23⟩) (c23 : PySem.W.codeIn K cd23 "overlaps_of" = true) (k23 : PySem.W.keepIn K (.ref f23) = true)
    (a31 : PySem.W.nsIn K mainGlobals "overlaps" = some (some (.ref f31))) {oc31 : Value} {od31 an31 : Option Addr} {sl31 : Array (Option Value)} {kV31 dc31 pm31 cd31 ct31 : Value}
    (l31 : K.lookup f31 = some ⟨oc31, od31, .func (PySem.W.fnOf "overlaps" "overlaps" (defArgs (topS 31)) (defBody (topS 31)) (defScope (topS 31)) .none kV31 dc31 pm31 an31 cd31 ct31), sl31⟩) (c31 : PySem.W.codeIn K cd31 "overlaps" = true) (k31 : PySem.W.keepIn K (.ref f31) = true)
    (a22 : PySem.W.nsIn K mainGlobals "places_in" = some (some (.ref f22))) {oc22 : Value} {od22 an22 : Option Addr} {sl22 : Array (Option Value)} {kV22 dc22 pm22 cd22 ct22 : Value}
    (l22 : K.lookup f22 = some ⟨oc22, od22, .func (PySem.W.fnOf "places_in" "places_in" (defArgs (topS 22)) (defBody (topS 22)) (defScope (topS 22)) .none kV22 dc22 pm22 an22 cd22 ct22), sl22⟩) (c22 : PySem.W.codeIn K cd22 "places_in" = true) (k22 : PySem.W.keepIn K (.ref f22) = true)
    (a30 : PySem.W.nsIn K mainGlobals "places" = some (some (.ref f30))) {oc30 : Value} {od30 an30 : Option Addr} {sl30 : Array (Option Value)} {kV30 dc30 pm30 cd30 ct30 : Value}
    (l30 : K.lookup f30 = some ⟨oc30, od30, .func (PySem.W.fnOf "places" "places" (defArgs (topS 30)) (defBody (topS 30)) (defScope (topS 30)) .none kV30 dc30 pm30 an30 cd30 ct30), sl30⟩) (c30 : PySem.W.codeIn K cd30 "places" = true) (k30 : PySem.W.keepIn K (.ref f30) = true)
    (a25 : PySem.W.nsIn K mainGlobals "weight" = some (some (.ref f25))) {oc25 : Value} {od25 an25 : Option Addr} {sl25 : Array (Option Value)} {kV25 dc25 pm25 cd25 ct25 : Value}
    (l25 : K.lookup f25 = some ⟨oc25, od25, .func (PySem.W.fnOf "weight" "weight" (defArgs (topS 25)) (defBody (topS 25)) (defScope (topS 25)) .none kV25 dc25 pm25 an25 cd25 ct25), sl25⟩) (c25 : PySem.W.codeIn K cd25 "weight" = true) (k25 : PySem.W.keepIn K (.ref f25) = true)
    (a9 : PySem.W.nsIn K mainGlobals "check_integer" = some (some (.ref f9))) {oc9 : Value} {od9 an9 : Option Addr} {sl9 : Array (Option Value)} {kV9 dc9 pm9 cd9 ct9 : Value}
    (l9 : K.lookup f9 = some ⟨oc9, od9, .func (PySem.W.fnOf "check_integer" "check_integer" (defArgs (topS 9)) (defBody (topS 9)) (defScope (topS 9)) .none kV9 dc9 pm9 an9 cd9 ct9), sl9⟩) (c9 : PySem.W.codeIn K cd9 "check_integer" = true) (k9 : PySem.W.keepIn K (.ref f9) = true)
    (a29 : PySem.W.nsIn K mainGlobals "words_number" = some (some (.ref f29))) {oc29 : Value} {od29 an29 : Option Addr} {sl29 : Array (Option Value)} {kV29 dc29 pm29 cd29 ct29 : Value}
    (l29 : K.lookup f29 = some ⟨oc29, od29, .func (PySem.W.fnOf "words_number" "words_number" (defArgs (topS 29)) (defBody (topS 29)) (defScope (topS 29)) .none kV29 dc29 pm29 an29 cd29 ct29), sl29⟩) (c29 : PySem.W.codeIn K cd29 "words_number" = true) (k29 : PySem.W.keepIn K (.ref f29) = true)
    (a21 : PySem.W.nsIn K mainGlobals "words_by" = some (some (.ref f21))) {oc21 : Value} {od21 an21 : Option Addr} {sl21 : Array (Option Value)} {kV21 dc21 pm21 cd21 ct21 : Value}
    (l21 : K.lookup f21 = some ⟨oc21, od21, .func (PySem.W.fnOf "words_by" "words_by" (defArgs (topS 21)) (defBody (topS 21)) (defScope (topS 21)) .none kV21 dc21 pm21 an21 cd21 ct21), sl21⟩) (c21 : PySem.W.codeIn K cd21 "words_by" = true) (k21 : PySem.W.keepIn K (.ref f21) = true)
    (a28 : PySem.W.nsIn K mainGlobals "words_of" = some (some (.ref f28))) {oc28 : Value} {od28 an28 : Option Addr} {sl28 : Array (Option Value)} {kV28 dc28 pm28 cd28 ct28 : Value}
    (l28 : K.lookup f28 = some ⟨oc28, od28, .func (PySem.W.fnOf "words_of" "words_of" (defArgs (topS 28)) (defBody (topS 28)) (defScope (topS 28)) .none kV28 dc28 pm28 an28 cd28 ct28), sl28⟩) (c28 : PySem.W.codeIn K cd28 "words_of" = true) (k28 : PySem.W.keepIn K (.ref f28) = true)
    (a38 : PySem.W.nsIn K mainGlobals "law" = some (some (.ref f38))) {oc38 : Value} {od38 an38 : Option Addr} {sl38 : Array (Option Value)} {kV38 dc38 pm38 cd38 ct38 : Value}
    (l38 : K.lookup f38 = some ⟨oc38, od38, .func (PySem.W.fnOf "law" "law" (defArgs (topS 38)) (defBody (topS 38)) (defScope (topS 38)) .none kV38 dc38 pm38 an38 cd38 ct38), sl38⟩) (c38 : PySem.W.codeIn K cd38 "law" = true) (k38 : PySem.W.keepIn K (.ref f38) = true)
    {t_HEAVIEST : Tok} (g_HEAVIEST : PySem.W.nsIn K mainGlobals "HEAVIEST" = some (some (Value.int 9 t_HEAVIEST)))
    {t_LARGEST : Tok} (g_LARGEST : PySem.W.nsIn K mainGlobals "LARGEST" = some (some (Value.int 99 t_LARGEST)))
    {t_LETTERS : Tok} (g_LETTERS : PySem.W.nsIn K mainGlobals "LETTERS" = some (some (Value.str (st [97, 98, 99, 100, 101, 102]) t_LETTERS)))
    (z_all : PySem.W.nsIn K mainGlobals "all" = some none)
    (z_bool : PySem.W.nsIn K mainGlobals "bool" = some none)
    (z_int : PySem.W.nsIn K mainGlobals "int" = some none)
    (z_isinstance : PySem.W.nsIn K mainGlobals "isinstance" = some none)
    (z_len : PySem.W.nsIn K mainGlobals "len" = some none)
    (z_list : PySem.W.nsIn K mainGlobals "list" = some none)
    (z_min : PySem.W.nsIn K mainGlobals "min" = some none)
    (z_range : PySem.W.nsIn K mainGlobals "range" = some none)
    (z_set : PySem.W.nsIn K mainGlobals "set" = some none)
    (z_sorted : PySem.W.nsIn K mainGlobals "sorted" = some none)
    (z_str : PySem.W.nsIn K mainGlobals "str" = some none)
    (z_sum : PySem.W.nsIn K mainGlobals "sum" = some none)
    (z_tuple : PySem.W.nsIn K mainGlobals "tuple" = some none)
    (z_zip : PySem.W.nsIn K mainGlobals "zip" = some none)
    {X_OverlapsError : Addr} (xa_OverlapsError : PySem.W.nsIn K mainGlobals "OverlapsError" = some (some (.ref X_OverlapsError))) (xn_OverlapsError : clsNm K X_OverlapsError = some "OverlapsError")
    {X_InvalidInteger : Addr} (xa_InvalidInteger : PySem.W.nsIn K mainGlobals "InvalidInteger" = some (some (.ref X_InvalidInteger))) (xn_InvalidInteger : clsNm K X_InvalidInteger = some "InvalidInteger")
    {X_InvalidSetting : Addr} (xa_InvalidSetting : PySem.W.nsIn K mainGlobals "InvalidSetting" = some (some (.ref X_InvalidSetting))) (xn_InvalidSetting : clsNm K X_InvalidSetting = some "InvalidSetting")
    {X_InvalidWord : Addr} (xa_InvalidWord : PySem.W.nsIn K mainGlobals "InvalidWord" = some (some (.ref X_InvalidWord))) (xn_InvalidWord : clsNm K X_InvalidWord = some "InvalidWord")
    {xI : Addr} (xi : PySem.W.findIn K (.ref X_OverlapsError) "__init__" = some (some (.ref xI))) {xoc xkV xdc xpm xct : Value} {xod xan : Option Addr} {xsl : Array (Option Value)} {xcda xcc : Addr}
    (xl : K.lookup xI = some ⟨xoc, xod, .func (PySem.W.ksFn "__init__" "OverlapsError.__init__" (defArgs (clsInit (topS 1))) (defBody (clsInit (topS 1))) (defScope (clsInit (topS 1))) .none xkV xdc xpm xan (.ref xcda) xct xcc), xsl⟩) (xcode : PySem.W.codeIn K (.ref xcda) "OverlapsError.__init__" = true) {xccl : Value} {xcdd : Option Addr} {xvs : Array Value} {xccs : Array (Option Value)} {xfile : Str} {xtf : Tok}
    (xfl : K.lookup xcda = some ⟨xccl, xcdd, .fields xvs, xccs⟩) (xv2 : xvs[2]? = some (.str xfile xtf)) (xff : ((P.main.file : Str) == xfile) = true) {xcl : Value} {xcld : Option Addr} {xcsl : Array (Option Value)}
    (xcell : K.lookup xcc = some ⟨xcl, xcld, .cell (some (.ref X_OverlapsError)), xcsl⟩) (xcls : (PySem.W.clsIn K X_OverlapsError).isSome = true) (xany : PySem.W.nsIn K cStatics "thirdparty.any" = some none) (xtop : (P.main.scope.names.lookup ("super" : Str)).isSome = false)
    (xsup : PySem.W.nsIn K mainGlobals "super" = some none) (xtI : PySem.W.typeIn K (.ref xI) = some (.type "function")) (xsp : PySem.W.specialIn K (.builtin "object.__class__") "__get__" = some (some (.builtin "getset_descriptor.__get__"))) (xtk : PySem.W.takesIn K (.builtin "object.__class__") = some true)
    (x1 : xnB K [("OverlapsError", X_OverlapsError), ("InvalidInteger", X_InvalidInteger), ("InvalidSetting", X_InvalidSetting), ("InvalidWord", X_InvalidWord)] = true) (x2 : (List.all [("OverlapsError", X_OverlapsError), ("InvalidInteger", X_InvalidInteger), ("InvalidSetting", X_InvalidSetting), ("InvalidWord", X_InvalidWord)] fun p => xcB K X_OverlapsError xI p.2) = true) (x3 : xpB K [("OverlapsError", X_OverlapsError), ("InvalidInteger", X_InvalidInteger), ("InvalidSetting", X_InvalidSetting), ("InvalidWord", X_InvalidWord)] = true)
    : ∃ fd : FuncData, (∀ (s : Shared) (v : Value), BindsTo s fd ⟨[v], []⟩ [("script", v)]) ∧ ∀ base : Heap, K.In base → base.Ns mainGlobals mg → FnOk P w K mg base (L2.CX P w) 8 fa fd ["script"] (spL K 20 m_law) := by
  have e := hfa.symm.trans (PySem.W.mg_of X G a38)
  cases e
  have A35 := FnAt.mk' (st := topS 35) (ps := ["setting", "word"]) l35 c35 k35 (PySem.W.mg_of X G a35) fun _ _ _ _ _ _ us hl => match us, hl with | [_, _], _ => rfl
  have A37 := FnAt.mk' (st := topS 37) (ps := ["setting", "k"]) l37 c37 k37 (PySem.W.mg_of X G a37) fun _ _ _ _ _ _ us hl => match us, hl with | [_, _], _ => rfl
  have A34 := FnAt.mk' (st := topS 34) (ps := ["got", "due"]) l34 c34 k34 (PySem.W.mg_of X G a34) fun _ _ _ _ _ _ us hl => match us, hl with | [_, _], _ => rfl
  have A33 := FnAt.mk' (st := topS 33) (ps := ["pot", "many"]) l33 c33 k33 (PySem.W.mg_of X G a33) fun _ _ _ _ _ _ us hl => match us, hl with | [_, _], _ => rfl
  have A36 := FnAt.mk' (st := topS 36) (ps := ["pot", "setting", "most"]) l36 c36 k36 (PySem.W.mg_of X G a36) fun _ _ _ _ _ _ us hl => match us, hl with | [_, _, _], _ => rfl
  have A7 := FnAt.mk' (st := topS 7) (ps := ["value"]) l7 c7 k7 (PySem.W.mg_of X G a7) fun _ _ _ _ _ _ us hl => match us, hl with | [_], _ => rfl
  have A8 := FnAt.mk' (st := topS 8) (ps := ["value"]) l8 c8 k8 (PySem.W.mg_of X G a8) fun _ _ _ _ _ _ us hl => match us, hl with | [_], _ => rfl
  have A10 := FnAt.mk' (st := topS 10) (ps := ["value"]) l10 c10 k10 (PySem.W.mg_of X G a10) fun _ _ _ _ _ _ us hl => match us, hl with | [_], _ => rfl
  have A14 := FnAt.mk' (st := topS 14) (ps := ["value"]) l14 c14 k14 (PySem.W.mg_of X G a14) fun _ _ _ _ _ _ us hl => match us, hl with | [_], _ => rfl
  have A15 := FnAt.mk' (st := topS 15) (ps := ["setting"]) l15 c15 k15 (PySem.W.mg_of X G a15) fun _ _ _ _ _ _ us hl => match us, hl with | [_], _ => rfl
  have A16 := FnAt.mk' (st := topS 16) (ps := ["setting"]) l16 c16 k16 (PySem.W.mg_of X G a16) fun _ _ _ _ _ _ us hl => match us, hl with | [_], _ => rfl
  have A17 := FnAt.mk' (st := topS 17) (ps := ["setting", "value"]) l17 c17 k17 (PySem.W.mg_of X G a17) fun _ _ _ _ _ _ us hl => match us, hl with | [_, _], _ => rfl
  have A18 := FnAt.mk' (st := topS 18) (ps := ["setting", "word"]) l18 c18 k18 (PySem.W.mg_of X G a18) fun _ _ _ _ _ _ us hl => match us, hl with | [_, _], _ => rfl
  have A26 := FnAt.mk' (st := topS 26) (ps := ["setting", "word", "second_word"]) l26 c26 k26 (PySem.W.mg_of X G a26) fun _ _ _ _ _ _ us hl => match us, hl with | [_, _, _], _ => rfl
  have A19 := FnAt.mk' (st := topS 19) (ps := ["setting", "word"]) l19 c19 k19 (PySem.W.mg_of X G a19) fun _ _ _ _ _ _ us hl => match us, hl with | [_, _], _ => rfl
  have A20 := FnAt.mk' (st := topS 20) (ps := ["setting", "word"]) l20 c20 k20 (PySem.W.mg_of X G a20) fun _ _ _ _ _ _ us hl => match us, hl with | [_, _], _ => rfl
  have A27 := FnAt.mk' (st := topS 27) (ps := ["setting", "word", "second_word"]) l27 c27 k27 (PySem.W.mg_of X G a27) fun _ _ _ _ _ _ us hl => match us, hl with | [_, _, _], _ => rfl
  have A24 := FnAt.mk' (st := topS 24) (ps := ["setting", "value"]) l24 c24 k24 (PySem.W.mg_of X G a24) fun _ _ _ _ _ _ us hl => match us, hl with | [_, _], _ => rfl
  have A23 := FnAt.mk' (st := topS 23) (ps := ["word", "second"]) l23 c23 k23 (PySem.W.mg_of X G a23) fun _ _ _ _ _ _ us hl => match us, hl with | [_, _], _ => rfl
  have A31 := FnAt.mk' (st := topS 31) (ps := ["setting", "word", "second_word"]) l31 c31 k31 (PySem.W.mg_of X G a31) fun _ _ _ _ _ _ us hl => match us, hl with | [_, _, _], _ => rfl
  have A22 := FnAt.mk' (st := topS 22) (ps := ["word", "second"]) l22 c22 k22 (PySem.W.mg_of X G a22) fun _ _ _ _ _ _ us hl => match us, hl with | [_, _], _ => rfl
  have A30 := FnAt.mk' (st := topS 30) (ps := ["setting", "word", "second_word"]) l30 c30 k30 (PySem.W.mg_of X G a30) fun _ _ _ _ _ _ us hl => match us, hl with | [_, _, _], _ => rfl
  have A25 := FnAt.mk' (st := topS 25) (ps := ["setting", "word"]) l25 c25 k25 (PySem.W.mg_of X G a25) fun _ _ _ _ _ _ us hl => match us, hl with | [_, _], _ => rfl
  have A9 := FnAt.mk' (st := topS 9) (ps := ["value", "least"]) l9 c9 k9 (PySem.W.mg_of X G a9) fun _ _ _ _ _ _ us hl => match us, hl with | [_, _], _ => rfl
  have A29 := FnAt.mk' (st := topS 29) (ps := ["setting", "k"]) l29 c29 k29 (PySem.W.mg_of X G a29) fun _ _ _ _ _ _ us hl => match us, hl with | [_, _], _ => rfl
  have A21 := FnAt.mk' (st := topS 21) (ps := ["setting", "k"]) l21 c21 k21 (PySem.W.mg_of X G a21) fun _ _ _ _ _ _ us hl => match us, hl with | [_, _], _ => rfl
  have A28 := FnAt.mk' (st := topS 28) (ps := ["setting", "k"]) l28 c28 k28 (PySem.W.mg_of X G a28) fun _ _ _ _ _ _ us hl => match us, hl with | [_, _], _ => rfl
  have A38 := FnAt.mk' (st := topS 38) (ps := ["script"]) l38 c38 k38 (PySem.W.mg_of X G a38) fun _ _ _ _ _ _ us hl => match us, hl with | [_], _ => rfl
  have xk : ∀ base : Heap, XK P w K mg base X_OverlapsError xI (PySem.W.ksFn "__init__" "OverlapsError.__init__" (defArgs (clsInit (topS 1))) (defBody (clsInit (topS 1))) (defScope (clsInit (topS 1))) .none xkV xdc xpm xan (.ref xcda) xct xcc) xNames := fun base => xk_of [("OverlapsError", X_OverlapsError), ("InvalidInteger", X_InvalidInteger), ("InvalidSetting", X_InvalidSetting), ("InvalidWord", X_InvalidWord)]
    (init_ok (k := 0) (pl := _) ⟨⟨_, _, _, xl⟩, xcode, ⟨_, _, _, _, _, _, xfl, xv2, xff⟩, ⟨_, _, _, xcell⟩, cls_any xcls, xany, xtop⟩ ⟨fun _ => rfl, fun _ => rfl, fun _ => rfl⟩ (PySem.W.mg_none_of X G xsup) (by decide) rfl rfl rfl rfl ⟨_, rfl, rfl⟩)
    (Binds.all fun us hl => match us, hl with | [_, _], _ => rfl) (fun _ _ _ => .of_eq rfl) xtI xsp xtk x1 x2 x3
  have T : ∀ base : Heap, Txt P w K mg base (pick 0 [(35, f35), (37, f37), (34, f34), (33, f33), (36, f36), (7, f7), (8, f8), (10, f10), (14, f14), (15, f15), (16, f16), (17, f17), (18, f18), (26, f26), (19, f19), (20, f20), (27, f27), (24, f24), (23, f23), (31, f31), (22, f22), (30, f30), (25, f25), (9, f9), (29, f29), (21, f21), (28, f28), (38, fa)]) (pick (PySem.W.fnOf "law" "law" (defArgs (topS 38)) (defBody (topS 38)) (defScope (topS 38)) .none kV38 dc38 pm38 an38 cd38 ct38) [(35, PySem.W.fnOf "_law_weight" "_law_weight" (defArgs (topS 35)) (defBody (topS 35)) (defScope (topS 35)) .none kV35 dc35 pm35 an35 cd35 ct35), (37, PySem.W.fnOf "_law_all" "_law_all" (defArgs (topS 37)) (defBody (topS 37)) (defScope (topS 37)) .none kV37 dc37 pm37 an37 cd37 ct37), (34, PySem.W.fnOf "_law_same" "_law_same" (defArgs (topS 34)) (defBody (topS 34)) (defScope (topS 34)) .none kV34 dc34 pm34 an34 cd34 ct34), (33, PySem.W.fnOf "_law_take" "_law_take" (defArgs (topS 33)) (defBody (topS 33)) (defScope (topS 33)) .none kV33 dc33 pm33 an33 cd33 ct33), (36, PySem.W.fnOf "_law_word" "_law_word" (defArgs (topS 36)) (defBody (topS 36)) (defScope (topS 36)) .none kV36 dc36 pm36 an36 cd36 ct36), (7, PySem.W.fnOf "is_integer" "is_integer" (defArgs (topS 7)) (defBody (topS 7)) (defScope (topS 7)) .none kV7 dc7 pm7 an7 cd7 ct7), (8, PySem.W.fnOf "is_natural" "is_natural" (defArgs (topS 8)) (defBody (topS 8)) (defScope (topS 8)) .none kV8 dc8 pm8 an8 cd8 ct8), (10, PySem.W.fnOf "is_field" "is_field" (defArgs (topS 10)) (defBody (topS 10)) (defScope (topS 10)) .none kV10 dc10 pm10 an10 cd10 ct10), (14, PySem.W.fnOf "is_setting" "is_setting" (defArgs (topS 14)) (defBody (topS 14)) (defScope (topS 14)) .none kV14 dc14 pm14 an14 cd14 ct14), (15, PySem.W.fnOf "check_setting" "check_setting" (defArgs (topS 15)) (defBody (topS 15)) (defScope (topS 15)) .none kV15 dc15 pm15 an15 cd15 ct15), (16, PySem.W.fnOf "letters_of" "letters_of" (defArgs (topS 16)) (defBody (topS 16)) (defScope (topS 16)) .none kV16 dc16 pm16 an16 cd16 ct16), (17, PySem.W.fnOf "is_word_of" "is_word_of" (defArgs (topS 17)) (defBody (topS 17)) (defScope (topS 17)) .none kV17 dc17 pm17 an17 cd17 ct17), (18, PySem.W.fnOf "check_word" "check_word" (defArgs (topS 18)) (defBody (topS 18)) (defScope (topS 18)) .none kV18 dc18 pm18 an18 cd18 ct18), (26, PySem.W.fnOf "check_two_words" "check_two_words" (defArgs (topS 26)) (defBody (topS 26)) (defScope (topS 26)) .none kV26 dc26 pm26 an26 cd26 ct26), (19, PySem.W.fnOf "weight_of" "weight_of" (defArgs (topS 19)) (defBody (topS 19)) (defScope (topS 19)) .none kV19 dc19 pm19 an19 cd19 ct19), (20, PySem.W.fnOf "order_key" "order_key" (defArgs (topS 20)) (defBody (topS 20)) (defScope (topS 20)) .none kV20 dc20 pm20 an20 cd20 ct20), (27, PySem.W.fnOf "is_less" "is_less" (defArgs (topS 27)) (defBody (topS 27)) (defScope (topS 27)) .none kV27 dc27 pm27 an27 cd27 ct27), (24, PySem.W.fnOf "is_word" "is_word" (defArgs (topS 24)) (defBody (topS 24)) (defScope (topS 24)) .none kV24 dc24 pm24 an24 cd24 ct24), (23, PySem.W.fnOf "overlaps_of" "overlaps_of" (defArgs (topS 23)) (defBody (topS 23)) (defScope (topS 23)) .none kV23 dc23 pm23 an23 cd23 ct23), (31, PySem.W.fnOf "overlaps" "overlaps" (defArgs (topS 31)) (defBody (topS 31)) (defScope (topS 31)) .none kV31 dc31 pm31 an31 cd31 ct31), (22, PySem.W.fnOf "places_in" "places_in" (defArgs (topS 22)) (defBody (topS 22)) (defScope (topS 22)) .none kV22 dc22 pm22 an22 cd22 ct22), (30, PySem.W.fnOf "places" "places" (defArgs (topS 30)) (defBody (topS 30)) (defScope (topS 30)) .none kV30 dc30 pm30 an30 cd30 ct30), (25, PySem.W.fnOf "weight" "weight" (defArgs (topS 25)) (defBody (topS 25)) (defScope (topS 25)) .none kV25 dc25 pm25 an25 cd25 ct25), (9, PySem.W.fnOf "check_integer" "check_integer" (defArgs (topS 9)) (defBody (topS 9)) (defScope (topS 9)) .none kV9 dc9 pm9 an9 cd9 ct9), (29, PySem.W.fnOf "words_number" "words_number" (defArgs (topS 29)) (defBody (topS 29)) (defScope (topS 29)) .none kV29 dc29 pm29 an29 cd29 ct29), (21, PySem.W.fnOf "words_by" "words_by" (defArgs (topS 21)) (defBody (topS 21)) (defScope (topS 21)) .none kV21 dc21 pm21 an21 cd21 ct21), (28, PySem.W.fnOf "words_of" "words_of" (defArgs (topS 28)) (defBody (topS 28)) (defScope (topS 28)) .none kV28 dc28 pm28 an28 cd28 ct28), (38, PySem.W.fnOf "law" "law" (defArgs (topS 38)) (defBody (topS 38)) (defScope (topS 38)) .none kV38 dc38 pm38 an38 cd38 ct38)]) X_OverlapsError xI _ := fun base => by
    refine ⟨A35, A37, A34, A33, A36, A7, A8, A10, A14, A15, A16, A17, A18, A26, A19, A20, A27, A24, A23, A31, A22, A30, A25, A9, A29, A21, A28, A38, ⟨_, PySem.W.mg_of X G g_HEAVIEST⟩, ⟨_, PySem.W.mg_of X G g_LARGEST⟩, ⟨_, PySem.W.mg_of X G g_LETTERS⟩, PySem.W.mg_none_of X G z_all, PySem.W.mg_none_of X G z_bool, PySem.W.mg_none_of X G z_int, PySem.W.mg_none_of X G z_isinstance, PySem.W.mg_none_of X G z_len, PySem.W.mg_none_of X G z_list, PySem.W.mg_none_of X G z_min, PySem.W.mg_none_of X G z_range, PySem.W.mg_none_of X G z_set, PySem.W.mg_none_of X G z_sorted, PySem.W.mg_none_of X G z_str, PySem.W.mg_none_of X G z_sum, PySem.W.mg_none_of X G z_tuple, PySem.W.mg_none_of X G z_zip, xk base, ⟨_, PySem.W.mg_of X G xa_OverlapsError, xn_OverlapsError⟩, ⟨_, PySem.W.mg_of X G xa_InvalidInteger, xn_InvalidInteger⟩, ⟨_, PySem.W.mg_of X G xa_InvalidSetting, xn_InvalidSetting⟩, ⟨_, PySem.W.mg_of X G xa_InvalidWord, xn_InvalidWord⟩⟩
  exact ⟨_, fun s v => .of_eq rfl, fun base _ _ => ok_law (T base)⟩
end Fw
open PySem PySem.W PyProof.Rows
set_option pp.maxSteps 400 in
set_option maxHeartbeats 0 in
theorem PySem.Challenge.cw_wholeoverlaps_k03_words_of_settings_holds : PySem.Challenge.rw_wholeoverlaps_k03_words_of_settings.Holds := by
  w_on; o_law; k_head; (case hw => w_witness2)
  k_fill
  refine L2.walk_of (l := PySem.Challenge.rw_wholeoverlaps_k03_words_of_settings) (n := 63) (k := 8) (x := "script") (CX := fun w => L2.CX PySem.Challenge.rw_wholeoverlaps_k03_words_of_settings.prog w) (sp := fun w => Fw.spL _ 20 Fw.m_law) rfl (by decide) rfl ⟨rfl, by decide, by decide⟩ (fun w h Y => PySem.W.kIn_of Y) ?F (fun _ H a ns hl _ hS => Fw.spL_of hS (Fw.law_true ns hl)) (fun _ _ _ _ _ h => Fw.cx_false h)
  case F =>
    intro w mg fa h KX G hmg
    refine' Fw.all_mk KX G hmg ?a35 ?l35 ?c35 ?k35 ?a37 ?l37 ?c37 ?k37 ?a34 ?l34 ?c34 ?k34 ?a33 ?l33 ?c33 ?k33 ?a36 ?l36 ?c36 ?k36 ?a7 ?l7 ?c7 ?k7 ?a8 ?l8 ?c8 ?k8 ?a10 ?l10 ?c10 ?k10 ?a14 ?l14 ?c14 ?k14 ?a15 ?l15 ?c15 ?k15 ?a16 ?l16 ?c16 ?k16 ?a17 ?l17 ?c17 ?k17 ?a18 ?l18 ?c18 ?k18 ?a26 ?l26 ?c26 ?k26 ?a19 ?l19 ?c19 ?k19 ?a20 ?l20 ?c20 ?k20 ?a27 ?l27 ?c27 ?k27 ?a24 ?l24 ?c24 ?k24 ?a23 ?l23 ?c23 ?k23 ?a31 ?l31 ?c31 ?k31 ?a22 ?l22 ?c22 ?k22 ?a30 ?l30 ?c30 ?k30 ?a25 ?l25 ?c25 ?k25 ?a9 ?l9 ?c9 ?k9 ?a29 ?l29 ?c29 ?k29 ?a21 ?l21 ?c21 ?k21 ?a28 ?l28 ?c28 ?k28 ?a38 ?l38 ?c38 ?k38 ?g_HEAVIEST ?g_LARGEST ?g_LETTERS ?z_all ?z_bool ?z_int ?z_isinstance ?z_len ?z_list ?z_min ?z_range ?z_set ?z_sorted ?z_str ?z_sum ?z_tuple ?z_zip ?xa_OverlapsError ?xn_OverlapsError ?xa_InvalidInteger ?xn_InvalidInteger ?xa_InvalidSetting ?xn_InvalidSetting ?xa_InvalidWord ?xn_InvalidWord ?xi ?xl ?xcode ?xfl ?xv2 ?xff ?xcell ?xcls ?xany ?xtop ?xsup ?xtI ?xsp ?xtk ?x1 ?x2 ?x3
    (case a35 => k_is); (case l35 => k_is); (case c35 => k_is); (case k35 => k_is); (case a37 => k_is); (case l37 => k_is); (case c37 => k_is); (case k37 => k_is); (case a34 => k_is); (case l34 => k_is); (case c34 => k_is); (case k34 => k_is); (case a33 => k_is); (case l33 => k_is); (case c33 => k_is); (case k33 => k_is); (case a36 => k_is); (case l36 => k_is); (case c36 => k_is); (case k36 => k_is); (case a7 => k_is); (case l7 => k_is); (case c7 => k_is); (case k7 => k_is); (case a8 => k_is); (case l8 => k_is); (case c8 => k_is); (case k8 => k_is); (case a10 => k_is); (case l10 => k_is); (case c10 => k_is); (case k10 => k_is); (case a14 => k_is); (case l14 => k_is); (case c14 => k_is); (case k14 => k_is); (case a15 => k_is); (case l15 => k_is); (case c15 => k_is); (case k15 => k_is); (case a16 => k_is); (case l16 => k_is); (case c16 => k_is); (case k16 => k_is); (case a17 => k_is); (case l17 => k_is); (case c17 => k_is); (case k17 => k_is); (case a18 => k_is); (case l18 => k_is); (case c18 => k_is); (case k18 => k_is); (case a26 => k_is); (case l26 => k_is); (case c26 => k_is); (case k26 => k_is); (case a19 => k_is); (case l19 => k_is); (case c19 => k_is); (case k19 => k_is); (case a20 => k_is); (case l20 => k_is); (case c20 => k_is); (case k20 => k_is); (case a27 => k_is); (case l27 => k_is); (case c27 => k_is); (case k27 => k_is); (case a24 => k_is); (case l24 => k_is); (case c24 => k_is); (case k24 => k_is); (case a23 => k_is); (case l23 => k_is); (case c23 => k_is); (case k23 => k_is); (case a31 => k_is); (case l31 => k_is); (case c31 => k_is); (case k31 => k_is); (case a22 => k_is); (case l22 => k_is); (case c22 => k_is); (case k22 => k_is); (case a30 => k_is); (case l30 => k_is); (case c30 => k_is); (case k30 => k_is); (case a25 => k_is); (case l25 => k_is); (case c25 => k_is); (case k25 => k_is); (case a9 => k_is); (case l9 => k_is); (case c9 => k_is); (case k9 => k_is); (case a29 => k_is); (case l29 => k_is); (case c29 => k_is); (case k29 => k_is); (case a21 => k_is); (case l21 => k_is); (case c21 => k_is); (case k21 => k_is); (case a28 => k_is); (case l28 => k_is); (case c28 => k_is); (case k28 => k_is); (case a38 => k_is); (case l38 => k_is); (case c38 => k_is); (case k38 => k_is); (case g_HEAVIEST => k_is); (case g_LARGEST => k_is); (case g_LETTERS => k_is); (case z_all => k_is); (case z_bool => k_is); (case z_int => k_is); (case z_isinstance => k_is); (case z_len => k_is); (case z_list => k_is); (case z_min => k_is); (case z_range => k_is); (case z_set => k_is); (case z_sorted => k_is); (case z_str => k_is); (case z_sum => k_is); (case z_tuple => k_is); (case z_zip => k_is); (case xa_OverlapsError => k_is); (case xn_OverlapsError => kernel_rfl); (case xa_InvalidInteger => k_is); (case xn_InvalidInteger => kernel_rfl); (case xa_InvalidSetting => k_is); (case xn_InvalidSetting => kernel_rfl); (case xa_InvalidWord => k_is); (case xn_InvalidWord => kernel_rfl); (case xi => k_is); (case xl => k_is); (case xcode => k_is); (case xfl => k_is); (case xv2 => rfl); (case xff => decide +kernel); (case xcell => k_is); (case xcls => kernel_rfl); (case xany => k_is); (case xtop => rfl); (case xsup => k_is); (case xtI => k_is); (case xsp => k_is); (case xtk => k_is); (case x1 => kernel_rfl); (case x2 => kernel_rfl); (case x3 => kernel_rfl)
