import PyProof.Rows.All
import Wide.All
import OpenK.AllK
import Wide.FinOn
import HandS.ForMost
import HandS.Walk
import HandS.TupAny
import HandS.TupMul
import HandS.Deep
import HandS.Conv
import HandS.Lambda
import KE.LtData
import KE.SortData
import KE.DataMinMax
import KE.DataFind
import HandS.TupLe
import HandS.IsInst
import HandS.Zip
import HandS.WideMore
import HandS.SetBool
import HandS.Strs
import HandS.DictTup
import KE.GoesEnum
import HandS.SetFor
import HandS.TupSets
import KE.DataMinKey
import KE.KLam
import HandS.ForExc
import HandS.ExcOwn
import HandS.ExcCtx
import KE.DatumOrd
import KE.KRevSl
import HandS.HotCalls
import HandS.EndTab
import PySem.Challenge.RW_keywise_k89_whole_patterns_give_the_rule
set_option Elab.async false
set_option linter.all false
set_option maxRecDepth 100000
set_option maxHeartbeats 4000000
set_option autoImplicit false
/-! DLa: facts on values, environments of facts, what readings give by facts. -/
namespace DL
open PySem PySem.Spec PyProof.Rows L2

/-! ### a growing heap: all stays but the tables of code objects, which stay tables -/
theorem nT_lst {xs : List V} : ∀ ps, HO.lst xs ≠ .tbl ps := fun _ z => by cases z
theorem nT_tup {xs : List V} : ∀ ps, HO.tup xs ≠ .tbl ps := fun _ z => by cases z
theorem nT_frz {o : Obj} {u : HO} : ∀ ps, HO.frz o u ≠ .tbl ps := fun _ z => by cases z
theorem nT_ext {φ : Heap → Prop} : ∀ ps, HO.ext φ ≠ .tbl ps := fun _ z => by cases z
theorem nT_dT {kvs : List (List Key × V)} : ∀ ps, HO.dT kvs ≠ .tbl ps := fun _ z => by cases z
/-- the one lambda of this program -/
def lamQ : PySem.Str := "first_within.<locals>.<lambda>"
structure Sm (H H' : Hp) : Prop where
  k : ∀ b o, H b = some o → (∀ ps, o ≠ .tbl ps) → H' b = some o
  t : ∀ b, LamX.TabS H b lamQ → LamX.TabS H' b lamQ
  n : ∀ b, H' b = none → H b = none
theorem Sm.of {H H' : Hp} (e : Same H H') : Sm H H' := ⟨fun b o h _ => e b o h, fun _ t => t.ext e, fun _ h => e.free h⟩
instance {H H' : Hp} : Coe (Same H H') (Sm H H') := ⟨Sm.of⟩
theorem Sm.refl (H : Hp) : Sm H H := Sm.of (Same.refl H)
theorem Sm.trans {H H1 H2 : Hp} (a : Sm H H1) (b : Sm H1 H2) : Sm H H2 := ⟨fun c o h n => b.k c o (a.k c o h n) n, fun c t => b.t c (a.t c t), fun c h => a.n c (b.n c h)⟩
/-! ### data in a growing heap -/
theorem same_rd {H H' : Hp} {a : Addr} {u : HO} (e : Sm H H') (hu : ∀ ps, u ≠ .tbl ps) (h : Rd H a u) : Rd H' a u := by
  rcases h with h | ⟨o, h⟩
  · exact .inl (e.k a _ h hu)
  · exact .inr ⟨o, e.k a _ h nT_frz⟩
theorem same_l {K : PySem.W.Frag} {H H' : Hp} {a : Addr} {xs : List V} (e : Sm H H') (h : SqL K H a xs) : SqL K H' a xs := by
  rcases h with h | h
  · exact .inl (same_rd e nT_lst h)
  · exact .inr h
theorem same_t {K : PySem.W.Frag} {H H' : Hp} {a : Addr} {xs : List V} (e : Sm H H') (h : SqT K H a xs) : SqT K H' a xs := by
  rcases h with h | h
  · exact .inl (same_rd e nT_tup h)
  · exact .inr h
mutual
theorem dp_mono {K : PySem.W.Frag} {H H' : Hp} (e : Sm H H') : ∀ (d : PyData) (v : V), Dp K H v d → Dp K H' v d
  | .none, _, h => by cases h; exact .non
  | .bool b, _, h => by cases h; exact .bl b
  | .int i, _, h => by cases h; exact .int i
  | .str x, _, h => by cases h; exact .str x
  | .list ds, _, h => by
    cases h with
    | lst hs ha => exact .lst (same_l e hs) (dpAll_mono e ds _ ha)
  | .tuple ds, _, h => by
    cases h with
    | tup hs ha => exact .tup (same_t e hs) (dpAll_mono e ds _ ha)
  | .dict _, _, h => by cases h
theorem dpAll_mono {K : PySem.W.Frag} {H H' : Hp} (e : Sm H H') : ∀ (ds : List PyData) (vs : List V), DpAll K H vs ds → DpAll K H' vs ds
  | [], _, h => by cases h; exact .nil
  | d :: ds, _, h => by
    cases h with
    | cons h1 h2 => exact .cons (dp_mono e d _ h1) (dpAll_mono e ds _ h2)
end
theorem dpAll_len {K : PySem.W.Frag} {H : Hp} : ∀ {ds : List PyData} {vs : List V}, DpAll K H vs ds → vs.length = ds.length
  | [], _, h => by cases h; rfl
  | _ :: _, _, h => by cases h with | cons _ t => rw [List.length_cons, List.length_cons, dpAll_len t]
theorem dpAll_get {K : PySem.W.Frag} {H : Hp} : ∀ {ds : List PyData} {vs : List V} {i : Nat} {d : PyData}, DpAll K H vs ds → ds[i]? = some d → ∃ v, vs[i]? = some v ∧ Dp K H v d
  | [], _, _, _, h, e => by simp at e
  | d :: ds, _, 0, _, h, e => by
    cases h with
    | cons h1 _ =>
      have e' : d = _ := Option.some.inj e
      subst e'
      exact ⟨_, rfl, h1⟩
  | d :: ds, _, i + 1, _, h, e => by
    cases h with
    | cons _ h2 =>
      obtain ⟨v, q1, q2⟩ := dpAll_get (i := i) h2 e
      exact ⟨v, q1, q2⟩
theorem dpAll_gets {K : PySem.W.Frag} {H : Hp} : ∀ {ds : List PyData} {vs : List V} {i : Nat} {v : V}, DpAll K H vs ds → vs[i]? = some v → ∃ d, ds[i]? = some d ∧ Dp K H v d
  | [], _, _, _, h, e => by cases h; simp at e
  | d :: ds, _, 0, _, h, e => by
    cases h with
    | cons h1 _ =>
      have e' := Option.some.inj e
      subst e'
      exact ⟨_, rfl, h1⟩
  | d :: ds, _, i + 1, _, h, e => by
    cases h with
    | cons _ h2 =>
      obtain ⟨v, q1, q2⟩ := dpAll_gets (i := i) h2 e
      exact ⟨v, q1, q2⟩
theorem dpAll_app {K : PySem.W.Frag} {H : Hp} : ∀ {ds es : List PyData} {vs us : List V}, DpAll K H vs ds → DpAll K H us es → DpAll K H (vs ++ us) (ds ++ es)
  | [], _, _, _, h, g => by cases h; exact g
  | _ :: _, _, _, _, h, g => by cases h with | cons h1 h2 => exact .cons h1 (dpAll_app h2 g)
theorem dpAll_take {K : PySem.W.Frag} {H : Hp} : ∀ {ds : List PyData} {vs : List V} (n : Nat), DpAll K H vs ds → DpAll K H (vs.take n) (ds.take n)
  | _, _, 0, _ => .nil
  | [], _, n + 1, h => by cases h; exact .nil
  | _ :: _, _, n + 1, h => by cases h with | cons h1 h2 => exact .cons h1 (dpAll_take n h2)
theorem dpAll_drop {K : PySem.W.Frag} {H : Hp} : ∀ {ds : List PyData} {vs : List V} (n : Nat), DpAll K H vs ds → DpAll K H (vs.drop n) (ds.drop n)
  | _, _, 0, h => h
  | [], _, n + 1, h => by cases h; exact .nil
  | _ :: _, _, n + 1, h => by cases h with | cons h1 h2 => exact dpAll_drop n h2

/-! ### facts -/
/-- what is known of a value; it stays as the heap grows -/
structure Fact where
  ok : V → Hp → Prop
  mono : ∀ {v : V} {H H' : Hp}, Sm H H' → ok v H → ok v H'
/-- it reads as d -/
def isD (K : PySem.W.Frag) (d : PyData) : Fact := ⟨fun v H => Dp K H v d, fun e h => dp_mono e d _ h⟩
/-- a list that H tracks, its items read as ds -/
def isL (K : PySem.W.Frag) (ds : List PyData) : Fact := ⟨fun v H => ∃ p vs, v = .ref p ∧ H p = some (.lst vs) ∧ DpAll K H vs ds, fun e ⟨p, vs, h1, h2, h3⟩ => ⟨p, vs, h1, e.k p _ h2 nT_lst, dpAll_mono e ds vs h3⟩⟩
/-- an object that stands so -/
def isO (o : HO) : Fact := ⟨fun v H => (∃ p, v = .ref p ∧ H p = some o) ∧ ∀ ps, o ≠ .tbl ps, fun e ⟨⟨p, h1, h2⟩, h3⟩ => ⟨⟨p, h1, e.k p _ h2 h3⟩, h3⟩⟩
/-- the value itself -/
def isV (v : V) : Fact := ⟨fun x _ => x = v, fun _ h => h⟩
/-- A says at least what B says -/
def Le (A B : Fact) : Prop := ∀ v H, A.ok v H → B.ok v H
theorem Le.refl (A : Fact) : Le A A := fun _ _ h => h
theorem Le.of_eq {A B : Fact} (h : A = B) : Le A B := by subst h; exact Le.refl A
theorem le_l {K : PySem.W.Frag} {ds : List PyData} : Le (isL K ds) (isD K (.list ds)) := fun v H ⟨p, vs, h1, h2, h3⟩ => by
  subst h1
  exact .lst (.inl (.inl h2)) h3

/-! ### typed data -/
class Enc (α : Type) where
  enc : α → PyData
instance : Enc Int := ⟨.int⟩
instance : Enc Nat := ⟨fun n => .int (n : Int)⟩
instance : Enc Bool := ⟨.bool⟩
instance : Enc Str := ⟨.str⟩
instance : Enc Unit := ⟨fun _ => .none⟩
instance {α : Type} [Enc α] : Enc (Option α) := ⟨fun | none => .none | some x => Enc.enc x⟩
instance {α : Type} [Enc α] : Enc (List α) := ⟨fun l => .tuple (l.map Enc.enc)⟩
instance {α β : Type} [Enc α] [Enc β] : Enc (α × β) := ⟨fun p => .tuple [Enc.enc p.1, Enc.enc p.2]⟩
/-- a Python list -/
structure PL (α : Type) where
  l : List α
instance {α : Type} [Enc α] : Enc (PL α) := ⟨fun x => .list (x.l.map Enc.enc)⟩
abbrev Is (K : PySem.W.Frag) {α : Type} [Enc α] (x : α) : Fact := isD K (Enc.enc x)
abbrev IsL (K : PySem.W.Frag) {α : Type} [Enc α] (xs : List α) : Fact := isL K (xs.map Enc.enc)
theorem le_L {K : PySem.W.Frag} {α : Type} [Enc α] (xs : List α) : Le (IsL K xs) (Is K (PL.mk xs)) := le_l

/-! ### growing -/
/-- Hf: what is fixed, H: all that is known -/
structure Grow (Hf H Hf' H' : Hp) : Prop where
  f : Sm Hf Hf'
  h : ∀ b o, H b = some o → (Hf b = none ∨ ∀ ps, o ≠ .tbl ps) → H' b = some o
  n : ∀ b, H' b = none → H b = none
  sub : Same Hf' H'
  out : ∀ a o, H a = some o → Hf a = none → Hf' a = none
theorem Grow.of {Hf H Hf' H' : Hp} (f : Sm Hf Hf') (h : Same H H') (sub : Same Hf' H') (out : ∀ a o, H a = some o → Hf a = none → Hf' a = none) : Grow Hf H Hf' H' := ⟨f, fun b o e _ => h b o e, fun _ e => h.free e, sub, out⟩
theorem Grow.refl {Hf H : Hp} (s : Same Hf H) : Grow Hf H Hf H := .of (Sm.refl _) (Same.refl _) s fun _ _ _ h => h
theorem Grow.trans {Hf H H1f H1 H2f H2 : Hp} (a : Grow Hf H H1f H1) (b : Grow H1f H1 H2f H2) : Grow Hf H H2f H2 :=
  ⟨a.f.trans b.f, fun c o e q => b.h c o (a.h c o e q) (q.imp (fun z => a.out c o e z) id), fun c e => a.n c (b.n c e), b.sub, fun c o h n => b.out c o (a.h c o h (.inl n)) (a.out c o h n)⟩
theorem same_new {H : Hp} {p : Addr} {o : HO} (h : H p = none) : Same H (upd H p o) := fun a u e => by
  rw [upd_ne (ne_of_none e h)]
  exact e
theorem sm_new {H : Hp} {p : Addr} {o : HO} (h : H p = none) : Sm H (upd H p o) := Sm.of (same_new h)
theorem none_back {H H' : Hp} {p : Addr} (e : Same H H') (h : H' p = none) : H p = none := e.free h
theorem none_bkS {H H' : Hp} {p : Addr} (e : Sm H H') (h : H' p = none) : H p = none := e.n p h
/-- a new object, fixed -/
theorem Grow.new {Hf H : Hp} {p : Addr} {o : HO} (s : Same Hf H) (h : H p = none) : Grow Hf H (upd Hf p o) (upd H p o) := by
  have hf := none_back s h
  refine .of (sm_new hf) (same_new h) (fun a u e => ?_) (fun a u e n => ?_)
  · by_cases q : a = p
    · subst q
      rw [upd_same] at e ⊢
      exact e
    · rw [upd_ne q] at e ⊢
      exact s a u e
  · rw [upd_ne (ne_of_none e h)]
    exact n
/-- a new object, not fixed -/
theorem Grow.newO {Hf H : Hp} {p : Addr} {o : HO} (s : Same Hf H) (h : H p = none) : Grow Hf H Hf (upd H p o) :=
  .of (Sm.refl _) (same_new h) (s.trans (same_new h)) fun _ _ _ n => n

/-- .. changed there later -/
theorem Grow.updO {Hf H Hf' H' : Hp} {p : Addr} {o : HO} (g : Grow Hf H Hf' H') (h : H p = none) (hf : Hf' p = none) : Grow Hf H Hf' (upd H' p o) :=
  ⟨g.f, fun a u e q => by rw [upd_ne (ne_of_none e h)]; exact g.h a u e q, fun a e => g.n a (by
    by_cases w : a = p
    · subst w
      rw [upd_same] at e
      cases e
    · rwa [upd_ne w] at e), fun a u e => by rw [upd_ne (ne_of_none e hf)]; exact g.sub a u e, g.out⟩
theorem Grow.hl {Hf H Hf' H' : Hp} (g : Grow Hf H Hf' H') {p : Addr} {xs : List V} (h : H p = some (.lst xs)) : H' p = some (.lst xs) := g.h p _ h (.inr nT_lst)
theorem Grow.fx {Hf H Hf' H' : Hp} (g : Grow Hf H Hf' H') {p : Addr} {o : HO} (h : Hf p = some o) (n : ∀ ps, o ≠ .tbl ps) : H' p = some o := g.sub p o (g.f.k p o h n)
/-- .. fixed now -/
theorem Grow.fix {Hf H Hf' H' : Hp} {p : Addr} {o : HO} (g : Grow Hf H Hf' H') (n : H p = none) (hf : Hf' p = none) (hp : H' p = some o) : Grow Hf H (upd Hf' p o) H' :=
  ⟨g.f.trans (sm_new hf), g.h, g.n, fun a u z => by
    by_cases q : a = p
    · subst q
      rw [upd_same] at z
      cases z
      exact hp
    · rw [upd_ne q] at z
      exact g.sub a u z, fun a u z nz => by
    rw [upd_ne (ne_of_none z n)]
    exact g.out a u z nz⟩

/-! ### environments -/
inductive Slot where
  | no
  | fact (A : Fact)
  /-- a list of the frame's own, its items' data -/
  | own (ds : List PyData)
abbrev Rho := List Slot
structure EnvD (K : PySem.W.Frag) (ρ : Rho) (σ : L2.St) (Ot Hf H : Hp) : Prop where
  len : ρ.length = σ.length
  hf : Same Hf H
  ot : Same Ot H
  dj : ∀ a o, Ot a = some o → Hf a = none
  at_ : ∀ (i : Nat) (A : Fact), ρ[i]? = some (Slot.fact A) → ∃ v : V, σ[i]? = some (some v) ∧ A.ok v Hf
  own : ∀ (i : Nat) (ds : List PyData), ρ[i]? = some (Slot.own ds) → ∃ (p : Addr) (vs : List V), σ[i]? = some (some (V.ref p)) ∧ H p = some (.lst vs) ∧ DpAll K Hf vs ds ∧ Hf p = none ∧ Ot p = none
  sep : ∀ (i j : Nat) (ds es : List PyData) (p : Addr), ρ[i]? = some (Slot.own ds) → ρ[j]? = some (Slot.own es) → σ[i]? = some (some (V.ref p)) → σ[j]? = some (some (V.ref p)) → i = j
section
variable {K : PySem.W.Frag} {ρ : Rho} {σ : L2.St} {Ot Hf H Hf' H' : Hp}
theorem EnvD.grow (e : EnvD K ρ σ Ot Hf H) (g : Grow Hf H Hf' H') : EnvD K ρ σ Ot Hf' H' where
  len := e.len
  hf := g.sub
  ot := fun a o h => g.h a o (e.ot a o h) (.inl (e.dj a o h))
  dj := fun a o h => g.out a o (e.ot a o h) (e.dj a o h)
  at_ := fun i A h => let ⟨v, h1, h2⟩ := e.at_ i A h; ⟨v, h1, A.mono g.f h2⟩
  own := fun i ds h => let ⟨p, vs, h1, h2, h3, h4, h5⟩ := e.own i ds h; ⟨p, vs, h1, g.hl h2, dpAll_mono g.f _ _ h3, g.out p _ h2 h4, h5⟩
  sep := e.sep
theorem EnvD.setF {i : Nat} {v : V} {A : Fact} (e : EnvD K ρ σ Ot Hf H) (h : A.ok v Hf) : EnvD K (ρ.set i (.fact A)) (σ.set i (some v)) Ot Hf H where
  len := by rw [List.length_set, List.length_set]; exact e.len
  hf := e.hf
  ot := e.ot
  dj := e.dj
  at_ := fun j B hj => by
    by_cases q : i = j
    · subst q
      rw [List.getElem?_set] at hj
      split at hj
      · split at hj
        · rename_i hl
          cases hj
          refine ⟨v, ?_, h⟩
          rw [List.getElem?_set_self (by rw [← e.len]; exact hl)]
        · cases hj
      · rename_i hne
        exact absurd rfl hne
    · rw [List.getElem?_set_ne q] at hj
      obtain ⟨u, h1, h2⟩ := e.at_ j B hj
      exact ⟨u, by rw [List.getElem?_set_ne q]; exact h1, h2⟩
  own := fun j ds hj => by
    by_cases q : i = j
    · subst q
      rw [List.getElem?_set] at hj
      split at hj
      · split at hj <;> cases hj
      · rename_i hne
        exact absurd rfl hne
    · rw [List.getElem?_set_ne q] at hj
      obtain ⟨p, vs, h1, h2⟩ := e.own j ds hj
      exact ⟨p, vs, by rw [List.getElem?_set_ne q]; exact h1, h2⟩
  sep := fun j k ds es p hj hk h1 h2 => by
    have nj : i ≠ j := fun q => by
      subst q
      rw [List.getElem?_set] at hj
      split at hj
      · split at hj <;> cases hj
      · rename_i hne
        exact hne rfl
    have nk : i ≠ k := fun q => by
      subst q
      rw [List.getElem?_set] at hk
      split at hk
      · split at hk <;> cases hk
      · rename_i hne
        exact hne rfl
    rw [List.getElem?_set_ne nj] at hj h1
    rw [List.getElem?_set_ne nk] at hk h2
    exact e.sep j k ds es p hj hk h1 h2
theorem set_get {α : Type} {l : List α} {i j : Nat} {x y : α} (h : (l.set i x)[j]? = some y) : (i = j ∧ i < l.length ∧ x = y) ∨ (i ≠ j ∧ l[j]? = some y) := by
  by_cases q : i = j
  · subst q
    by_cases hl : i < l.length
    · rw [List.getElem?_set_self hl] at h
      exact .inl ⟨rfl, hl, Option.some.inj h⟩
    · rw [List.getElem?_eq_none (by rw [List.length_set]; omega)] at h
      cases h
  · rw [List.getElem?_set_ne q] at h
    exact .inr ⟨q, h⟩
/-- a slot forgotten -/
theorem EnvD.setN {i : Nat} {v : Option V} (e : EnvD K ρ σ Ot Hf H) : EnvD K (ρ.set i .no) (σ.set i v) Ot Hf H where
  len := by rw [List.length_set, List.length_set]; exact e.len
  hf := e.hf
  ot := e.ot
  dj := e.dj
  at_ := fun j B hj => by
    rcases set_get hj with ⟨_, _, z⟩ | ⟨q, hj⟩
    · cases z
    · obtain ⟨u, h1, h2⟩ := e.at_ j B hj
      exact ⟨u, by rw [List.getElem?_set_ne q]; exact h1, h2⟩
  own := fun j ds hj => by
    rcases set_get hj with ⟨_, _, z⟩ | ⟨q, hj⟩
    · cases z
    · obtain ⟨p, vs, h1, h2⟩ := e.own j ds hj
      exact ⟨p, vs, by rw [List.getElem?_set_ne q]; exact h1, h2⟩
  sep := fun j k ds es p hj hk h1 h2 => by
    rcases set_get hj with ⟨_, _, z⟩ | ⟨nj, hj⟩
    · cases z
    rcases set_get hk with ⟨_, _, z⟩ | ⟨nk, hk⟩
    · cases z
    rw [List.getElem?_set_ne nj] at h1
    rw [List.getElem?_set_ne nk] at h2
    exact e.sep j k ds es p hj hk h1 h2
/-- a new list of the frame's own -/
theorem EnvD.setO {i : Nat} {p : Addr} {vs : List V} {ds : List PyData} (e : EnvD K ρ σ Ot Hf H) (h1 : H p = some (.lst vs)) (h2 : DpAll K Hf vs ds) (h3 : Hf p = none) (h4 : Ot p = none)
    (h5 : ∀ (j : Nat) (es : List PyData), ρ[j]? = some (Slot.own es) → σ[j]? ≠ some (some (V.ref p))) : EnvD K (ρ.set i (.own ds)) (σ.set i (some (.ref p))) Ot Hf H where
  len := by rw [List.length_set, List.length_set]; exact e.len
  hf := e.hf
  ot := e.ot
  dj := e.dj
  at_ := fun j B hj => by
    rcases set_get hj with ⟨_, _, z⟩ | ⟨q, hj⟩
    · cases z
    · obtain ⟨u, g1, g2⟩ := e.at_ j B hj
      exact ⟨u, by rw [List.getElem?_set_ne q]; exact g1, g2⟩
  own := fun j es hj => by
    rcases set_get hj with ⟨q, hl, z⟩ | ⟨q, hj⟩
    · cases z
      subst q
      exact ⟨p, vs, by rw [List.getElem?_set_self (by rw [← e.len]; exact hl)], h1, h2, h3, h4⟩
    · obtain ⟨p', vs', g1, g2⟩ := e.own j es hj
      exact ⟨p', vs', by rw [List.getElem?_set_ne q]; exact g1, g2⟩
  sep := fun j k es fs q hj hk g1 g2 => by
    rcases set_get hj with ⟨nj, _, _⟩ | ⟨nj, hj⟩
    · rcases set_get hk with ⟨nk, _, _⟩ | ⟨nk, hk⟩
      · exact nj.symm.trans nk
      · exfalso
        rw [List.getElem?_set_ne nk] at g2
        subst nj
        have hl : i < σ.length := by
          rcases Nat.lt_or_ge i σ.length with z | z
          · exact z
          · rw [List.getElem?_eq_none (by rw [List.length_set]; exact z)] at g1
            cases g1
        rw [List.getElem?_set_self hl] at g1
        cases g1
        exact h5 k fs hk g2
    · rcases set_get hk with ⟨nk, _, _⟩ | ⟨nk, hk⟩
      · exfalso
        rw [List.getElem?_set_ne nj] at g1
        subst nk
        have hl : i < σ.length := by
          rcases Nat.lt_or_ge i σ.length with z | z
          · exact z
          · rw [List.getElem?_eq_none (by rw [List.length_set]; exact z)] at g2
            cases g2
        rw [List.getElem?_set_self hl] at g2
        cases g2
        exact h5 j es hj g1
      · rw [List.getElem?_set_ne nj] at g1
        rw [List.getElem?_set_ne nk] at g2
        exact e.sep j k es fs q hj hk g1 g2
theorem list_self {α : Type} {l : List α} {i : Nat} {x : α} (h : l[i]? = some x) : l.set i x = l := by
  apply List.ext_getElem?
  intro j
  by_cases q : i = j
  · subst q
    rw [List.getElem?_set_self (List.getElem?_eq_some_iff.mp h).1, h]
  · rw [List.getElem?_set_ne q]
/-- the own list of slot i is changed -/
theorem EnvD.chg {i : Nat} {p : Addr} {us : List V} {ds es : List PyData} (e : EnvD K ρ σ Ot Hf H) (hi : ρ[i]? = some (Slot.own ds)) (hs : σ[i]? = some (some (V.ref p))) (h2 : DpAll K Hf us es) :
    EnvD K (ρ.set i (.own es)) σ Ot Hf (upd H p (.lst us)) := by
  obtain ⟨p', vs', g1, g2, g3, g4, g5⟩ := e.own i ds hi
  rw [hs] at g1
  cases g1
  refine ⟨by rw [List.length_set]; exact e.len, fun a o h => ?_, fun a o h => ?_, e.dj, fun j B hj => ?_, fun j fs hj => ?_, fun j k es' fs q hj hk q1 q2 => ?_⟩
  · rw [upd_ne (ne_of_none h g4)]
    exact e.hf a o h
  · rw [upd_ne (ne_of_none h g5)]
    exact e.ot a o h
  · rcases set_get hj with ⟨_, _, z⟩ | ⟨q, hj⟩
    · cases z
    · exact e.at_ j B hj
  · rcases set_get hj with ⟨q, hl, z⟩ | ⟨q, hj⟩
    · cases z
      subst q
      exact ⟨p, us, hs, upd_same, h2, g4, g5⟩
    · obtain ⟨p', vs', k1, k2, k3, k4, k5⟩ := e.own j fs hj
      refine ⟨p', vs', k1, ?_, k3, k4, k5⟩
      rw [upd_ne (fun z => ?_)]
      · exact k2
      · subst z
        exact q (e.sep i j ds fs p' hi hj hs k1)
  · have oj : ∃ xs, ρ[j]? = some (Slot.own xs) := by
      rcases set_get hj with ⟨z, _, _⟩ | ⟨z, hj⟩
      · subst z; exact ⟨ds, hi⟩
      · exact ⟨_, hj⟩
    have ok : ∃ xs, ρ[k]? = some (Slot.own xs) := by
      rcases set_get hk with ⟨z, _, _⟩ | ⟨z, hk⟩
      · subst z; exact ⟨ds, hi⟩
      · exact ⟨_, hk⟩
    obtain ⟨xs, oj⟩ := oj
    obtain ⟨ys, ok⟩ := ok
    exact e.sep j k xs ys q oj ok q1 q2
/-- the own list of slot i is fixed -/
theorem EnvD.freeze {i : Nat} {ds : List PyData} (e : EnvD K ρ σ Ot Hf H) (hi : ρ[i]? = some (Slot.own ds)) : ∃ Hf', Sm Hf Hf' ∧ EnvD K (ρ.set i (.fact (isL K ds))) σ Ot Hf' H := by
  obtain ⟨p, vs, g1, g2, g3, g4, g5⟩ := e.own i ds hi
  have sm : Sm Hf (upd Hf p (.lst vs)) := sm_new g4
  refine ⟨upd Hf p (.lst vs), sm, ⟨by rw [List.length_set]; exact e.len, fun a o h => ?_, e.ot, fun a o h => ?_, fun j B hj => ?_, fun j fs hj => ?_, fun j k es' fs q hj hk q1 q2 => ?_⟩⟩
  · by_cases q : a = p
    · subst q
      rw [upd_same] at h
      cases h
      exact g2
    · rw [upd_ne q] at h
      exact e.hf a o h
  · rw [upd_ne (ne_of_none h g5)]
    exact e.dj a o h
  · rcases set_get hj with ⟨q, _, z⟩ | ⟨q, hj⟩
    · cases z
      subst q
      exact ⟨_, g1, p, vs, rfl, upd_same, dpAll_mono sm _ _ g3⟩
    · obtain ⟨u, k1, k2⟩ := e.at_ j B hj
      exact ⟨u, k1, B.mono sm k2⟩
  · rcases set_get hj with ⟨_, _, z⟩ | ⟨q, hj⟩
    · cases z
    · obtain ⟨p', vs', k1, k2, k3, k4, k5⟩ := e.own j fs hj
      refine ⟨p', vs', k1, k2, dpAll_mono sm _ _ k3, ?_, k5⟩
      rw [upd_ne (fun z => ?_)]
      · exact k4
      · subst z
        exact q (e.sep i j ds fs p' hi hj g1 k1)
  · rcases set_get hj with ⟨_, _, z⟩ | ⟨_, hj⟩
    · cases z
    rcases set_get hk with ⟨_, _, z⟩ | ⟨_, hk⟩
    · cases z
    exact e.sep j k es' fs q hj hk q1 q2
end
end DL
/-! DLb: what readings give, by facts: W (expressions), WT (tests), WA (arguments), R, C (operations and calls by facts), G (targets), SS (statements). -/
namespace DL
open PySem PySem.Spec PyProof.Rows L2

section
variable (K : PySem.W.Frag)
/-- te, over slots of which ρ tells, gives a value with a fact in 𝒜 -/
def W (te : TE) (ρ : Rho) (𝒜 : Fact → Prop) : Prop := ∀ (σ : L2.St) (Ot Hf H : Hp) (Q : VK), EnvD K ρ σ Ot Hf H →
  (∀ (v : V) (Hf' H' : Hp) (A : Fact), Grow Hf H Hf' H' → A.ok v Hf' → 𝒜 A → Q v H') → te σ H Q
def WT (tt : TT) (ρ : Rho) (ℬ : Bool → Prop) : Prop := ∀ (σ : L2.St) (Ot Hf H : Hp) (Q : Bool → Hp → Prop), EnvD K ρ σ Ot Hf H →
  (∀ (b : Bool) (Hf' H' : Hp), Grow Hf H Hf' H' → ℬ b → Q b H') → tt σ H Q
/-- facts of values, one by one -/
def AllOk : List Fact → List V → Hp → Prop
  | [], [], _ => True
  | A :: As, v :: vs, H => A.ok v H ∧ AllOk As vs H
  | _, _, _ => False
def WA (ta : TA) (ρ : Rho) (𝒜 : List Fact → Prop) : Prop := ∀ (σ : L2.St) (Ot Hf H : Hp) (Q : List V → Hp → Prop), EnvD K ρ σ Ot Hf H →
  (∀ (vs : List V) (Hf' H' : Hp) (As : List Fact), Grow Hf H Hf' H' → AllOk As vs Hf' → 𝒜 As → Q vs H') → ta σ H Q
def WO (to : TO) (ρ : Rho) (𝒪 : Option Int → Prop) : Prop := ∀ (σ : L2.St) (Ot Hf H : Hp) (Q : Option Int → Hp → Prop), EnvD K ρ σ Ot Hf H →
  (∀ (o : Option Int) (Hf' H' : Hp), Grow Hf H Hf' H' → 𝒪 o → Q o H') → to σ H Q
/-- a new list, not fixed, its items' data in 𝒟 -/
def WN (te : TE) (ρ : Rho) (𝒟 : List PyData → Prop) : Prop := ∀ (σ : L2.St) (Ot Hf H : Hp) (Q : VK), EnvD K ρ σ Ot Hf H →
  (∀ (p : Addr) (vs : List V) (ds : List PyData) (Hf' H' : Hp), Grow Hf H Hf' H' → H p = none → Hf' p = none → H' p = some (.lst vs) → DpAll K Hf' vs ds → 𝒟 ds → Q (.ref p) H') → te σ H Q
end
/-- operations by values -/
def R (r : R2) (A B : Fact) (𝒜 : Fact → Prop) : Prop := ∀ (x y : V) (Hf H : Hp) (Q : VK), Same Hf H → A.ok x Hf → B.ok y Hf →
  (∀ (v : V) (Hf' H' : Hp) (C : Fact), Grow Hf H Hf' H' → C.ok v Hf' → 𝒜 C → Q v H') → r x y H Q
def U (r : V → Hp → VK → Prop) (A : Fact) (𝒜 : Fact → Prop) : Prop := ∀ (x : V) (Hf H : Hp) (Q : VK), Same Hf H → A.ok x Hf →
  (∀ (v : V) (Hf' H' : Hp) (C : Fact), Grow Hf H Hf' H' → C.ok v Hf' → 𝒜 C → Q v H') → r x H Q
def C (r : List V → Hp → VK → Prop) (As : List Fact) (𝒜 : Fact → Prop) : Prop := ∀ (vs : List V) (Hf H : Hp) (Q : VK), Same Hf H → AllOk As vs Hf →
  (∀ (v : V) (Hf' H' : Hp) (B : Fact), Grow Hf H Hf' H' → B.ok v Hf' → 𝒜 B → Q v H') → r vs H Q
/-- .. that gives a new list -/
def RN (K : PySem.W.Frag) (r : R2) (A B : Fact) (𝒟 : List PyData → Prop) : Prop := ∀ (x y : V) (Hf H : Hp) (Q : VK), Same Hf H → A.ok x Hf → B.ok y Hf →
  (∀ (p : Addr) (vs : List V) (ds : List PyData) (Hf' H' : Hp), Grow Hf H Hf' H' → H p = none → Hf' p = none → H' p = some (.lst vs) → DpAll K Hf' vs ds → 𝒟 ds → Q (.ref p) H') → r x y H Q
def CN (K : PySem.W.Frag) (r : List V → Hp → VK → Prop) (As : List Fact) (𝒟 : List PyData → Prop) : Prop := ∀ (us : List V) (Hf H : Hp) (Q : VK), Same Hf H → AllOk As us Hf →
  (∀ (p : Addr) (vs : List V) (ds : List PyData) (Hf' H' : Hp), Grow Hf H Hf' H' → H p = none → Hf' p = none → H' p = some (.lst vs) → DpAll K Hf' vs ds → 𝒟 ds → Q (.ref p) H') → r us H Q

section
variable {K : PySem.W.Frag} {ρ : Rho} {𝒜 ℬ : Fact → Prop} {ta tb tc te : TE}
theorem AllOk.mono {H H' : Hp} (e : Sm H H') : ∀ {As : List Fact} {vs : List V}, AllOk As vs H → AllOk As vs H'
  | [], [], _ => trivial
  | A :: As, v :: vs, h => ⟨A.mono e h.1, AllOk.mono e h.2⟩
  | [], _ :: _, h => h.elim
  | _ :: _, [], h => h.elim
theorem W.imp (h : W K te ρ 𝒜) (f : ∀ A, 𝒜 A → ℬ A) : W K te ρ ℬ := fun σ Ot Hf H Q e q => h σ Ot Hf H Q e fun v Hf' H' A g a b => q v Hf' H' A g a (f A b)
theorem W.impLe (h : W K te ρ 𝒜) (f : ∀ A, 𝒜 A → ∃ B, Le A B ∧ ℬ B) : W K te ρ ℬ := fun σ Ot Hf H Q e q => h σ Ot Hf H Q e fun v Hf' H' A g a b =>
  let ⟨B, l, z⟩ := f A b
  q v Hf' H' B g (l _ _ a) z
theorem R.of {r : R2} {A B : Fact} (f : ∀ (x y : V) (Hf H : Hp) (Q : VK), Same Hf H → A.ok x Hf → B.ok y Hf → (∀ (v : V) (Hf' H' : Hp) (C : Fact), Grow Hf H Hf' H' → C.ok v Hf' → 𝒜 C → Q v H') → r x y H Q) : R r A B 𝒜 := f

/-! ### names, constants -/
theorem w_var {i : Nat} {A : Fact} (h : ρ[i]? = some (Slot.fact A)) (k : 𝒜 A) : W K (tVar i) ρ 𝒜 := fun σ Ot Hf H Q e q => by
  obtain ⟨v, h1, h2⟩ := e.at_ i A h
  exact ⟨v, h1, q v Hf H A (Grow.refl e.hf) h2 k⟩
theorem w_int {i : Int} (k : 𝒜 (Is K i)) : W K (tC (.int i)) ρ 𝒜 := fun σ Ot Hf H Q e q => q _ Hf H _ (Grow.refl e.hf) (Dp.int i) k
theorem w_nat {n : Nat} (k : 𝒜 (Is K n)) : W K (tC (.int (n : Int))) ρ 𝒜 := fun σ Ot Hf H Q e q => q _ Hf H _ (Grow.refl e.hf) (Dp.int _) k
theorem w_bl {b : Bool} (k : 𝒜 (Is K b)) : W K (tC (.bl b)) ρ 𝒜 := fun σ Ot Hf H Q e q => q _ Hf H _ (Grow.refl e.hf) (Dp.bl b) k
theorem w_str {x : Str} (k : 𝒜 (Is K x)) : W K (tC (.str x)) ρ 𝒜 := fun σ Ot Hf H Q e q => q _ Hf H _ (Grow.refl e.hf) (Dp.str x) k
theorem w_non (k : 𝒜 (Is K ())) : W K (tC .non) ρ 𝒜 := fun σ Ot Hf H Q e q => q _ Hf H _ (Grow.refl e.hf) Dp.non k
theorem w_val {v : V} (k : 𝒜 (isV v)) : W K (tC v) ρ 𝒜 := fun σ Ot Hf H Q e q => q _ Hf H (isV v) (Grow.refl e.hf) rfl k

/-! ### operators -/
theorem w_op {r : R2} (h : W K ta ρ fun A => W K tb ρ fun B => R r A B 𝒜) : W K (tOp r ta tb) ρ 𝒜 := fun σ Ot Hf H Q e q =>
  h σ Ot Hf H _ e fun x H1f H1 A g1 a hb => hb σ Ot H1f H1 _ (e.grow g1) fun y H2f H2 B g2 b hr =>
    hr x y H2f H2 Q g2.sub (A.mono g2.f a) b fun v H3f H3 D g3 d z => q v H3f H3 D (g1.trans (g2.trans g3)) d z
theorem w_un {r : V → Hp → VK → Prop} (h : W K ta ρ fun A => U r A 𝒜) : W K (tUn r ta) ρ 𝒜 := fun σ Ot Hf H Q e q =>
  h σ Ot Hf H _ e fun x H1f H1 A g1 a hr => hr x H1f H1 Q g1.sub a fun v H3f H3 D g3 d z => q v H3f H3 D (g1.trans g3) d z
/-- one of two readings -/
theorem r_l {r r' : R2} {A B : Fact} (h : R r A B 𝒜) : R (fun x y H Q => r x y H Q ∨ r' x y H Q) A B 𝒜 := fun x y Hf H Q s a b q => .inl (h x y Hf H Q s a b q)
theorem r_r {r r' : R2} {A B : Fact} (h : R r' A B 𝒜) : R (fun x y H Q => r x y H Q ∨ r' x y H Q) A B 𝒜 := fun x y Hf H Q s a b q => .inr (h x y Hf H Q s a b q)
theorem dp_int {H : Hp} {v : V} {i : Int} (h : Dp K H v (.int i)) : v = .int i := by cases h; rfl
theorem dp_bl {H : Hp} {v : V} {b : Bool} (h : Dp K H v (.bool b)) : v = .bl b := by cases h; rfl
theorem dp_str {H : Hp} {v : V} {x : Str} (h : Dp K H v (.str x)) : v = .str x := by cases h; rfl
theorem dp_non {H : Hp} {v : V} (h : Dp K H v .none) : v = .non := by cases h; rfl
theorem dp_tup {H : Hp} {v : V} {ds : List PyData} (h : Dp K H v (.tuple ds)) : ∃ a xs, v = .ref a ∧ SqT K H a xs ∧ DpAll K H xs ds := by cases h with | tup h1 h2 => exact ⟨_, _, rfl, h1, h2⟩
theorem dp_lst {H : Hp} {v : V} {ds : List PyData} (h : Dp K H v (.list ds)) : ∃ a xs, v = .ref a ∧ SqL K H a xs ∧ DpAll K H xs ds := by cases h with | lst h1 h2 => exact ⟨_, _, rfl, h1, h2⟩
/-- two ints to a value -/
theorem r_ii {g : Int → Int → V} {i j : Int} {D : Fact} (hd : ∀ H, D.ok (g i j) H) (k : 𝒜 D) : R (rI0 g) (isD K (.int i)) (isD K (.int j)) 𝒜 := fun x y Hf H Q s a b q => by
  obtain rfl := dp_int a
  obtain rfl := dp_int b
  exact ⟨i, j, rfl, rfl, q _ Hf H D (Grow.refl s) (hd _) k⟩
theorem r_iic {c : Int → Int → Prop} {g : Int → Int → V} {i j : Int} {D : Fact} (hc : c i j) (hd : ∀ H, D.ok (g i j) H) (k : 𝒜 D) : R (rI c g) (isD K (.int i)) (isD K (.int j)) 𝒜 := fun x y Hf H Q s a b q => by
  obtain rfl := dp_int a
  obtain rfl := dp_int b
  exact ⟨i, j, rfl, rfl, hc, q _ Hf H D (Grow.refl s) (hd _) k⟩
theorem ok_int {i : Int} (H : Hp) : (Is K i).ok (.int i) H := Dp.int i
theorem ok_bl {b : Bool} (H : Hp) : (Is K b).ok (.bl b) H := Dp.bl b
/-- ints to an int, to a truth value -/
theorem r_int {g : Int → Int → Int} {i j : Int} (k : 𝒜 (Is K (g i j))) : R (rI0 fun i j => .int (g i j)) (isD K (.int i)) (isD K (.int j)) 𝒜 := r_ii (g := fun i j => .int (g i j)) (D := Is K (g i j)) (fun _ => Dp.int _) k
theorem r_intc {c : Int → Int → Prop} {g : Int → Int → Int} {i j : Int} (hc : c i j) (k : 𝒜 (Is K (g i j))) : R (rI c fun i j => .int (g i j)) (isD K (.int i)) (isD K (.int j)) 𝒜 := r_iic (g := fun i j => .int (g i j)) (D := Is K (g i j)) hc (fun _ => Dp.int _) k
theorem r_cmp {g : Int → Int → Bool} {i j : Int} (k : 𝒜 (Is K (g i j))) : R (rI0 fun i j => .bl (g i j)) (isD K (.int i)) (isD K (.int j)) 𝒜 := r_ii (g := fun i j => .bl (g i j)) (D := Is K (g i j)) (fun _ => Dp.bl _) k
theorem u_int {g : Int → Int} {i : Int} (k : 𝒜 (Is K (g i))) : U (rU fun i => .int (g i)) (isD K (.int i)) 𝒜 := fun x Hf H Q s a q => by
  obtain rfl := dp_int a
  exact ⟨i, rfl, q _ Hf H (Is K (g i)) (Grow.refl s) (Dp.int _) k⟩
/-- == and != of data -/
theorem r_eqD {d e : PyData} (hd : SeqAt.shaped d = true) (he : SeqAt.shaped e = true) (k : 𝒜 (Is K (PyData.eqv d e))) : R (rEqD K) (isD K d) (isD K e) 𝒜 := fun x y Hf H Q s a b q =>
  ⟨d, e, dp_mono s _ _ a, dp_mono s _ _ b, hd, he, q _ Hf H _ (Grow.refl s) (Dp.bl _) k⟩
theorem r_neD {d e : PyData} (hd : SeqAt.shaped d = true) (he : SeqAt.shaped e = true) (k : 𝒜 (Is K (!PyData.eqv d e))) : R (rNeD K) (isD K d) (isD K e) 𝒜 := fun x y Hf H Q s a b q =>
  ⟨d, e, dp_mono s _ _ a, dp_mono s _ _ b, hd, he, q _ Hf H _ (Grow.refl s) (Dp.bl _) k⟩
theorem R.le {r : R2} {A B A' B' : Fact} (la : Le A A') (lb : Le B B') (h : R r A' B' 𝒜) : R r A B 𝒜 := fun x y Hf H Q s a b q => h x y Hf H Q s (la _ _ a) (lb _ _ b) q

/-! ### arguments, displays -/
theorem wa_nil {𝒜 : List Fact → Prop} (k : 𝒜 []) : WA K tNil ρ 𝒜 := fun σ Ot Hf H Q e q => q [] Hf H [] (Grow.refl e.hf) trivial k
theorem wa_cons {𝒜 : List Fact → Prop} {tr : TA} (h : W K ta ρ fun A => WA K tr ρ fun As => 𝒜 (A :: As)) : WA K (tCons ta tr) ρ 𝒜 := fun σ Ot Hf H Q e q =>
  h σ Ot Hf H _ e fun x H1f H1 A g1 a hr => hr σ Ot H1f H1 _ (e.grow g1) fun xs H2f H2 As g2 as z => q (x :: xs) H2f H2 (A :: As) (g1.trans g2) ⟨A.mono g2.f a, as⟩ z
/-- the data of facts -/
def DataOf (K : PySem.W.Frag) : List Fact → List PyData → Prop
  | [], [] => True
  | A :: As, d :: ds => Le A (isD K d) ∧ DataOf K As ds
  | _, _ => False
theorem dataOf_ok {H : Hp} : ∀ {As : List Fact} {ds : List PyData} {vs : List V}, DataOf K As ds → AllOk As vs H → DpAll K H vs ds
  | [], [], [], _, _ => .nil
  | A :: As, d :: ds, v :: vs, h, g => .cons (h.1 _ _ g.1) (dataOf_ok h.2 g.2)
  | [], [], _ :: _, _, g => g.elim
  | [], _ :: _, _, h, _ => h.elim
  | _ :: _, [], _, h, _ => h.elim
  | _ :: _, _ :: _, [], _, g => g.elim
/-- (a, b, ..) -/
theorem w_tup {tr : TA} (h : WA K tr ρ fun As => ∃ ds, DataOf K As ds ∧ ds.length ≤ 1000 ∧ 𝒜 (isD K (.tuple ds))) : W K (tTup tr) ρ 𝒜 := fun σ Ot Hf H Q e q =>
  h σ Ot Hf H _ e fun vs H1f H1 As g1 as ⟨ds, hd, hl, k⟩ => by
    have hda := dataOf_ok hd as
    refine ⟨?_, fun p hp => ?_⟩
    · rw [dpAll_len hda]
      exact Nat.le_of_lt (small1000 hl)
    · have g2 := Grow.new (o := .tup vs) g1.sub hp
      exact q _ _ _ _ (g1.trans g2) (Dp.tup (.inl (.inl upd_same)) (dpAll_mono g2.f _ _ hda)) k
/-- [a, b, ..] -/
theorem wn_lst {tr : TA} {𝒟 : List PyData → Prop} (h : WA K tr ρ fun As => ∃ ds, DataOf K As ds ∧ ds.length ≤ 1000 ∧ 𝒟 ds) : WN K (tLst tr) ρ 𝒟 := fun σ Ot Hf H Q e q =>
  h σ Ot Hf H _ e fun vs H1f H1 As g1 as ⟨ds, hd, hl, k⟩ => by
    have hda := dataOf_ok hd as
    refine ⟨?_, fun p hp => ?_⟩
    · rw [dpAll_len hda]
      exact Nat.le_of_lt (small1000 hl)
    · have g2 := Grow.newO (o := .lst vs) g1.sub hp
      exact q p vs ds _ _ (g1.trans g2) (g1.n _ hp) (none_back g1.sub hp) upd_same hda k
/-- a new list, fixed at once -/
theorem w_new (h : WN K te ρ fun ds => 𝒜 (isL K ds)) : W K te ρ 𝒜 := fun σ Ot Hf H Q e q =>
  h σ Ot Hf H _ e fun p vs ds H1f H1 g n nf hp hd k => by
    have sm : Sm H1f (upd H1f p (.lst vs)) := sm_new nf
    exact q (.ref p) (upd H1f p (.lst vs)) H1 (isL K ds) (g.fix n nf hp) ⟨p, vs, rfl, upd_same, dpAll_mono sm _ _ hd⟩ k
theorem wn_op {r : R2} {𝒟 : List PyData → Prop} (h : W K ta ρ fun A => W K tb ρ fun B => RN K r A B 𝒟) : WN K (tOp r ta tb) ρ 𝒟 := fun σ Ot Hf H Q e q =>
  h σ Ot Hf H _ e fun x H1f H1 A g1 a hb => hb σ Ot H1f H1 _ (e.grow g1) fun y H2f H2 B g2 b hr =>
    hr x y H2f H2 Q g2.sub (A.mono g2.f a) b fun p vs ds H3f H3 g3 n nf hp hd z => q p vs ds H3f H3 (g1.trans (g2.trans g3)) ((g1.trans g2).n _ n) nf hp hd z
theorem wn_cb {r : List V → Hp → VK → Prop} {tr : TA} {𝒟 : List PyData → Prop} (h : WA K tr ρ fun As => CN K r As 𝒟) : WN K (tCB r tr) ρ 𝒟 := fun σ Ot Hf H Q e q =>
  h σ Ot Hf H _ e fun us H1f H1 As g1 as hc => hc us H1f H1 Q g1.sub as fun p vs ds H3f H3 g3 n nf hp hd z => q p vs ds H3f H3 (g1.trans g3) (g1.n _ n) nf hp hd z

/-! ### calls -/
theorem w_cb {r : List V → Hp → VK → Prop} {tr : TA} (h : WA K tr ρ fun As => C r As 𝒜) : W K (tCB r tr) ρ 𝒜 := fun σ Ot Hf H Q e q =>
  h σ Ot Hf H _ e fun vs H1f H1 As g1 as hc => hc vs H1f H1 Q g1.sub as fun v H2f H2 B g2 b z => q v H2f H2 B (g1.trans g2) b z
/-- a def's promise by facts: t stands for what is known of the arguments -/
def mkSp {τ : Type} (args : τ → List Fact) (pre : τ → Prop) (res : τ → Fact → Prop) : Sp := fun vs H Q _ => ∃ (t : τ) (Hf : Hp), Same Hf H ∧ AllOk (args t) vs Hf ∧ pre t ∧
  ∀ (v : V) (Hf' H' : Hp) (A : Fact), Grow Hf H Hf' H' → A.ok v Hf' → res t A → Q v H'
theorem w_call {sp : Sp} {E : XK} {tr : TA} (h : WA K tr ρ fun As => C (fun vs H Q => sp (vs ++ []) H Q E) As 𝒜) : W K (tCall sp [] E tr) ρ 𝒜 := w_cb (r := fun vs H Q => sp (vs ++ []) H Q E) h
theorem c_mk {τ : Type} {args : τ → List Fact} {pre : τ → Prop} {res : τ → Fact → Prop} {E : XK} (t : τ) (hp : pre t) (k : ∀ A, res t A → 𝒜 A) : C (fun vs H Q => mkSp args pre res (vs ++ []) H Q E) (args t) 𝒜 := fun vs Hf H Q s as q => by
  show mkSp args pre res (vs ++ []) H Q E
  rw [List.append_nil]
  exact ⟨t, Hf, s, as, hp, fun v Hf' H' A g a z => q v Hf' H' A g a (k A z)⟩
theorem C.le1 {r : List V → Hp → VK → Prop} {A A' : Fact} (l : Le A A') (h : C r [A'] 𝒜) : C r [A] 𝒜 := fun vs Hf H Q s as q => h vs Hf H Q s (match vs, as with | [_], as => ⟨l _ _ as.1, trivial⟩) q

/-! ### tests -/
theorem wt_test {𝒫 : Bool → Prop} (h : W K te ρ fun A => ∃ b, Le A (Is K b) ∧ 𝒫 b) : WT K (tTest te) ρ 𝒫 := fun σ Ot Hf H Q e q =>
  h σ Ot Hf H _ e fun v H1f H1 A g a ⟨b, l, k⟩ => ⟨b, dp_bl (l _ _ a), q b H1f H1 g k⟩
theorem wt_B {𝒫 : Bool → Prop} (h : W K te ρ fun A => ∃ b, Le A (Is K b) ∧ 𝒫 b) : WT K (tB te) ρ 𝒫 := fun σ Ot Hf H Q e q =>
  h σ Ot Hf H _ e fun v H1f H1 A g a ⟨b, l, k⟩ => ⟨b, dp_bl (l _ _ a), q b H1f H1 g k⟩
theorem wt_and {t u : TT} {𝒫 : Bool → Prop} (h : WT K t ρ fun b => (b = true → WT K u ρ 𝒫) ∧ (b = false → 𝒫 false)) : WT K (tAnd t u) ρ 𝒫 := fun σ Ot Hf H Q e q =>
  h σ Ot Hf H _ e fun b H1f H1 g ⟨h1, h2⟩ => by
    cases b with
    | true => exact h1 rfl σ Ot H1f H1 Q (e.grow g) fun c H2f H2 g2 z => q c H2f H2 (g.trans g2) z
    | false => exact q false H1f H1 g (h2 rfl)
theorem wt_or {t u : TT} {𝒫 : Bool → Prop} (h : WT K t ρ fun b => (b = true → 𝒫 true) ∧ (b = false → WT K u ρ 𝒫)) : WT K (tOr t u) ρ 𝒫 := fun σ Ot Hf H Q e q =>
  h σ Ot Hf H _ e fun b H1f H1 g ⟨h1, h2⟩ => by
    cases b with
    | true => exact q true H1f H1 g (h1 rfl)
    | false => exact h2 rfl σ Ot H1f H1 Q (e.grow g) fun c H2f H2 g2 z => q c H2f H2 (g.trans g2) z
theorem wt_not {t : TT} {𝒫 : Bool → Prop} (h : WT K t ρ fun b => 𝒫 (!b)) : WT K (tNot t) ρ 𝒫 := fun σ Ot Hf H Q e q => h σ Ot Hf H _ e fun b H1f H1 g z => q (!b) H1f H1 g z
theorem wt_yes {𝒫 : Bool → Prop} (k : 𝒫 true) : WT K tYes ρ 𝒫 := fun σ Ot Hf H Q e q => q true Hf H (Grow.refl e.hf) k
/-- and, or, not as values -/
theorem w_andV (h : W K ta ρ fun A => ∃ b, Le A (Is K b) ∧ (b = true → W K tb ρ 𝒜) ∧ (b = false → 𝒜 (Is K false))) : W K (tAndV ta tb) ρ 𝒜 := fun σ Ot Hf H Q e q =>
  h σ Ot Hf H _ e fun v H1f H1 A g a ⟨b, l, h1, h2⟩ => ⟨b, dp_bl (l _ _ a), by
    cases b with
    | true => exact h1 rfl σ Ot H1f H1 Q (e.grow g) fun c H2f H2 B g2 z y => q c H2f H2 B (g.trans g2) z y
    | false => exact q _ H1f H1 (Is K false) g (Dp.bl _) (h2 rfl)⟩
theorem w_orV (h : W K ta ρ fun A => ∃ b, Le A (Is K b) ∧ (b = true → 𝒜 (Is K true)) ∧ (b = false → W K tb ρ 𝒜)) : W K (tOrV ta tb) ρ 𝒜 := fun σ Ot Hf H Q e q =>
  h σ Ot Hf H _ e fun v H1f H1 A g a ⟨b, l, h1, h2⟩ => ⟨b, dp_bl (l _ _ a), by
    cases b with
    | true => exact q _ H1f H1 (Is K true) g (Dp.bl _) (h1 rfl)
    | false => exact h2 rfl σ Ot H1f H1 Q (e.grow g) fun c H2f H2 B g2 z y => q c H2f H2 B (g.trans g2) z y⟩
theorem w_notV (h : W K ta ρ fun A => ∃ b, Le A (Is K b) ∧ 𝒜 (Is K (!b))) : W K (tNotV ta) ρ 𝒜 := fun σ Ot Hf H Q e q =>
  h σ Ot Hf H _ e fun v H1f H1 A g a ⟨b, l, k⟩ => ⟨b, dp_bl (l _ _ a), q _ H1f H1 _ g (Dp.bl _) k⟩
theorem w_if {t : TT} (h : WT K t ρ fun b => (b = true → W K ta ρ 𝒜) ∧ (b = false → W K tb ρ 𝒜)) : W K (tIf t ta tb) ρ 𝒜 := fun σ Ot Hf H Q e q =>
  h σ Ot Hf H _ e fun b H1f H1 g ⟨h1, h2⟩ => by
    cases b with
    | true => exact h1 rfl σ Ot H1f H1 Q (e.grow g) fun c H2f H2 B g2 z y => q c H2f H2 B (g.trans g2) z y
    | false => exact h2 rfl σ Ot H1f H1 Q (e.grow g) fun c H2f H2 B g2 z y => q c H2f H2 B (g.trans g2) z y
/-- a < b < c -/
theorem w_chain {r r' : R2} (h : W K ta ρ fun A => W K tb ρ fun B => R r A B fun D => ∃ b, Le D (Is K b) ∧ (b = true → W K tc ρ fun F => R r' B F 𝒜) ∧ (b = false → 𝒜 (Is K false))) : W K (tChain r r' ta tb tc) ρ 𝒜 := fun σ Ot Hf H Q e q =>
  h σ Ot Hf H _ e fun x H1f H1 A g1 a hb => hb σ Ot H1f H1 _ (e.grow g1) fun y H2f H2 B g2 b hr =>
    hr x y H2f H2 _ g2.sub (A.mono g2.f a) b fun v H3f H3 D g3 d ⟨k, l, h1, h2⟩ => ⟨k, dp_bl (l _ _ d), by
      cases k with
      | true => exact h1 rfl σ Ot H3f H3 _ (e.grow (g1.trans (g2.trans g3))) fun z H4f H4 F g4 f hr' => hr' y z H4f H4 Q g4.sub (B.mono (g3.f.trans g4.f) b) f fun u H5f H5 G g5 gg zz => q u H5f H5 G (g1.trans (g2.trans (g3.trans (g4.trans g5)))) gg zz
      | false => exact q _ H3f H3 (Is K false) (g1.trans (g2.trans g3)) (Dp.bl _) (h2 rfl)⟩
end
end DL
/-! DLc: targets, statements, loops, comprehensions, by facts. -/
namespace DL
open PySem PySem.Spec PyProof.Rows L2

section
variable (K : PySem.W.Frag)
/-- a target takes a value with the fact A: the slots js are set -/
def G (g : TG) (ρ : Rho) (A : Fact) (js : List Nat) (k : Rho → Prop) : Prop := ∀ (σ : L2.St) (Ot Hf H : Hp) (v : V) (Q : L2.St → Hp → Prop), EnvD K ρ σ Ot Hf H → A.ok v Hf →
  (∀ (σ' : L2.St) (ρ' : Rho), EnvD K ρ' σ' Ot Hf H → (∀ vs : List Nat, (∀ j ∈ js, j ∈ vs) → wipe σ' vs = wipe σ vs) → k ρ' → Q σ' H) → g v σ H Q
def Gs (g : TGs) (ρ : Rho) (As : List Fact) (js : List Nat) (k : Rho → Prop) : Prop := ∀ (σ : L2.St) (Ot Hf H : Hp) (vs : List V) (Q : L2.St → Hp → Prop), EnvD K ρ σ Ot Hf H → AllOk As vs Hf →
  (∀ (σ' : L2.St) (ρ' : Rho), EnvD K ρ' σ' Ot Hf H → (∀ ws : List Nat, (∀ j ∈ js, j ∈ ws) → wipe σ' ws = wipe σ ws) → k ρ' → Q σ' H) → g vs σ H Q
structure Post where
  nx : Rho → Prop
  rt : Fact → Prop
  bk : Rho → Prop := fun _ => False
  ct : Rho → Prop := fun _ => False
def SS (t : TS) (ρ : Rho) (P : Post) : Prop := ∀ (D : Ends) (σ : L2.St) (Ot Hf H : Hp), EnvD K ρ σ Ot Hf H →
  (∀ (σ' : L2.St) (Hf' H' : Hp) (ρ' : Rho), Sm Hf Hf' → EnvD K ρ' σ' Ot Hf' H' → P.nx ρ' → D.nx σ' H') →
  (∀ (v : V) (Hf' H' : Hp) (A : Fact), Sm Hf Hf' → Same Hf' H' → Same Ot H' → (∀ a o, Ot a = some o → Hf' a = none) → A.ok v Hf' → P.rt A → D.rt v H') →
  (∀ (σ' : L2.St) (Hf' H' : Hp) (ρ' : Rho), Sm Hf Hf' → EnvD K ρ' σ' Ot Hf' H' → P.bk ρ' → D.bk σ' H') →
  (∀ (σ' : L2.St) (Hf' H' : Hp) (ρ' : Rho), Sm Hf Hf' → EnvD K ρ' σ' Ot Hf' H' → P.ct ρ' → D.ct σ' H') → t D σ H
end
/-! ### wiping -/
theorem wipe_set {σ : L2.St} {j : Nat} {x : Option V} : ∀ {vs : List Nat}, j ∈ vs → wipe (σ.set j x) vs = wipe σ vs
  | [], h => by cases h
  | v :: vs, h => by
    unfold wipe
    by_cases q : j ∈ vs
    · rw [wipe_set q]
    · have e : j = v := by
        rcases List.mem_cons.mp h with z | z
        · exact z
        · exact absurd z q
      subst e
      have sw : ∀ (ws : List Nat) (τ : L2.St), wipe (τ.set j x) ws = (wipe τ ws).set j x ∨ j ∈ ws := by
        intro ws
        induction ws with
        | nil => intro τ; exact .inl rfl
        | cons w ws ih =>
          intro τ
          by_cases hw : j = w
          · exact .inr (by rw [hw]; exact List.mem_cons_self)
          · rcases ih τ with z | z
            · refine .inl ?_
              unfold wipe
              rw [z, List.set_comm _ _ hw]
            · exact .inr (List.mem_cons_of_mem _ z)
      rcases sw vs σ with z | z
      · rw [z, List.set_set]
      · exact absurd z q
theorem wipe_comm {σ : L2.St} (v : Nat) : ∀ vs : List Nat, wipe (σ.set v none) vs = (wipe σ vs).set v none
  | [] => rfl
  | w :: vs => by
    unfold wipe
    rw [wipe_comm v vs]
    by_cases q : v = w
    · subst q; rfl
    · exact List.set_comm _ _ q
theorem wipe_wipe {σ : L2.St} (vs : List Nat) : ∀ ws : List Nat, (∀ j ∈ ws, j ∈ vs) → wipe (wipe σ ws) vs = wipe σ vs
  | [], _ => rfl
  | w :: ws, h => by
    show wipe ((wipe σ ws).set w none) vs = wipe σ vs
    rw [wipe_set (h w List.mem_cons_self), wipe_wipe vs ws fun j hj => h j (List.mem_cons_of_mem _ hj)]
/-- slots forgotten -/
def wipeR (ρ : Rho) : List Nat → Rho
  | [] => ρ
  | v :: vs => (wipeR ρ vs).set v .no
section
variable {K : PySem.W.Frag} {ρ : Rho} {σ : L2.St} {Ot Hf H Hf' H' : Hp} {te : TE} {g : TG} {t u : TS} {P : Post}
theorem EnvD.wipe (e : EnvD K ρ σ Ot Hf H) : ∀ vs : List Nat, EnvD K (wipeR ρ vs) (L2.wipe σ vs) Ot Hf H
  | [] => e
  | v :: vs => (EnvD.wipe e vs).setN

/-! ### targets -/
theorem g_name {i : Nat} {A : Fact} {k : Rho → Prop} (h : k (ρ.set i (.fact A))) : G K (gName i) ρ A [i] k := fun σ Ot Hf H v Q e a q =>
  q (σ.set i (some v)) _ (e.setF a) (fun vs hv => wipe_set (hv i (by simp))) h
theorem gs_nil {k : Rho → Prop} (h : k ρ) : Gs K gNil ρ [] [] k := fun σ Ot Hf H vs Q e a q => match vs, a with
  | [], _ => ⟨rfl, q σ ρ e (fun _ _ => rfl) h⟩
theorem gs_cons {g : TG} {gs : TGs} {A : Fact} {As : List Fact} {js ks : List Nat} {k : Rho → Prop} (h : G K g ρ A js fun ρ' => Gs K gs ρ' As ks k) : Gs K (gCons g gs) ρ (A :: As) (js ++ ks) k := fun σ Ot Hf H vs Q e a q => match vs, a with
  | v :: r, a => ⟨v, r, rfl, h σ Ot Hf H v _ e a.1 fun σ1 ρ1 e1 w1 hs => hs σ1 Ot Hf H r Q e1 a.2 fun σ2 ρ2 e2 w2 z =>
      q σ2 ρ2 e2 (fun ws hw => (w2 ws fun j hj => hw j (List.mem_append_right _ hj)).trans (w1 ws fun j hj => hw j (List.mem_append_left _ hj))) z⟩
theorem allOk_isD {H : Hp} : ∀ {ds : List PyData} {vs : List V}, DpAll K H vs ds → AllOk (ds.map (isD K)) vs H
  | [], _, h => by cases h; trivial
  | _ :: _, _, h => by cases h with | cons h1 h2 => exact ⟨h1, allOk_isD h2⟩
theorem g_tup {gs : TGs} {ds : List PyData} {n : Nat} {js : List Nat} {k : Rho → Prop} (hn : ds.length = n) (h : Gs K gs ρ (ds.map (isD K)) js k) : G K (gTup K n gs) ρ (isD K (.tuple ds)) js k := fun σ Ot Hf H v Q e a q => by
  obtain ⟨p, xs, rfl, h1, h2⟩ := dp_tup a
  exact ⟨p, xs, rfl, same_t e.hf h1, (dpAll_len h2).trans hn, h σ Ot Hf H xs Q e (allOk_isD h2) q⟩
theorem G.le {A B : Fact} {js : List Nat} {k : Rho → Prop} (l : Le A B) (h : G K g ρ B js k) : G K g ρ A js k := fun σ Ot Hf H v Q e a q => h σ Ot Hf H v Q e (l _ _ a) q

/-! ### statements -/
theorem SS.nx {Q : Rho → Prop} (h : SS K t ρ P) (f : ∀ ρ', P.nx ρ' → Q ρ') : SS K t ρ { P with nx := Q } := fun D σ Ot Hf H e a b c d => h D σ Ot Hf H e (fun σ' Hf' H' ρ' s e' z => a σ' Hf' H' ρ' s e' (f ρ' z)) b c d
theorem ss_next (h : P.nx ρ) : SS K tNext ρ P := fun D σ Ot Hf H e a _ _ _ => a σ Hf H ρ (Sm.refl _) e h
theorem ss_seq (h : SS K t ρ { P with nx := fun ρ' => SS K u ρ' P }) : SS K (tSeq t u) ρ P := fun D σ Ot Hf H e a b c d =>
  h { D with nx := u D } σ Ot Hf H e (fun σ' Hf' H' ρ' s e' hs => hs D σ' Ot Hf' H' e' (fun σ2 Hf2 H2 ρ2 s2 e2 z => a σ2 Hf2 H2 ρ2 (s.trans s2) e2 z) (fun v Hf2 H2 A s2 => b v Hf2 H2 A (s.trans s2))
    (fun σ2 Hf2 H2 ρ2 s2 => c σ2 Hf2 H2 ρ2 (s.trans s2)) (fun σ2 Hf2 H2 ρ2 s2 => d σ2 Hf2 H2 ρ2 (s.trans s2))) b c d
theorem ss_brk (h : P.bk ρ) : SS K tBreak ρ P := fun D σ Ot Hf H e _ _ c _ => c σ Hf H ρ (Sm.refl _) e h
theorem ss_cont (h : P.ct ρ) : SS K tCont ρ P := fun D σ Ot Hf H e _ _ _ d => d σ Hf H ρ (Sm.refl _) e h
theorem ss_ret (h : W K te ρ P.rt) : SS K (tRet te) ρ P := fun D σ Ot Hf H e _ b _ _ =>
  h σ Ot Hf H D.rt e fun v Hf' H' A g a z => b v Hf' H' A g.f g.sub (e.grow g).ot (e.grow g).dj a z
theorem ss_retN (h : P.rt (Is K ())) : SS K tRetN ρ P := fun D σ Ot Hf H e _ b _ _ => b .non Hf H (Is K ()) (Sm.refl _) e.hf e.ot e.dj Dp.non h
theorem ss_drop (h : W K te ρ fun _ => P.nx ρ) : SS K (tDrop te) ρ P := fun D σ Ot Hf H e a _ _ _ =>
  h σ Ot Hf H _ e fun v Hf' H' A g _ z => a σ Hf' H' ρ g.f (e.grow g) z
theorem ss_asg {js : List Nat} (h : W K te ρ fun A => G K g ρ A js P.nx) : SS K (tAsg te g) ρ P := fun D σ Ot Hf H e a _ _ _ =>
  h σ Ot Hf H _ e fun v Hf' H' A g1 a1 hg => hg σ Ot Hf' H' v D.nx (e.grow g1) a1 fun σ' ρ' e' _ z => a σ' Hf' H' ρ' g1.f e' z
/-- x = e -/
theorem ss_set {i : Nat} (h : W K te ρ fun A => P.nx (ρ.set i (.fact A))) : SS K (tAsg te (gName i)) ρ P := ss_asg (js := [i]) (h.imp fun A z => g_name z)
/-- x = a new list, the frame's own -/
theorem ss_own {i : Nat} (h : WN K te ρ fun ds => P.nx (ρ.set i (.own ds))) : SS K (tAsg te (gName i)) ρ P := fun D σ Ot Hf H e a _ _ _ =>
  h σ Ot Hf H _ e fun p vs ds H1f H1 g n nf hp hd z => by
    have e1 := e.grow g
    have no : Ot p = none := none_back e.ot n
    refine a _ H1f H1 (ρ.set i (.own ds)) g.f (e1.setO hp hd nf no fun j es hj q => ?_) z
    obtain ⟨p', vs', k1, k2, _⟩ := e.own j es hj
    rw [q] at k1
    cases k1
    rw [n] at k2
    cases k2
/-- .. a list of the frame's own from a name's fact is fixed: x = y -/
theorem ss_if {tc : TT} (h : WT K tc ρ fun b => (b = true → SS K t ρ P) ∧ (b = false → SS K u ρ P)) : SS K (tIfS tc t u) ρ P := fun D σ Ot Hf H e a b c d =>
  h σ Ot Hf H _ e fun k Hf' H' g ⟨h1, h2⟩ => by
    cases k with
    | true => exact h1 rfl D σ Ot Hf' H' (e.grow g) (fun σ2 Hf2 H2 ρ2 s2 => a σ2 Hf2 H2 ρ2 (g.f.trans s2)) (fun v Hf2 H2 A s2 => b v Hf2 H2 A (g.f.trans s2)) (fun σ2 Hf2 H2 ρ2 s2 => c σ2 Hf2 H2 ρ2 (g.f.trans s2)) (fun σ2 Hf2 H2 ρ2 s2 => d σ2 Hf2 H2 ρ2 (g.f.trans s2))
    | false => exact h2 rfl D σ Ot Hf' H' (e.grow g) (fun σ2 Hf2 H2 ρ2 s2 => a σ2 Hf2 H2 ρ2 (g.f.trans s2)) (fun v Hf2 H2 A s2 => b v Hf2 H2 A (g.f.trans s2)) (fun σ2 Hf2 H2 ρ2 s2 => c σ2 Hf2 H2 ρ2 (g.f.trans s2)) (fun σ2 Hf2 H2 ρ2 s2 => d σ2 Hf2 H2 ρ2 (g.f.trans s2))
/-- ahead of a statement an own list is fixed -/
theorem ss_freeze {i : Nat} {ds : List PyData} (hi : ρ[i]? = some (Slot.own ds)) (h : SS K t (ρ.set i (.fact (isL K ds))) P) : SS K t ρ P := fun D σ Ot Hf H e a b c d => by
  obtain ⟨Hf', s, e'⟩ := e.freeze hi
  exact h D σ Ot Hf' H e' (fun σ2 Hf2 H2 ρ2 s2 => a σ2 Hf2 H2 ρ2 (s.trans s2)) (fun v Hf2 H2 A s2 => b v Hf2 H2 A (s.trans s2)) (fun σ2 Hf2 H2 ρ2 s2 => c σ2 Hf2 H2 ρ2 (s.trans s2)) (fun σ2 Hf2 H2 ρ2 s2 => d σ2 Hf2 H2 ρ2 (s.trans s2))
/-- a, b = e1, e2 -/
theorem ss_par {i j : Nat} {ta : TA} (h : WA K ta ρ fun As => ∃ A B, As = [A, B] ∧ P.nx ((ρ.set i (.fact A)).set j (.fact B))) : SS K (tPar i j ta) ρ P := fun D σ Ot Hf H e a _ _ _ =>
  h σ Ot Hf H _ e fun vs Hf' H' As g as ⟨A, B, eq, z⟩ => by
    subst eq
    match vs, as with
    | [v, w], as => exact ⟨v, w, rfl, a _ Hf' H' _ g.f (((e.grow g).setF as.1).setF as.2.1) z⟩
/-- x op= e -/
theorem ss_aug {i : Nat} {f : Int → Int → Int} {a : Int} (hx : ρ[i]? = some (Slot.fact (isD K (.int a)))) (h : W K te ρ fun B => ∃ b : Int, Le B (Is K b) ∧ P.nx (ρ.set i (.fact (Is K (f a b))))) : SS K (tAug i te (ipI f)) ρ P := fun D σ Ot Hf H e nx _ _ _ => by
  obtain ⟨v, h1, h2⟩ := e.at_ i _ hx
  obtain rfl := dp_int h2
  refine ⟨.int a, h1, h σ Ot Hf H _ e fun y Hf' H' B g b ⟨j, l, z⟩ => ?_⟩
  obtain rfl := dp_int (l _ _ b)
  exact ⟨a, j, rfl, rfl, nx _ Hf' H' _ g.f ((e.grow g).setF (A := Is K (f a j)) (Dp.int _)) z⟩
/-- xs.append(e), xs the frame's own -/
theorem ss_append {i : Nat} {ds : List PyData} (hi : ρ[i]? = some (Slot.own ds)) (hz : ds.length < 16000000) (h : W K te ρ fun A => ∃ d, Le A (isD K d) ∧ P.nx (ρ.set i (.own (ds ++ [d])))) :
    SS K (tDrop (tBM K "list" rAppend (tVar i) (tCons te tNil))) ρ P := fun D σ Ot Hf H e nx _ _ _ => by
  obtain ⟨p, vs, k1, k2, k3, k4, k5⟩ := e.own i ds hi
  refine ⟨.ref p, k1, .inl ⟨rfl, vs, .inl (.inl k2)⟩, ?_⟩
  refine h σ Ot Hf H _ e fun y Hf' H' A g a ⟨d, l, z⟩ => ?_
  have e' := e.grow g
  refine ⟨p, vs, y, rfl, rfl, g.hl k2, ?_, ?_⟩
  · rw [dpAll_len k3]
    exact Nat.lt_trans hz (by decide)
  · exact nx σ Hf' _ _ g.f (e'.chg hi k1 (dpAll_app (dpAll_mono g.f _ _ k3) (.cons (l _ _ a) .nil))) z
/-- xs.extend(new list), xs the frame's own -/
theorem ss_extend {i : Nat} {ds : List PyData} (hi : ρ[i]? = some (Slot.own ds)) (h : WN K te ρ fun es => ds.length + es.length ≤ 16000000 ∧ P.nx (ρ.set i (.own (ds ++ es)))) :
    SS K (tDrop (tBM K "list" rExtend (tVar i) (tCons te tNil))) ρ P := fun D σ Ot Hf H e nx _ _ _ => by
  obtain ⟨p, vs, k1, k2, k3, k4, k5⟩ := e.own i ds hi
  refine ⟨.ref p, k1, .inl ⟨rfl, vs, .inl (.inl k2)⟩, ?_⟩
  refine h σ Ot Hf H _ e fun b us es Hf' H' g n nf hb hd ⟨hz, z⟩ => ?_
  have e' := e.grow g
  refine ⟨p, b, vs, us, rfl, rfl, g.hl k2, hb, ?_, ?_⟩
  · rw [dpAll_len k3, dpAll_len hd]
    exact Nat.le_trans hz (by decide)
  · exact nx σ Hf' _ _ g.f (e'.chg hi k1 (dpAll_app (dpAll_mono g.f _ _ k3) hd)) z
end

/-! ### what is walked -/
section
variable (K : PySem.W.Frag)
/-- n turns; the i-th item has the fact item i; it is at one grown heap later -/
def WI (wi : TI) (ρ : Rho) (k : Nat → (Nat → Fact → Prop) → Prop) : Prop := ∀ (σ : L2.St) (Ot Hf H : Hp) (Rr : It → Hp → Prop), EnvD K ρ σ Ot Hf H →
  (∀ (J : It) (Hf' H' : Hp) (n : Nat) (item : Nat → Fact → Prop), Grow Hf H Hf' H' →
    (∃ Gd : Hp → Prop, (∀ H2, Sm Hf' H2 → Gd H2) ∧ (∀ i H2, i < n → Gd H2 → J.go i H2) ∧ (∀ H2, Gd H2 → J.stop n H2) ∧
      (∀ i Hf2 H2 x H3, i < n → Sm Hf' Hf2 → Same Hf2 H2 → J.yld i H2 x H3 → ∃ Hf3 A, Grow Hf2 H2 Hf3 H3 ∧ A.ok x Hf3 ∧ item i A)) → k n item → Rr J H') → wi σ H Rr
end
section
variable {K : PySem.W.Frag} {ρ : Rho} {te : TE} {g : TG} {t u : TS} {P : Post} {k : Nat → (Nat → Fact → Prop) → Prop}
theorem wi_list {tl : TE} (h : W K tl ρ fun A => ∃ ds, Le A (isD K (.list ds)) ∧ ds.length ≤ sizeLine ∧ k ds.length fun i B => ∃ d, ds[i]? = some d ∧ B = isD K d) : WI K (iList K tl) ρ k := fun σ Ot Hf H Rr e q =>
  h σ Ot Hf H _ e fun v H1f H1 A g1 a ⟨ds, l, hz, hk⟩ => by
    obtain ⟨p, xs, rfl, h1, h2⟩ := dp_lst (l _ _ a)
    refine ⟨p, rfl, ⟨xs, same_l g1.sub h1⟩, q _ H1f H1 ds.length _ g1 ⟨fun H2 => SqL K H2 p xs, fun H2 s => same_l s h1, fun i H2 hi z => ?_, fun H2 z => ⟨xs, z, Nat.le_of_eq (dpAll_len h2)⟩, fun i Hf2 H2 x H3 hi s s2 y => ?_⟩ hk⟩
    · have hi' : i < xs.length := by rw [dpAll_len h2]; exact hi
      exact ⟨xs, xs[i], z, List.getElem?_eq_getElem hi'⟩
    · obtain ⟨rfl, hy⟩ := y
      have hx := hy xs (same_l (s.trans s2) h1)
      obtain ⟨d, hd, hp⟩ := dpAll_gets h2 hx
      exact ⟨Hf2, isD K d, Grow.refl s2, dp_mono s _ _ hp, d, hd, rfl⟩
theorem wi_tup {tl : TE} (h : W K tl ρ fun A => ∃ ds, Le A (isD K (.tuple ds)) ∧ ds.length ≤ sizeLine ∧ k ds.length fun i B => ∃ d, ds[i]? = some d ∧ B = isD K d) : WI K (iTup K tl) ρ k := fun σ Ot Hf H Rr e q =>
  h σ Ot Hf H _ e fun v H1f H1 A g1 a ⟨ds, l, hz, hk⟩ => by
    obtain ⟨p, xs, rfl, h1, h2⟩ := dp_tup (l _ _ a)
    refine ⟨p, rfl, ⟨xs, same_t g1.sub h1⟩, q _ H1f H1 ds.length _ g1 ⟨fun H2 => SqT K H2 p xs, fun H2 s => same_t s h1, fun i H2 hi z => ?_, fun H2 z => ⟨xs, z, Nat.le_of_eq (dpAll_len h2)⟩, fun i Hf2 H2 x H3 hi s s2 y => ?_⟩ hk⟩
    · have hi' : i < xs.length := by rw [dpAll_len h2]; exact hi
      exact ⟨xs, xs[i], z, List.getElem?_eq_getElem hi'⟩
    · obtain ⟨rfl, hy⟩ := y
      have hx := hy xs (same_t (s.trans s2) h1)
      obtain ⟨d, hd, hp⟩ := dpAll_gets h2 hx
      exact ⟨Hf2, isD K d, Grow.refl s2, dp_mono s _ _ hp, d, hd, rfl⟩
/-- range(n) -/
theorem wi_range {ta : TA} (h : WA K ta ρ fun As => ∃ (A : Fact) (n : Nat), As = [A] ∧ Le A (Is K n) ∧ n ≤ sizeLine ∧ k n fun i B => B = Is K i) : WI K (iRng1 ta) ρ k := fun σ Ot Hf H Rr e q =>
  h σ Ot Hf H _ e fun vs H1f H1 As g1 as ⟨A, n, eq, l, hz, hk⟩ => by
    subst eq
    match vs, as with
    | [v], as =>
      obtain rfl := dp_int (l _ _ as.1)
      have hl : n < 2 ^ 61 := Nat.lt_of_le_of_lt hz (by decide)
      refine ⟨(n : Int), rfl, by omega, by omega, ?_⟩
      have en : ((n : Int)).toNat = n := by omega
      rw [en]
      refine q _ H1f H1 n _ g1 ⟨fun _ => True, fun _ _ => trivial, fun i H2 hi _ => hi, fun _ _ => Nat.le_refl _, fun i Hf2 H2 x H3 hi s s2 y => ?_⟩ hk
      obtain ⟨rfl, rfl⟩ := y
      refine ⟨Hf2, Is K i, Grow.refl s2, ?_, rfl⟩
      have : (0 : Int) + (i : Int) = (i : Int) := by omega
      rw [this]
      exact Dp.int _
/-- range(a, b) -/
theorem wi_range2 {ta : TA} (h : WA K ta ρ fun As => ∃ (A B : Fact) (a n : Nat), As = [A, B] ∧ Le A (Is K a) ∧ Le B (Is K (a + n)) ∧ a + n ≤ sizeLine ∧ k n fun i F => F = Is K (a + i)) : WI K (iRng2 ta) ρ k := fun σ Ot Hf H Rr e q =>
  h σ Ot Hf H _ e fun vs H1f H1 As g1 as ⟨A, B, a, n, eq, l, l2, hz, hk⟩ => by
    subst eq
    match vs, as with
    | [v, w], as =>
      obtain rfl := dp_int (l _ _ as.1)
      obtain rfl := dp_int (l2 _ _ as.2.1)
      have hl : a + n < 2 ^ 61 := Nat.lt_of_le_of_lt hz (by decide)
      refine ⟨(a : Int), ((a + n : Nat) : Int), rfl, ⟨by omega, by omega, by omega, by omega⟩, ?_⟩
      have en : (((a + n : Nat) : Int) - (a : Int)).toNat = n := by omega
      rw [en]
      refine q _ H1f H1 n _ g1 ⟨fun _ => True, fun _ _ => trivial, fun i H2 hi _ => hi, fun _ _ => Nat.le_refl _, fun i Hf2 H2 x H3 hi s s2 y => ?_⟩ hk
      obtain ⟨rfl, rfl⟩ := y
      refine ⟨Hf2, Is K (a + i), Grow.refl s2, ?_, rfl⟩
      have : (a : Int) + (i : Int) = ((a + i : Nat) : Int) := by omega
      rw [this]
      exact Dp.int _

/-! ### for -/
theorem ss_for {wi : TI} {js : List Nat} (h : WI K wi ρ fun n item => ∃ Iv : Nat → Rho → Prop, Iv 0 ρ ∧
    (∀ i ρ' A, i < n → Iv i ρ' → item i A → G K g ρ' A js fun ρ2 => SS K t ρ2 { nx := Iv (i + 1), rt := P.rt, bk := P.nx, ct := Iv (i + 1) }) ∧ ∀ ρ', Iv n ρ' → P.nx ρ') : SS K (tFor wi g t) ρ P := fun D σ Ot Hf H e nx rt _ _ =>
  h σ Ot Hf H _ e fun J H1f H1 n item g1 ⟨Gd, gd, go, stop, yld⟩ ⟨Iv, i0, turn, done⟩ => by
    have e1 := e.grow g1
    refine ⟨fun i m σ' H' => ∃ ρ' Hf', i + m = n ∧ Sm H1f Hf' ∧ EnvD K ρ' σ' Ot Hf' H' ∧ Iv i ρ', ⟨n, ρ, H1f, by omega, Sm.refl _, e1, i0⟩, ?_⟩
    rintro i m σ' H' ⟨ρ', Hf', em, sm, e', iv⟩
    by_cases hi : i < n
    · refine .inr ⟨go i H' hi (gd H' (sm.trans e'.hf)), fun σ2 H2 => ∃ ρ2 Hf2, Sm H1f Hf2 ∧ EnvD K ρ2 σ2 Ot Hf2 H2 ∧ Iv (i + 1) ρ2, fun σ2 H2 ⟨ρ2, Hf2, s2, e2, iv2⟩ => ⟨m - 1, by omega, ρ2, Hf2, by omega, s2, e2, iv2⟩, fun x H2 y => ?_⟩
      obtain ⟨Hf3, A, g3, a, it⟩ := yld i Hf' H' x H2 hi sm e'.hf y
      refine turn i ρ' A hi iv it σ' Ot Hf3 H2 x _ (e'.grow g3) a fun σ4 ρ4 e4 _ hs => ?_
      have s4 : Sm Hf Hf3 := g1.f.trans (sm.trans g3.f)
      refine hs _ σ4 Ot Hf3 H2 e4 (fun σ5 Hf5 H5 ρ5 s5 e5 z => ⟨ρ5, Hf5, sm.trans (g3.f.trans s5), e5, z⟩) (fun v Hf5 H5 B s5 => rt v Hf5 H5 B (s4.trans s5)) (fun σ5 Hf5 H5 ρ5 s5 e5 z => nx σ5 Hf5 H5 ρ5 (s4.trans s5) e5 z)
        (fun σ5 Hf5 H5 ρ5 s5 e5 z => ⟨ρ5, Hf5, sm.trans (g3.f.trans s5), e5, z⟩)
    · have ei : i = n := by omega
      subst ei
      exact .inl ⟨stop H' (gd H' (sm.trans e'.hf)), nx σ' Hf' H' ρ' (g1.f.trans sm) e' (done ρ' iv)⟩
/-- while: Iv by a measure -/
theorem ss_while {tc : TT} (Iv : Nat → Rho → Prop) (m0 : Nat) (h0 : Iv m0 ρ)
    (h : ∀ m ρ', Iv m ρ' → WT K tc ρ' fun b => (b = true → SS K t ρ' { nx := fun ρ2 => ∃ m', m' < m ∧ Iv m' ρ2, rt := P.rt, bk := P.nx, ct := fun ρ2 => ∃ m', m' < m ∧ Iv m' ρ2 }) ∧ (b = false → P.nx ρ')) : SS K (tWhile tc t) ρ P := fun D σ Ot Hf H e nx rt _ _ => by
  refine ⟨fun m σ' H' => ∃ ρ' Hf', Sm Hf Hf' ∧ EnvD K ρ' σ' Ot Hf' H' ∧ Iv m ρ', ⟨m0, ρ, Hf, Sm.refl _, e, h0⟩, ?_⟩
  rintro m σ' H' ⟨ρ', Hf', sm, e', iv⟩
  refine h m ρ' iv σ' Ot Hf' H' _ e' fun b Hf2 H2 g2 ⟨h1, h2⟩ => ?_
  have e2 := e'.grow g2
  have s2 : Sm Hf Hf2 := sm.trans g2.f
  cases b with
  | true =>
    show ∃ N, _
    refine ⟨fun σ3 H3 => ∃ ρ3 Hf3, Sm Hf Hf3 ∧ EnvD K ρ3 σ3 Ot Hf3 H3 ∧ ∃ m', m' < m ∧ Iv m' ρ3, fun σ3 H3 ⟨ρ3, Hf3, s3, e3, m', hm, iv3⟩ => ⟨m', hm, ρ3, Hf3, s3, e3, iv3⟩, ?_⟩
    exact h1 rfl _ σ' Ot Hf2 H2 e2 (fun σ5 Hf5 H5 ρ5 s5 e5 z => ⟨ρ5, Hf5, s2.trans s5, e5, z⟩) (fun v Hf5 H5 B s5 => rt v Hf5 H5 B (s2.trans s5)) (fun σ5 Hf5 H5 ρ5 s5 e5 z => nx σ5 Hf5 H5 ρ5 (s2.trans s5) e5 z)
      (fun σ5 Hf5 H5 ρ5 s5 e5 z => ⟨ρ5, Hf5, s2.trans s5, e5, z⟩)
  | false => exact nx σ' Hf2 H2 ρ' s2 e2 (h2 rfl)

/-! ### list comprehensions -/
theorem wn_lc {wi : TI} {tt : TT} {vs : List Nat} {js : List Nat} {𝒟 : List PyData → Prop} (hj : ∀ j ∈ js, j ∈ vs) (h : WI K wi ρ fun n item => n ≤ sizeLine ∧ ∃ Iv : Nat → List PyData → Prop, Iv 0 [] ∧
    (∀ i acc A, i < n → acc.length ≤ i → Iv i acc → item i A → G K g (wipeR ρ vs) A js fun ρ2 => WT K tt ρ2 fun b => (b = true → W K te ρ2 fun B => ∃ d, Le B (isD K d) ∧ Iv (i + 1) (acc ++ [d])) ∧ (b = false → Iv (i + 1) acc)) ∧ ∀ acc, acc.length ≤ n → Iv n acc → 𝒟 acc) :
    WN K (tLc wi g tt te vs) ρ 𝒟 := fun σ Ot Hf H Q e q =>
  h σ Ot Hf H _ e fun J H1f H1 n item g1 ⟨Gd, gd, go, stop, yld⟩ ⟨hn, Iv, i0, turn, done⟩ => fun Da hD => by
    have e1 := e.grow g1
    have g2 := Grow.newO (o := .lst []) g1.sub hD
    refine ⟨fun i m H' => ∃ Hf' acc us, i + m = n ∧ Grow H1f H1 Hf' H' ∧ Hf' Da = none ∧ H' Da = some (.lst us) ∧ DpAll K Hf' us acc ∧ acc.length ≤ i ∧ Iv i acc, ⟨n, H1f, [], [], by omega, g2, none_back g1.sub hD, upd_same, .nil, Nat.le_refl _, i0⟩, ?_⟩
    rintro i m H' ⟨Hf', acc, us, em, gI, nf, hp, hd, hl, iv⟩
    by_cases hi : i < n
    · refine .inr ⟨go i H' hi (gd H' (gI.f.trans gI.sub)), fun H2 => ∃ Hf2 acc2 us2, Grow H1f H1 Hf2 H2 ∧ Hf2 Da = none ∧ H2 Da = some (.lst us2) ∧ DpAll K Hf2 us2 acc2 ∧ acc2.length ≤ i + 1 ∧ Iv (i + 1) acc2,
        fun H2 ⟨Hf2, acc2, us2, a1, a2, a3, a4, a5, a6⟩ => ⟨m - 1, by omega, Hf2, acc2, us2, by omega, a1, a2, a3, a4, a5, a6⟩, fun x H2 y => ?_⟩
      obtain ⟨Hf3, A, g3, a, it⟩ := yld i Hf' H' x H2 hi gI.f gI.sub y
      refine turn i acc A hi hl iv it (wipe σ vs) Ot Hf3 H2 x _ ((e1.grow (gI.trans g3)).wipe vs) a fun σ4 ρ4 e4 w4 ht => ⟨(w4 vs hj).trans (wipe_wipe vs vs fun _ z => z), ?_⟩
      refine ht σ4 Ot Hf3 H2 _ e4 fun b Hf4 H4 g4 ⟨h1, h2⟩ => ?_
      have g34 := g3.trans g4
      cases b with
      | false =>
        show ∃ Hf2, _
        exact ⟨Hf4, acc, us, gI.trans g34, g34.out Da _ hp nf, g34.hl hp, dpAll_mono g34.f _ _ hd, by omega, h2 rfl⟩
      | true =>
        show te σ4 H4 _
        refine h1 rfl σ4 Ot Hf4 H4 _ (e4.grow g4) fun v Hf5 H5 B g5 b5 ⟨d, l, z⟩ => ?_
        have g35 := g34.trans g5
        refine ⟨us, g35.hl hp, ?_, Hf5, acc ++ [d], us ++ [v], (gI.trans g35).updO hD (g35.out Da _ hp nf), g35.out Da _ hp nf, upd_same, dpAll_app (dpAll_mono g35.f _ _ hd) (.cons (l _ _ b5) .nil), ?_, z⟩
        · rw [dpAll_len hd]
          omega
        · rw [List.length_append]
          show acc.length + 1 ≤ i + 1
          omega
    · have ei : i = n := by omega
      subst ei
      exact .inl ⟨stop H' (gd H' (gI.f.trans gI.sub)), q Da us acc Hf' H' (g1.trans gI) (g1.n _ hD) nf hp hd (done acc hl iv)⟩
/-! ### typed walks -/
/-- it walks a list xs of things of the type α, whose items have the facts F -/
def WX (K : PySem.W.Frag) {α : Type} (wi : TI) (ρ : Rho) (F : α → Fact) (k : List α → Prop) : Prop :=
  WI K wi ρ fun n item => ∃ xs : List α, n = xs.length ∧ n ≤ sizeLine ∧ (∀ i B, i < n → item i B → ∃ x, xs[i]? = some x ∧ Le B (F x)) ∧ k xs
theorem WI.imp {wi : TI} {k k' : Nat → (Nat → Fact → Prop) → Prop} (h : WI K wi ρ k) (f : ∀ n item, k n item → k' n item) : WI K wi ρ k' := fun σ Ot Hf H Rr e q => h σ Ot Hf H Rr e fun J Hf' H' n item g w z => q J Hf' H' n item g w (f n item z)
theorem get_map {α β : Type} {xs : List α} {f : α → β} {i : Nat} {d : β} (h : (xs.map f)[i]? = some d) : ∃ x, xs[i]? = some x ∧ d = f x := by
  rw [List.getElem?_map] at h
  cases e : xs[i]? with
  | none => rw [e] at h; cases h
  | some x =>
    rw [e] at h
    exact ⟨x, rfl, (Option.some.inj h).symm⟩
theorem wx_list {α : Type} [Enc α] {tl : TE} {k : List α → Prop} (h : W K tl ρ fun A => ∃ xs : List α, Le A (Is K (PL.mk xs)) ∧ xs.length ≤ sizeLine ∧ k xs) : WX K (iList K tl) ρ (fun x : α => Is K x) k :=
  wi_list (h.imp fun A ⟨xs, l, hz, hk⟩ => ⟨xs.map Enc.enc, l, by rw [List.length_map]; exact hz, xs, List.length_map .., by rw [List.length_map]; exact hz, fun i B _ ⟨d, hd, eb⟩ => by
    obtain ⟨x, hx, rfl⟩ := get_map hd
    exact ⟨x, hx, Le.of_eq eb⟩, hk⟩)
theorem wx_tup {α : Type} [Enc α] {tl : TE} {k : List α → Prop} (h : W K tl ρ fun A => ∃ xs : List α, Le A (Is K xs) ∧ xs.length ≤ sizeLine ∧ k xs) : WX K (iTup K tl) ρ (fun x : α => Is K x) k :=
  wi_tup (h.imp fun A ⟨xs, l, hz, hk⟩ => ⟨xs.map Enc.enc, l, by rw [List.length_map]; exact hz, xs, List.length_map .., by rw [List.length_map]; exact hz, fun i B _ ⟨d, hd, eb⟩ => by
    obtain ⟨x, hx, rfl⟩ := get_map hd
    exact ⟨x, hx, Le.of_eq eb⟩, hk⟩)
theorem WA.imp {ta : TA} {k k' : List Fact → Prop} (h : WA K ta ρ k) (f : ∀ As, k As → k' As) : WA K ta ρ k' := fun σ Ot Hf H Q e q => h σ Ot Hf H Q e fun vs Hf' H' As g as z => q vs Hf' H' As g as (f As z)
theorem wx_range {ta : TA} {k : List Nat → Prop} (h : WA K ta ρ fun As => ∃ (A : Fact) (n : Nat), As = [A] ∧ Le A (Is K n) ∧ n ≤ sizeLine ∧ k (List.range n)) : WX K (iRng1 ta) ρ (fun x : Nat => Is K x) k :=
  wi_range (h.imp fun As ⟨A, n, eq, l, hz, hk⟩ => ⟨A, n, eq, l, hz, List.range n, List.length_range.symm, hz, fun i B hi hB => by
    subst hB
    exact ⟨i, List.getElem?_range hi, Le.refl _⟩, hk⟩)
/-- the parts of a list ahead of an item -/
theorem take_snoc {α : Type} {l : List α} {i : Nat} {x : α} (h : l[i]? = some x) : l.take (i + 1) = l.take i ++ [x] := by
  rw [List.take_add_one, h]
  rfl
/-- a comprehension over it, what is made so far related to what was walked -/
theorem wn_rel {α β : Type} [Enc β] {wi : TI} {F : α → Fact} {tt : TT} {vs js : List Nat} {𝒟 : List PyData → Prop} (hj : ∀ j ∈ js, j ∈ vs) (h : WX K wi ρ F fun xs => ∃ Iv : List α → List β → Prop, Iv [] [] ∧
    (∀ pre x ys, x ∈ xs → pre.length < xs.length → ys.length ≤ pre.length → Iv pre ys → G K g (wipeR ρ vs) (F x) js fun ρ2 => WT K tt ρ2 fun b =>
      (b = true → W K te ρ2 fun B => ∃ y : β, Le B (Is K y) ∧ Iv (pre ++ [x]) (ys ++ [y])) ∧ (b = false → Iv (pre ++ [x]) ys)) ∧ ∀ ys, ys.length ≤ xs.length → Iv xs ys → 𝒟 (ys.map Enc.enc)) : WN K (tLc wi g tt te vs) ρ 𝒟 :=
  wn_lc hj (h.imp fun n item ⟨xs, en, hz, it, Iv, i0, turn, done⟩ => ⟨hz, fun i acc => ∃ ys : List β, acc = ys.map Enc.enc ∧ Iv (xs.take i) ys, ⟨[], rfl, i0⟩, fun i acc A hi hl ⟨ys, ea, iv⟩ hA => by
    obtain ⟨x, hx, l⟩ := it i A hi hA
    subst ea
    rw [List.length_map] at hl
    have hpl : (xs.take i).length = i := by rw [List.length_take]; omega
    refine G.le l fun σ2 Ot2 Hf2 H2 v Q2 e2 a2 q2 => turn (xs.take i) x ys (List.mem_of_getElem? hx) (by omega) (by omega) iv σ2 Ot2 Hf2 H2 v Q2 e2 a2 fun σ3 ρ3 e3 w3 hw => q2 σ3 ρ3 e3 w3 ?_
    refine fun σ4 Ot4 Hf4 H4 Q4 e4 q4 => hw σ4 Ot4 Hf4 H4 Q4 e4 fun b Hf5 H5 g5 ⟨h1, h2⟩ => q4 b Hf5 H5 g5 ⟨fun eb => (h1 eb).imp fun B ⟨y, ly, z⟩ => ⟨Enc.enc y, ly, ys ++ [y], by rw [List.map_append]; rfl, ?_⟩, fun eb => ⟨ys, rfl, ?_⟩⟩
    · rw [take_snoc hx]; exact z
    · rw [take_snoc hx]; exact h2 eb, fun acc hl ⟨ys, ea, iv⟩ => by
    subst ea
    rw [en, List.take_length] at iv
    rw [List.length_map, en] at hl
    exact done ys hl iv⟩)
/-- [f x for x in xs if p x] -/
theorem wn_comp {α β : Type} [Enc β] {wi : TI} {F : α → Fact} {tt : TT} {vs js : List Nat} {𝒟 : List PyData → Prop} (p : α → Bool) (f : α → β) (hj : ∀ j ∈ js, j ∈ vs) (h : WX K wi ρ F fun xs =>
    (∀ x ∈ xs, G K g (wipeR ρ vs) (F x) js fun ρ2 => WT K tt ρ2 fun b => b = p x ∧ (p x = true → W K te ρ2 fun B => Le B (Is K (f x)))) ∧ 𝒟 (((xs.filter p).map f).map Enc.enc)) : WN K (tLc wi g tt te vs) ρ 𝒟 :=
  wn_rel (β := β) hj (h.imp fun n item ⟨xs, en, hz, it, turn, done⟩ => ⟨xs, en, hz, it, fun pre ys => ys = (pre.filter p).map f, rfl, fun pre x ys hx _ _ iv σ2 Ot2 Hf2 H2 v Q2 e2 a2 q2 => turn x hx σ2 Ot2 Hf2 H2 v Q2 e2 a2 fun σ3 ρ3 e3 w3 hw => q2 σ3 ρ3 e3 w3
      fun σ4 Ot4 Hf4 H4 Q4 e4 q4 => hw σ4 Ot4 Hf4 H4 Q4 e4 fun b Hf5 H5 g5 ⟨h1, h2⟩ => q4 b Hf5 H5 g5 ⟨fun eb => (h2 (h1 ▸ eb)).imp fun B l => ⟨f x, l, by
        show ys ++ [f x] = ((pre ++ [x]).filter p).map f
        rw [iv, List.filter_append, List.map_append, List.filter_cons, if_pos (h1 ▸ eb)]; rfl⟩, fun eb => by
        show ys = ((pre ++ [x]).filter p).map f
        rw [iv, List.filter_append, List.map_append, List.filter_cons, if_neg (by rw [← h1, eb]; decide)]
        exact (List.append_nil _).symm⟩,
    fun ys _ iv => by rw [iv]; exact done⟩)
/-- [f x for x in xs] -/
theorem wn_mapT {α β : Type} [Enc β] {wi : TI} {F : α → Fact} {vs js : List Nat} {𝒟 : List PyData → Prop} (f : α → β) (hj : ∀ j ∈ js, j ∈ vs) (h : WX K wi ρ F fun xs =>
    (∀ x ∈ xs, G K g (wipeR ρ vs) (F x) js fun ρ2 => W K te ρ2 fun B => Le B (Is K (f x))) ∧ 𝒟 ((xs.map f).map Enc.enc)) : WN K (tLc wi g tYes te vs) ρ 𝒟 :=
  wn_comp (β := β) (fun _ => true) f hj (h.imp fun n item ⟨xs, en, hz, it, turn, done⟩ => ⟨xs, en, hz, it, fun x hx σ2 Ot2 Hf2 H2 v Q2 e2 a2 q2 => turn x hx σ2 Ot2 Hf2 H2 v Q2 e2 a2 fun σ3 ρ3 e3 w3 hw => q2 σ3 ρ3 e3 w3 (wt_yes ⟨rfl, fun _ => hw⟩), by
    rw [List.filter_eq_self.mpr fun _ _ => rfl]
    exact done⟩)
/-- a for over it -/
theorem ss_forT {α : Type} {wi : TI} {F : α → Fact} {js : List Nat} (h : WX K wi ρ F fun xs => ∃ Iv : List α → Rho → Prop, Iv [] ρ ∧
    (∀ pre x ρ', x ∈ xs → pre ++ [x] <+: xs → Iv pre ρ' → G K g ρ' (F x) js fun ρ2 => SS K t ρ2 { nx := Iv (pre ++ [x]), rt := P.rt, bk := P.nx, ct := Iv (pre ++ [x]) }) ∧ ∀ ρ', Iv xs ρ' → P.nx ρ') : SS K (tFor wi g t) ρ P :=
  ss_for (js := js) (h.imp fun n item ⟨xs, en, hz, it, Iv, i0, turn, done⟩ => ⟨fun i ρ' => Iv (xs.take i) ρ', i0, fun i ρ' A hi iv hA => by
    obtain ⟨x, hx, l⟩ := it i A hi hA
    refine G.le l ?_
    have e := take_snoc hx
    have pf : xs.take i ++ [x] <+: xs := by rw [← e]; exact List.take_prefix _ _
    have q := turn (xs.take i) x ρ' (List.mem_of_getElem? hx) pf iv
    show G K g ρ' (F x) js fun ρ2 => SS K t ρ2 { nx := Iv (xs.take (i + 1)), rt := P.rt, bk := P.nx, ct := Iv (xs.take (i + 1)) }
    rw [e]
    exact q, fun ρ' iv => by
    rw [en, List.take_length] at iv
    exact done ρ' iv⟩)
end
end DL
/-! DLd: defs: a promise kept wherever no repr runs (Fn), how it is shown from facts, how it is called; the law's end. -/
namespace DL
open PySem PySem.Spec PyProof.Rows L2

/-- what HandS.FnOk says, asked only where no object is being shown (guards) -/
structure Fn (P : Program) (w : World) (K : PySem.W.Frag) (mg : Str → Option Value) (base : Heap) (CX : CXT) (k : Nat) (f : Addr) (fd : FuncData) (ps : List Str) (sp : Sp) : Prop where
  len : ∀ vs H Q E, sp vs H Q E → vs.length = ps.length
  run : ∀ (A : Around) (outer : List Env) (s : Shared) (H : Hp) (args : Args) (us : List Value) (vs : List V) (Q : VK) (E : XK), Room k A → A.guards = some [] → Env0 P w K mg base A outer s H →
    BindsTo s fd args (ps.zip us) → Vals vs us → sp vs H Q E → codeAny (model P w) A (.call (.ref f) args) (CR CX outer P w H s Q E) s
section
variable {P : Program} {w : World} {K : PySem.W.Frag} {mg : Str → Option Value} {base : Heap} {CX : CXT} {j k : Nat} {f : Addr} {fd : FuncData} {ps : List Str} {sp sp' : Sp}
theorem Fn.mono (F : Fn P w K mg base CX j f fd ps sp) (h : j ≤ k) : Fn P w K mg base CX k f fd ps sp :=
  ⟨F.len, fun A outer s H args us vs Q E hr => F.run A outer s H args us vs Q E (hr.mono h)⟩
theorem Fn.imp (F : Fn P w K mg base CX k f fd ps sp) (h : ∀ vs H Q E, sp' vs H Q E → sp vs H Q E) : Fn P w K mg base CX k f fd ps sp' :=
  ⟨fun vs H Q E q => F.len vs H Q E (h _ _ _ _ q), fun A outer s H args us vs Q E hr hg he hb hv q => F.run A outer s H args us vs Q E hr hg he hb hv (h _ _ _ _ q)⟩

/-- a def from its body -/
theorem fn_body {name qual : Str} {params : Arguments} {body : List Stmt} {scope : Scope} {dV kV doc pm cdv ct oc : Value} {an od : Option Addr} {osl : Array (Option Value)} {N : List Str}
    (lk : K.lookup f = some ⟨oc, od, .func (PySem.W.fnOf name qual params body scope dV kV doc pm an cdv ct), osl⟩) (hcd : PySem.W.codeIn K cdv qual = true) (S : FnScope N ps scope) (len : ∀ vs H Q E, sp vs H Q E → vs.length = ps.length)
    (hbody : ∀ (A : Around) (outer : List Env) (s : Shared) (H : Hp) (vs : List V) (Q : VK) (E : XK), Room k (A.deeper (envOfC qual scope s.heap.objs.size f cdv)) → A.guards = some [] → sp vs H Q E →
      ∃ t, PSs (cxOf CX P w K mg base N qual scope f cdv A outer s H E) body t ∧ t { nx := fun _ H' => Q .non H', rt := Q } (start N vs) H) :
    Fn P w K mg base CX (k + 1) f (PySem.W.fnOf name qual params body scope dV kV doc pm an cdv ct) ps sp := by
  refine ⟨len, fun A outer s H args us vs Q E hr hgd e0 hb rv hsp => ?_⟩
  have kin : K.In s.heap := e0.mod.kin.keeps fun b o e => (e0.bs b o e).1
  have nolim : s.heap.NoLimit := e0.mod.nolimit.keeps fun b o e => (e0.bs b o e).1
  have kinds : ∀ y ∈ ps.zip us, scope.names.lookup y.1 = some .local ∨ (scope.names.lookup y.1 = some .cell ∧ ((cellsFrom (s.heap.objs.size + 1) scope.names []).lookup y.1).isSome = true) := by
    rintro ⟨n, v⟩ hy
    rcases S.par n (List.of_mem_zip hy).1 with q | q
    · exact Or.inl q
    · exact Or.inr ⟨q, PySem.W.cellsFrom_some _ _ _ (Or.inl q)⟩
  refine codeAny_call_function hr.depth (kin _ _ lk) rfl S.co S.gen rfl (PySem.W.codeRec_of kin hcd) (hb _ _ _ _ ?_)
  refine wpAny_newFunctionEnv_cells S.kind kinds fun env he s1 x => ?_
  subst he
  refine ⟨nolim.keeps x.toInCall.keep, codeAny_func ?_⟩
  obtain ⟨t, ht, hq⟩ := hbody A outer s H vs Q E (hr.deeper _) hgd hsp
  have inv : Inv (cxOf CX P w K mg base N qual scope f cdv A outer s H E) [] (start N vs) H s1 := inv_start S hr.hd e0 (len _ _ _ _ hsp) rv x
  refine wpAny_mono (ht.run [] s1 (start N vs) H _ inv hq) (fun fl s' hs => ?_) fun e s' hs => hs
  cases fl with
  | ret u =>
    obtain ⟨v, σ', H', J, r2, q⟩ := hs
    exact ⟨v, H', J.os, J.bare, J.base, J.hok, r2, q⟩
  | next =>
    obtain ⟨σ', H', J, q⟩ := hs
    exact ⟨V.non, H', J.os, J.bare, J.base, J.hok, (rfl : RelV V.non Value.none), q⟩
  | brk =>
    obtain ⟨_, _, _, q⟩ := hs
    exact q.elim
  | cont =>
    obtain ⟨_, _, _, q⟩ := hs
    exact q.elim
end

/-! ### calls -/
section
variable {X : Cx} {CX : CXT} {k : Nat} {f : Addr} {fd : FuncData} {ps : List Str} {sp : Sp} {E : XK} {x : Str} {p pos : Pos} {e : Expr} {es : List Expr} {t : TA}
/-- a def of the module, ready to be called -/
structure Has (P : Program) (w : World) (K : PySem.W.Frag) (mg : Str → Option Value) (base : Heap) (CX : CXT) (k : Nat) (x : Str) (ps : List Str) (sp : Sp) : Prop where
  ex : ∃ f fd, Fn P w K mg base CX k f fd ps sp ∧ mg x = some (.ref f) ∧ PySem.W.keepIn K (.ref f) = true ∧ Binds K fd ps []
theorem Has.mono {P : Program} {w : World} {K : PySem.W.Frag} {mg : Str → Option Value} {base : Heap} {j : Nat} (h : Has P w K mg base CX j x ps sp) (l : j ≤ k) : Has P w K mg base CX k x ps sp :=
  let ⟨f, fd, F, a⟩ := h.ex
  ⟨⟨f, fd, F.mono l, a⟩⟩
theorem runG {pins : List (Addr × Obj)} {σ : L2.St} {H : Hp} {s : Shared} {Q : VK} {us : List Value} {vs : List V} (F : Fn X.prog X.w X.K X.mg X.base CX k f fd ps sp) (hr : Room k X.A) (hg : X.A.guards = some []) (hb : Binds X.K fd ps []) (hx : Passes CX X E)
    (I : Inv X pins σ H s) (r : Vals vs us) (h : sp (vs ++ []) H Q E) : wpAny (model X.prog X.w) X.A (call (.ref f) us) (EP X pins σ Q) X.xe s := by
  rw [List.append_nil] at h
  have hl : us.length = ps.length := r.length.symm.trans (F.len _ _ _ _ h)
  have bd := hb s us I.kIn (by rw [List.append_nil]; exact hl)
  rw [List.append_nil] at bd
  refine wpAny_call (codeAny_mono (F.run X.A X.stack s H ⟨us, []⟩ us vs Q E hr hg I.env0 bd r h) fun res s' hq => ?_)
  cases res with
  | error e => exact hx pins σ H s e s' I hq
  | ok fl =>
    cases fl with
    | ret u => exact I.after hq
    | next => exact hq.elim
    | brk => exact hq.elim
    | cont => exact hq.elim
/-- f(e, ..) -/
theorem pc (h : Has X.prog X.w X.K X.mg X.base CX k x ps sp) (hr : Room k X.A) (hgd : X.A.guards = some []) (hg : Gl X x) (hx : Passes CX X E) (ha : PA X (e :: es) t) (hdb : (x == ("__debug__" : Str)) = false := by decide)
    (he : starEach (e :: es) X.env = (false, eval e X.env) :: starEach es X.env := by rfl) (hpl : (backTo pos (starEach es X.env)).any (·.1) = false := by rfl) : PE X (.Call (.Name x p) (e :: es) [] pos) (tCall sp [] E t) := by
  obtain ⟨f, fd, F, hm, hk, hb⟩ := h.ex
  refine ⟨fun pins s σ H Q I hq => wpAny_Call_Name_kw (ld_glob I hg hm ?_ hdb)⟩
  refine PySem.W.callWith_K (h₀ := X.base) I.ok.mod.kin hk (thn (ha.run pos pins s σ H _ I hq) fun us s1 ⟨vs, H1, I1, r, q⟩ => ⟨I1.kIn, runG F hr hgd hb hx I1 r q⟩) he hpl
end

/-! ### a def by facts -/
section
variable {P : Program} {w : World} {K : PySem.W.Frag} {mg : Str → Option Value} {base : Heap}
/-- the slots at the start: the arguments' facts, then none -/
def startR (N : List Str) (As : List Fact) : Rho := As.map Slot.fact ++ List.replicate (N.length - As.length) Slot.no
theorem allOk_len {H : Hp} : ∀ {As : List Fact} {vs : List V}, AllOk As vs H → As.length = vs.length
  | [], [], _ => rfl
  | A :: As, v :: vs, h => by rw [List.length_cons, List.length_cons, allOk_len h.2]
  | [], _ :: _, h => h.elim
  | _ :: _, [], h => h.elim
theorem allOk_get {H : Hp} : ∀ {As : List Fact} {vs : List V} {i : Nat} {A : Fact}, AllOk As vs H → As[i]? = some A → ∃ v, vs[i]? = some v ∧ A.ok v H
  | [], _, _, _, _, e => by simp at e
  | A :: As, v :: vs, 0, B, h, e => by
    have e' := Option.some.inj e
    subst e'
    exact ⟨v, rfl, h.1⟩
  | A :: As, v :: vs, i + 1, B, h, e => by
    obtain ⟨u, q1, q2⟩ := allOk_get (i := i) h.2 e
    exact ⟨u, q1, q2⟩
  | _ :: _, [], _, _, h, _ => h.elim
theorem env_start {N : List Str} {As : List Fact} {vs : List V} {Hf H : Hp} (s : Same Hf H) (a : AllOk As vs Hf) : EnvD K (startR N As) (L2.start N vs) (fun b => if Hf b = none then H b else none) Hf H := by
  have hl := allOk_len a
  have inm : ∀ (i : Nat) (S : Slot), (startR N As)[i]? = some S → S = Slot.no ∨ ∃ A, As[i]? = some A ∧ S = Slot.fact A := by
    intro i S h
    unfold startR at h
    rw [List.getElem?_append] at h
    split at h
    · rw [List.getElem?_map] at h
      cases e : As[i]? with
      | none => rw [e] at h; cases h
      | some A => rw [e] at h; exact .inr ⟨A, rfl, (Option.some.inj h).symm⟩
    · exact .inl (List.eq_of_mem_replicate (List.mem_of_getElem? h))
  refine ⟨?_, s, fun b o h => ?_, fun b o h => ?_, fun i A h => ?_, fun i ds h => ?_, fun i j ds es p h => ?_⟩
  · unfold startR L2.start
    rw [List.length_append, List.length_append, List.length_map, List.length_map, List.length_replicate, List.length_replicate, hl]
  · by_cases q : Hf b = none
    · rw [if_pos q] at h; exact h
    · rw [if_neg q] at h; cases h
  · by_cases q : Hf b = none
    · exact q
    · rw [if_neg q] at h; cases h
  · rcases inm i _ h with z | ⟨B, hB, z⟩
    · cases z
    · cases z
      obtain ⟨v, q1, q2⟩ := allOk_get a hB
      refine ⟨v, ?_, q2⟩
      unfold L2.start
      rw [List.getElem?_append_left (by rw [List.length_map]; exact (List.getElem?_eq_some_iff.mp q1).1), List.getElem?_map, q1]
      rfl
  · rcases inm i _ h with z | ⟨B, _, z⟩ <;> cases z
  · rcases inm i _ h with z | ⟨B, _, z⟩ <;> cases z
/-- what a def's body leaves, as its caller sees it -/
theorem grow_start {Hf H Hf' H' : Hp} (sm : Same Hf H) (s1 : Sm Hf Hf') (s2 : Same Hf' H') (s3 : Same (fun b => if Hf b = none then H b else none) H') (dj : ∀ a o, (fun b => if Hf b = none then H b else none) a = some o → Hf' a = none) : Grow Hf H Hf' H' := by
  refine ⟨s1, fun b o h q => ?_, fun b e => ?_, s2, fun b o h n => dj b o ((if_pos n).trans h)⟩
  · by_cases n : Hf b = none
    · exact s3 b o ((if_pos n).trans h)
    · cases hh : Hf b with
      | none => exact absurd hh n
      | some u =>
        have := sm b u hh
        rw [h] at this
        cases this
        rcases q with q | q
        · exact absurd q n
        · exact s2 b o (s1.k b o hh q)
  · have n : Hf b = none := s1.n b (s2.free e)
    cases hh : H b with
    | none => rfl
    | some u =>
      have := s3 b u ((if_pos n).trans hh)
      rw [e] at this
      cases this
/-- THE RULE: the body's term, and its reading by facts -/
theorem fn_facts {x qual : Str} {st : Stmt} {f : Addr} {fd : FuncData} {N ps : List Str} {k : Nat} {τ : Type} {args : τ → List Fact} {pre : τ → Prop} {res : τ → Fact → Prop} (F : Fun K x qual st f fd) (S : FnScope N ps (defScope st)) (hm : mg x = some (.ref f))
    (hbd : Binds K fd ps []) (hlen : ∀ t, (args t).length = ps.length)
    (hbody : ∀ (cdv : Value) (A : Around) (outer : List Env) (s : Shared) (H : Hp) (E : XK), Room k (A.deeper (envOfC qual (defScope st) s.heap.objs.size f cdv)) → A.guards = some [] →
      ∃ t, PSs (cxOf CX0 P w K mg base N qual (defScope st) f cdv A outer s H E).nox (defBody st) t ∧ ∀ a : τ, pre a → SS K t (startR N (args a)) { nx := fun _ => res a (Is K ()), rt := res a }) :
    Has P w K mg base CX0 (k + 1) x ps (mkSp args pre res) := by
  obtain ⟨oc, od, kV, doc, pm, an, cdv, ct, osl, rfl, lk, hcd⟩ := F.ex
  refine ⟨⟨f, _, fn_body lk hcd S (fun vs H Q E ⟨t, Hf, s, a, _⟩ => ?_) fun A outer s H vs Q E hr hg ⟨a, Hf, sm, al, hp, q⟩ => ?_, hm, F.kp, hbd⟩⟩
  · rw [← allOk_len a]
    exact hlen t
  · obtain ⟨t, h1, h2⟩ := hbody cdv A outer s H E hr hg
    refine ⟨t, h1.nox, ?_⟩
    have e := env_start (K := K) (N := N) sm al
    refine h2 a hp { nx := fun _ H' => Q .non H', rt := Q } (start N vs) _ Hf H e (fun σ' Hf' H' ρ' s1 e1 z => ?_) (fun v Hf' H' B s1 s2 s3 dj b z => ?_) (fun _ _ _ _ _ _ z => z.elim) (fun _ _ _ _ _ _ z => z.elim)
    · exact q .non Hf' H' (Is K ()) (grow_start sm s1 e1.hf e1.ot e1.dj) Dp.non z
    · exact q v Hf' H' B (grow_start sm s1 s2 s3 dj) b z
end
end DL
/-! DLd2: a def by facts, told of its own object. -/
namespace DL
open PySem PySem.Spec PyProof.Rows L2
section
variable {P : Program} {w : World} {K : PySem.W.Frag} {mg : Str → Option Value} {base : Heap}
/-- .. that tells of the def's own object -/
theorem fn_factsC {x qual : Str} {st : Stmt} {f : Addr} {fd : FuncData} {N ps : List Str} {k : Nat} {τ : Type} {args : τ → List Fact} {pre : τ → Prop} {res : τ → Fact → Prop} (F : Fun K x qual st f fd) (S : FnScope N ps (defScope st)) (hm : mg x = some (.ref f))
    (hbd : Binds K fd ps []) (hlen : ∀ t, (args t).length = ps.length)
    (hbody : ∀ (cdv : Value), (∃ (oc : Value) (od : Option Addr) (osl : Array (Option Value)) (fd' : FuncData), K.lookup f = some ⟨oc, od, .func fd', osl⟩ ∧ fd'.code = cdv) → ∀ (A : Around) (outer : List Env) (s : Shared) (H : Hp) (E : XK), Room k (A.deeper (envOfC qual (defScope st) s.heap.objs.size f cdv)) → A.guards = some [] →
      ∃ t, PSs (cxOf CX0 P w K mg base N qual (defScope st) f cdv A outer s H E).nox (defBody st) t ∧ ∀ a : τ, pre a → SS K t (startR N (args a)) { nx := fun _ => res a (Is K ()), rt := res a }) :
    Has P w K mg base CX0 (k + 1) x ps (mkSp args pre res) := by
  obtain ⟨oc, od, kV, doc, pm, an, cdv, ct, osl, rfl, lk, hcd⟩ := F.ex
  refine ⟨⟨f, _, fn_body lk hcd S (fun vs H Q E ⟨t, Hf, s, a, _⟩ => ?_) fun A outer s H vs Q E hr hg ⟨a, Hf, sm, al, hp, q⟩ => ?_, hm, F.kp, hbd⟩⟩
  · rw [← allOk_len a]
    exact hlen t
  · obtain ⟨t, h1, h2⟩ := hbody cdv ⟨_, _, _, _, lk, rfl⟩ A outer s H E hr hg
    refine ⟨t, h1.nox, ?_⟩
    have e := env_start (K := K) (N := N) sm al
    refine h2 a hp { nx := fun _ H' => Q .non H', rt := Q } (start N vs) _ Hf H e (fun σ' Hf' H' ρ' s1 e1 z => ?_) (fun v Hf' H' B s1 s2 s3 dj b z => ?_) (fun _ _ _ _ _ _ z => z.elim) (fun _ _ _ _ _ _ z => z.elim)
    · exact q .non Hf' H' (Is K ()) (grow_start sm s1 e1.hf e1.ot e1.dj) Dp.non z
    · exact q v Hf' H' B (grow_start sm s1 s2 s3 dj) b z
end
end DL
/-! DLe: data of types: what == and < say of them. -/
namespace DL
open PySem PySem.Spec PyProof.Rows L2

/-- its encodings can be laid, not too deep -/
class Lay (α : Type) [Enc α] where
  d : Nat
  lay : ∀ x : α, (Enc.enc x).canLay0 = true
  dep : ∀ x : α, (Enc.enc x).depth ≤ d
/-- == of encodings is = -/
class EqvL (α : Type) [Enc α] where
  eqv : ∀ x y : α, PyData.eqv (Enc.enc x) (Enc.enc y) = true ↔ x = y
/-- the encodings can be compared -/
class Alk (α : Type) [Enc α] where
  alk : ∀ x y : α, PySem.W.alike (Enc.enc x) (Enc.enc y) = true
  nn : ∀ x : α, Enc.enc x ≠ PyData.none
theorem canAll {α : Type} [Enc α] [Lay α] : ∀ xs : List α, PyData.canLayAll0 (xs.map Enc.enc) = true
  | [] => by rw [List.map_nil, PyData.canLayAll0]
  | x :: xs => by rw [List.map_cons, PyData.canLayAll0, Lay.lay, canAll xs]; rfl
theorem depAll {α : Type} [Enc α] [Lay α] : ∀ xs : List α, PyData.depthAll (xs.map Enc.enc) ≤ Lay.d α
  | [] => by rw [List.map_nil, PyData.depthAll]; exact Nat.zero_le _
  | x :: xs => by
    rw [List.map_cons, PyData.depthAll]
    exact Nat.max_le.mpr ⟨Lay.dep x, depAll xs⟩
theorem eqvAll_iff {α : Type} [Enc α] [EqvL α] : ∀ xs ys : List α, PyData.eqvAll (xs.map Enc.enc) (ys.map Enc.enc) = true ↔ xs = ys
  | [], [] => by simp [PyData.eqvAll]
  | [], y :: ys => by simp [PyData.eqvAll]
  | x :: xs, [] => by simp [PyData.eqvAll]
  | x :: xs, y :: ys => by
    rw [List.map_cons, List.map_cons, PyData.eqvAll, Bool.and_eq_true, EqvL.eqv, eqvAll_iff xs ys, List.cons.injEq]
theorem alkAll {α : Type} [Enc α] [Alk α] : ∀ xs ys : List α, PySem.W.alikeAll (xs.map Enc.enc) (ys.map Enc.enc) = true
  | [], _ => by rw [List.map_nil, PySem.W.alikeAll]
  | x :: xs, [] => by simp [PySem.W.alikeAll]
  | x :: xs, y :: ys => by rw [List.map_cons, List.map_cons, PySem.W.alikeAll, Alk.alk, alkAll xs ys]; rfl

instance : Lay Int := ⟨0, fun x => by show (PyData.int x).canLay0 = true; rw [PyData.canLay0], fun x => by show (PyData.int x).depth ≤ 0; rw [PyData.depth]; exact Nat.le_refl _⟩
instance : Lay Nat := ⟨0, fun x => by show (PyData.int x).canLay0 = true; rw [PyData.canLay0], fun x => by show (PyData.int x).depth ≤ 0; rw [PyData.depth]; exact Nat.le_refl _⟩
instance : Lay Bool := ⟨0, fun x => by show (PyData.bool x).canLay0 = true; rw [PyData.canLay0], fun x => by show (PyData.bool x).depth ≤ 0; rw [PyData.depth]; exact Nat.le_refl _⟩
instance : Lay Unit := ⟨0, fun x => by show (PyData.none).canLay0 = true; rw [PyData.canLay0], fun x => by show (PyData.none).depth ≤ 0; rw [PyData.depth]; exact Nat.le_refl _⟩
instance {α : Type} [Enc α] [Lay α] : Lay (Option α) := ⟨Lay.d α, fun x => by
  cases x with
  | none => show (PyData.none).canLay0 = true; rw [PyData.canLay0]
  | some y => exact Lay.lay y, fun x => by
  cases x with
  | none => show (PyData.none).depth ≤ _; rw [PyData.depth]; exact Nat.zero_le _
  | some y => exact Lay.dep y⟩
instance {α : Type} [Enc α] [Lay α] : Lay (List α) := ⟨Lay.d α + 1, fun x => by show (PyData.tuple _).canLay0 = true; rw [PyData.canLay0]; exact canAll x, fun x => by
  show (PyData.tuple _).depth ≤ _
  rw [PyData.depth]
  exact Nat.succ_le_succ (depAll x)⟩
instance {α : Type} [Enc α] [Lay α] : Lay (PL α) := ⟨Lay.d α + 1, fun x => by show (PyData.list _).canLay0 = true; rw [PyData.canLay0]; exact canAll x.l, fun x => by
  show (PyData.list _).depth ≤ _
  rw [PyData.depth]
  exact Nat.succ_le_succ (depAll x.l)⟩
instance {α β : Type} [Enc α] [Lay α] [Enc β] [Lay β] : Lay (α × β) := ⟨max (Lay.d α) (Lay.d β) + 1, fun x => by
  show (PyData.tuple [Enc.enc x.1, Enc.enc x.2]).canLay0 = true
  rw [PyData.canLay0, PyData.canLayAll0, PyData.canLayAll0, PyData.canLayAll0, Lay.lay, Lay.lay]; rfl, fun x => by
  show (PyData.tuple [Enc.enc x.1, Enc.enc x.2]).depth ≤ _
  rw [PyData.depth, PyData.depthAll, PyData.depthAll, PyData.depthAll]
  have h1 := Lay.dep x.1
  have h2 := Lay.dep x.2
  omega⟩
instance : EqvL Int := ⟨fun x y => by show PyData.eqv (.int x) (.int y) = true ↔ _; rw [PyData.eqv]; exact beq_iff_eq⟩
instance : EqvL Nat := ⟨fun x y => by show PyData.eqv (.int x) (.int y) = true ↔ _; rw [PyData.eqv, beq_iff_eq]; omega⟩
instance : EqvL Bool := ⟨fun x y => by show PyData.eqv (.bool x) (.bool y) = true ↔ _; rw [PyData.eqv]; exact beq_iff_eq⟩
instance : EqvL Unit := ⟨fun x y => by show PyData.eqv .none .none = true ↔ _; rw [PyData.eqv]; simp⟩
instance {α : Type} [Enc α] [EqvL α] : EqvL (List α) := ⟨fun x y => by show PyData.eqv (.tuple _) (.tuple _) = true ↔ _; rw [PyData.eqv]; exact eqvAll_iff x y⟩
instance {α : Type} [Enc α] [EqvL α] : EqvL (PL α) := ⟨fun x y => by
  show PyData.eqv (.list _) (.list _) = true ↔ _
  rw [PyData.eqv, eqvAll_iff x.l y.l]
  cases x; cases y; simp⟩
instance {α β : Type} [Enc α] [EqvL α] [Enc β] [EqvL β] : EqvL (α × β) := ⟨fun x y => by
  show PyData.eqv (.tuple [Enc.enc x.1, Enc.enc x.2]) (.tuple [Enc.enc y.1, Enc.enc y.2]) = true ↔ _
  rw [PyData.eqv, PyData.eqvAll, PyData.eqvAll, PyData.eqvAll, Bool.and_eq_true, Bool.and_eq_true, EqvL.eqv, EqvL.eqv]
  cases x; cases y; simp⟩
/-- None or a tuple -/
instance {α : Type} [Enc α] [EqvL α] : EqvL (Option (List α)) := ⟨fun x y => by
  cases x with
  | none =>
    cases y with
    | none => show PyData.eqv .none .none = true ↔ _; rw [PyData.eqv]; simp
    | some y => show PyData.eqv .none (.tuple _) = true ↔ _; rw [PyData.eqv]; simp
  | some x =>
    cases y with
    | none => show PyData.eqv (.tuple _) .none = true ↔ _; rw [PyData.eqv]; simp
    | some y => rw [show (PyData.eqv (Enc.enc (some x)) (Enc.enc (some y)) = true ↔ some x = some y) ↔ (PyData.eqv (Enc.enc x) (Enc.enc y) = true ↔ x = y) from by rw [Option.some.injEq]; exact Iff.rfl]; exact EqvL.eqv x y⟩
instance : Alk Int := ⟨fun x y => by show PySem.W.alike (.int x) (.int y) = true; rw [PySem.W.alike], fun x h => by cases h⟩
instance : Alk Nat := ⟨fun x y => by show PySem.W.alike (.int x) (.int y) = true; rw [PySem.W.alike], fun x h => by cases h⟩
instance : Alk Bool := ⟨fun x y => by show PySem.W.alike (.bool x) (.bool y) = true; rw [PySem.W.alike], fun x h => by cases h⟩
instance {α : Type} [Enc α] [Alk α] : Alk (List α) := ⟨fun x y => by show PySem.W.alike (.tuple _) (.tuple _) = true; rw [PySem.W.alike]; exact alkAll x y, fun x h => by cases h⟩
instance {α β : Type} [Enc α] [Alk α] [Enc β] [Alk β] : Alk (α × β) := ⟨fun x y => by
  show PySem.W.alike (.tuple [Enc.enc x.1, Enc.enc x.2]) (.tuple [Enc.enc y.1, Enc.enc y.2]) = true
  rw [PySem.W.alike, PySem.W.alikeAll, PySem.W.alikeAll, PySem.W.alikeAll, Alk.alk, Alk.alk]; rfl, fun x h => by cases h⟩
theorem shp {α : Type} [Enc α] [Lay α] (x : α) (h : Lay.d α ≤ 64) : SeqAt.shaped (Enc.enc x) = true := by
  unfold SeqAt.shaped
  rw [Lay.lay, decide_eq_true (Nat.le_trans (Lay.dep x) h)]
  rfl
theorem eqv_dec {α : Type} [Enc α] [EqvL α] [DecidableEq α] (x y : α) : PyData.eqv (Enc.enc x) (Enc.enc y) = decide (x = y) := by
  by_cases h : x = y
  · rw [decide_eq_true h]; exact (EqvL.eqv x y).mpr h
  · rw [decide_eq_false h]
    cases e : PyData.eqv (Enc.enc x) (Enc.enc y) with
    | false => rfl
    | true => exact absurd ((EqvL.eqv x y).mp e) h
/-- x < y as Python says -/
def lt {α : Type} [Enc α] (x y : α) : Bool := PySem.W.dataLt (Enc.enc x) (Enc.enc y)
theorem lt_nat (x y : Nat) : lt x y = decide (x < y) := by
  show PySem.W.dataLt (.int x) (.int y) = _
  rw [PySem.W.dataLt_int]
  by_cases h : x < y
  · rw [decide_eq_true h, decide_eq_true (by omega)]
  · rw [decide_eq_false h, decide_eq_false (by omega)]

/-! ### raw rules over data -/
section
variable {X : Cx}
def rInT (K : PySem.W.Frag) : R2 := fun x y H Q => ∃ d ds, Dp K H x d ∧ Dp K H y (.tuple ds) ∧ SeqAt.shaped d = true ∧ SeqAt.shaped (.tuple ds) = true ∧ Q (.bl (ds.any fun z => PyData.eqv z d)) H
def rNotInT (K : PySem.W.Frag) : R2 := fun x y H Q => ∃ d ds, Dp K H x d ∧ Dp K H y (.tuple ds) ∧ SeqAt.shaped d = true ∧ SeqAt.shaped (.tuple ds) = true ∧ Q (.bl (!ds.any fun z => PyData.eqv z d)) H
theorem op_inT (hu : X.A.units + 65 < cLine) : OpR X (compareOp .In) (rInT X.K) := by
  intro pins s σ H x y v u Q I rx ry h
  obtain ⟨d, ds, hd, he, sd, se, q⟩ := h
  obtain ⟨as, r1⟩ := Dp.reads I d x v hd rx
  obtain ⟨bs, r2⟩ := Dp.reads I (.tuple ds) y u he ry
  exact SeqAt.in_tuple_reads r2 r1 (SeqAt.canLay_of_shaped se) (SeqAt.canLay_of_shaped sd) (room_in_shaped sd hu) ⟨.bl _, H, I, rfl, q⟩
theorem op_notInT (hu : X.A.units + 65 < cLine) : OpR X (compareOp .NotIn) (rNotInT X.K) := by
  intro pins s σ H x y v u Q I rx ry h
  obtain ⟨d, ds, hd, he, sd, se, q⟩ := h
  obtain ⟨as, r1⟩ := Dp.reads I d x v hd rx
  obtain ⟨bs, r2⟩ := Dp.reads I (.tuple ds) y u he ry
  exact SeqAt.notIn_tuple_reads r2 r1 (SeqAt.canLay_of_shaped se) (SeqAt.canLay_of_shaped sd) (room_in_shaped sd hu) ⟨.bl _, H, I, rfl, q⟩
/-- a < b of alike data -/
def rLtD (K : PySem.W.Frag) : R2 := fun x y H Q => ∃ d e, Dp K H x d ∧ Dp K H y e ∧ PySem.W.alike d e = true ∧ d ≠ .none ∧ d.depth ≤ 64 ∧ Q (.bl (PySem.W.dataLt d e)) H
theorem op_ltD (hu : X.A.units + 64 < cLine) : OpR X (compareOp .Lt) (rLtD X.K) := by
  intro pins s σ H x y v u Q I rx ry h
  obtain ⟨d, e, hd, he, al, nn, dp, q⟩ := h
  obtain ⟨as, r1⟩ := Dp.reads I d x v hd rx
  obtain ⟨bs, r2⟩ := Dp.reads I e y u he ry
  have hm := Nat.min_le_left d.depth e.depth
  exact PySem.W.rcLt_alike d e X.A s v u as bs r1 r2 al nn (by omega) X.prog X.w _ _ ⟨.bl _, H, I, rfl, q⟩
end
/-! ### the rules by facts -/
section
variable {K : PySem.W.Frag} {ρ : Rho} {𝒜 : Fact → Prop}
theorem r_eq {α : Type} [Enc α] [Lay α] [EqvL α] [DecidableEq α] {x y : α} (k : 𝒜 (Is K (decide (x = y)))) (h : Lay.d α ≤ 64 := by decide) : R (rEqD K) (Is K x) (Is K y) 𝒜 :=
  r_eqD (shp x h) (shp y h) (by rw [eqv_dec]; exact k)
theorem r_ne {α : Type} [Enc α] [Lay α] [EqvL α] [DecidableEq α] {x y : α} (k : 𝒜 (Is K (decide (x ≠ y)))) (h : Lay.d α ≤ 64 := by decide) : R (rNeD K) (Is K x) (Is K y) 𝒜 :=
  r_neD (shp x h) (shp y h) (by rw [eqv_dec]; rw [decide_not] at k; exact k)
/-- x in xs -/
def memB {α : Type} [DecidableEq α] (x : α) (xs : List α) : Bool := decide (x ∈ xs)
theorem memB_iff {α : Type} [DecidableEq α] {x : α} {xs : List α} : memB x xs = true ↔ x ∈ xs := decide_eq_true_iff
theorem memB_not {α : Type} [DecidableEq α] {x : α} {xs : List α} : memB x xs = false ↔ x ∉ xs := decide_eq_false_iff_not
theorem any_mem {α : Type} [Enc α] [EqvL α] [DecidableEq α] (x : α) (xs : List α) : ((xs.map Enc.enc).any fun z => PyData.eqv z (Enc.enc x)) = memB x xs := by
  by_cases h : x ∈ xs
  · rw [memB_iff.mpr h, List.any_map, List.any_eq_true]
    exact ⟨x, h, (EqvL.eqv x x).mpr rfl⟩
  · rw [memB_not.mpr h, List.any_map, List.any_eq_false]
    intro y hy e
    have e' := (EqvL.eqv y x).mp e
    subst e'
    exact h hy
theorem r_inT {α : Type} [Enc α] [Lay α] [EqvL α] [DecidableEq α] {x : α} {xs : List α} (k : 𝒜 (Is K (memB x xs))) (h : Lay.d α + 1 ≤ 64 := by decide) : R (rInT K) (Is K x) (Is K xs) 𝒜 := fun v w Hf H Q s a b q =>
  ⟨Enc.enc x, xs.map Enc.enc, dp_mono s _ _ a, dp_mono s _ _ b, shp x (Nat.le_of_succ_le h), shp xs h, q _ Hf H (Is K (memB x xs)) (Grow.refl s) (by rw [any_mem]; exact Dp.bl _) k⟩
theorem r_notInT {α : Type} [Enc α] [Lay α] [EqvL α] [DecidableEq α] {x : α} {xs : List α} (k : 𝒜 (Is K (!memB x xs))) (h : Lay.d α + 1 ≤ 64 := by decide) : R (rNotInT K) (Is K x) (Is K xs) 𝒜 := fun v w Hf H Q s a b q =>
  ⟨Enc.enc x, xs.map Enc.enc, dp_mono s _ _ a, dp_mono s _ _ b, shp x (Nat.le_of_succ_le h), shp xs h, q _ Hf H (Is K (!memB x xs)) (Grow.refl s) (by rw [any_mem]; exact Dp.bl _) k⟩
theorem r_inL {α : Type} [Enc α] [Lay α] [EqvL α] [DecidableEq α] {x : α} {xs : List α} (k : 𝒜 (Is K (memB x xs))) (h : Lay.d α + 1 ≤ 64 := by decide) : R (rInD K) (Is K x) (Is K (PL.mk xs)) 𝒜 := fun v w Hf H Q s a b q =>
  ⟨Enc.enc x, xs.map Enc.enc, dp_mono s _ _ a, dp_mono s _ _ b, shp x (Nat.le_of_succ_le h), shp (PL.mk xs) h, q _ Hf H (Is K (memB x xs)) (Grow.refl s) (by rw [any_mem]; exact Dp.bl _) k⟩
theorem r_lt {α : Type} [Enc α] [Lay α] [Alk α] {x y : α} (k : 𝒜 (Is K (lt x y))) (h : Lay.d α ≤ 64 := by decide) : R (rLtD K) (Is K x) (Is K y) 𝒜 := fun v w Hf H Q s a b q =>
  ⟨Enc.enc x, Enc.enc y, dp_mono s _ _ a, dp_mono s _ _ b, Alk.alk x y, Alk.nn x, Nat.le_trans (Lay.dep x) h, q _ Hf H (Is K (lt x y)) (Grow.refl s) (Dp.bl _) k⟩
end
end DL
/-! DLf: raw rules over data: sorted (tuples of which the first is empty, too), min, count, repr. -/
namespace DL
open PySem PySem.Spec PySem.W PySem.SeqAt PySem.Calls PyProof.Rows L2

/-! ### sorting tuples, the first of them empty -/
section
variable {prog : Program} {w : World} {A : Around} {E : Value → Shared → Prop} {s : Shared}
theorem call_tup_lt {Q : Value → Shared → Prop} {l b : Addr} {items items2 : Array Value} {e r : Nat → Bool} (hl : s.heap.IsTuple l items) (hb : s.heap.IsTuple b items2)
    (he : ∀ j (h1 : j < items.size) (h2 : j < items2.size), EqAt A.in1 s items[j] items2[j] (e j)) (hr : ∀ j (h1 : j < items.size) (h2 : j < items2.size), e j = false → RcLt A.in1 s items[j] items2[j] (r j))
    (h : Q (.bool (firstLt e r (decide (items.size < items2.size)) (List.range (min items.size items2.size)))) s) : wpAny (model prog w) A (call (.builtin "tuple.__lt__") [.ref l, .ref b]) Q E s := by
  obtain ⟨⟨c1, dd, d1, sl⟩, ho, hc, n, hd⟩ := id hl
  obtain ⟨⟨c2, dd2, d2, sl2⟩, ho2, hc2, n2, hd2⟩ := id hb
  simp only at hc hd hc2 hd2
  subst hc hd hc2 hd2
  exact call_meets F.slot_tuple_lt ⟨_, ho, rfl⟩ F.entry_tuple_lt (F.args_tuple_lt_2 _ _) (tuple_ltAt l b items items2 n n2 dd dd2 sl sl2 e r) ⟨ho, ho2, he, hr, h⟩
theorem oneLt_tup {xs ys : List PyData} {a b : Value} {as bs : List Addr} {Q : Bool → Shared → Prop} (ra : Reads s.heap a (.tuple xs) as) (rb : Reads s.heap b (.tuple ys) bs) (h : alike (.tuple xs) (.tuple ys) = true)
    (hu : A.units + min (PyData.tuple xs).depth (PyData.tuple ys).depth < cLine) (hq : Q (dataLt (.tuple xs) (.tuple ys)) s) : wpAny (model prog w) A (oneLt' true a b) Q E s := by
  have hal : alikeAll xs ys = true := by simpa [alike] using h
  cases ra with
  | @tuple l o vs n _ as₁ h1 h2 h3 h4 =>
    cases rb with
    | @tuple l' o' vs' n' _ bs₁ k1 k2 k3 k4 =>
      have n1 : vs.size = xs.length := by simpa using SeqAt.ReadsAll.length _ _ _ h4
      have n2 : vs'.size = ys.length := by simpa using SeqAt.ReadsAll.length _ _ _ k4
      rw [dataLt_tuple, ← firstLt_toks xs ys hal, ← n1, ← n2] at hq
      rw [oneLt'_eq]
      simp only [if_true]
      refine wpAny_bind (wpAny_cRoomFor (room_here hu) ?_)
      refine wpAny_bind (wpAny_callSpecialIfBound?_slot (T := "tuple") ⟨_, h1, h2⟩ F.slot_tuple_lt (call_tup_lt (e := pairEq xs ys) (r := fun j => dataLt (xs.getD j .none) (ys.getD j .none)) ⟨_, h1, h2, _, h3⟩ ⟨_, k1, k2, _, k3⟩ (fun j j1 j2 => ?_) (fun j j1 j2 hj => ?_) ?_))
      · have := eqAt_alikeAll xs ys A.in1 s vs.toList vs'.toList _ _ h4 k4 hal (room_in hu) j (by simpa using j1) (by simpa using j2)
        simpa using this
      · have := rcLt_alikeAll xs ys A.in1 s vs.toList vs'.toList _ _ h4 k4 hal (room_in hu) j (by simpa using j1) (by simpa using j2) hj
        simpa using this
      · exact wpAny_truthy_bool hq
/-- the head of each tuple, or none -/
def HeadsAre (h : Heap) : List Value → List (Option Value) → Prop
  | [], [] => True
  | v :: vs, f :: fs => (∃ a o xs n, v = .ref a ∧ h.get? a = some o ∧ o.cls = .type "tuple" ∧ o.data = .seq xs n ∧ xs[0]? = f) ∧ HeadsAre h vs fs
  | _, _ => False
theorem heads_go {M : Model} : ∀ (vs : List Value) (fs : List (Option Value)) {Q : List (Option Value) → Shared → Prop}, HeadsAre s.heap vs fs → Q fs s → wpAny M A (vs.mapM firstOfTuple') Q E s
  | [], [], _, _, h => by rw [List.mapM_nil]; exact wpAny_pure h
  | [], _ :: _, _, t, _ => t.elim
  | _ :: _, [], _, t, _ => t.elim
  | v :: vs, f :: fs, Q, t, h => by
    obtain ⟨⟨a, o, xs, n, rfl, ho, hc, hd, hf⟩, t⟩ := t
    rw [List.mapM_cons]
    refine wpAny_bind ?_
    rw [kas_first_eq]
    refine wpAny_bind (Looks.here (show Looks M s.heap (typeOf (.ref a)) o.cls from (Looks.ld ho).andThen .now) ?_)
    rw [hc, if_neg (by first | decide | simp)]
    refine wpAny_bind (listItems_at ho hd (wpAny_pure ?_))
    rw [hf]
    exact wpAny_bind (heads_go vs fs (Q := fun bs s' => wpAny M A (pure (f :: bs)) Q E s') t (wpAny_pure h))
theorem kind_tupE {M : Model} {v : Value} {vs : List Value} {fs : List (Option Value)} {Q : SortKind → Shared → Prop} (t : HeadsAre s.heap (v :: vs) (none :: fs)) (hT : ∀ u ∈ v :: vs, Looks M s.heap (typeOf u) (.type "tuple")) (h : Q oneType' s) :
    wpAny M A (keyKind' (v :: vs).toArray) Q E s := by
  rw [kat_kind_eq, List.mapM_toArray, map_eq_pure_bind]
  refine wpAny_bind (wpAny_bind (heads_go (v :: vs) _ t (wpAny_pure ?_)))
  rw [if_neg (by simp), if_neg (by simp)]
  rw [oneTypeOnly'_eq, List.mapM_toArray, map_eq_pure_bind]
  refine wpAny_bind (wpAny_bind (wpAny_bind (kas_mapM (r := Value.type "tuple") _ (fun u hu Q' hq => (hT u hu).here hq) (wpAny_pure ?_))))
  have hall : ((List.map (fun _ => Value.type "tuple") (v :: vs)).toArray.all fun x => x == Value.type "tuple") = true := by
    simp only [List.all_toArray, List.all_map, List.all_eq_true]
    intro _ _
    exact beq_self_eq_true _
  have h0 : (List.map (fun _ => Value.type "tuple") (v :: vs)).toArray[0]? = some (Value.type "tuple") := by simp
  rw [h0]
  simp only [hall, if_true]
  exact wpAny_pure (wpAny_pure h)
theorem heads_of {h : Heap} : ∀ {vs : List Value} {ds : List PyData}, EachIs (fun v d => ∃ as, Reads h v d as) vs ds → (∀ d, d ∈ ds → ∃ xs, d = .tuple xs) → ∃ fs, HeadsAre h vs fs ∧ ∀ xs r, ds = .tuple xs :: r → xs = [] → ∃ fr, fs = none :: fr
  | _, _, .nil, _ => ⟨[], True.intro, fun _ _ e => by cases e⟩
  | _, _, .cons (b := d) ⟨as, r⟩ t, ht => by
    obtain ⟨fs, h1, _⟩ := heads_of t fun d hd => ht d (List.mem_cons_of_mem _ hd)
    obtain ⟨zs, rfl⟩ := ht d (List.mem_cons_self ..)
    cases r with
    | @tuple a o xs n _ _ ho hc hd hr =>
      refine ⟨xs[0]? :: fs, ⟨⟨a, o, xs, n, rfl, ho, hc, hd, rfl⟩, h1⟩, fun ys r e ey => ⟨fs, ?_⟩⟩
      cases e
      subst ey
      cases q : xs.toList with
      | nil =>
        have : xs = #[] := Array.toList_eq_nil_iff.mp q
        rw [this]; rfl
      | cons f fr =>
        rw [q] at hr
        cases hr
/-- all are tuples, the first is empty -/
def TupE (ds : List PyData) : Prop := (∀ d, d ∈ ds → ∃ xs, d = .tuple xs) ∧ ∃ r, ds = .tuple [] :: r
theorem sortsE {vs : List Value} {ds : List PyData} (e : EachIs (fun v d => ∃ as, Reads s.heap v d as) vs ds) (hal : AllAlike ds) (ht : TupE ds) (hu : ∀ d, d ∈ ds → A.units + d.depth < cLine) : SortsAt prog w A s (dataKind s.heap ds) vs := by
  refine ⟨fun v hv => ?_, oneType', ?_, fun h2 E Q hq => ?_⟩
  · obtain ⟨d, hd, as, r⟩ := e.left v hv
    exact ⟨_, dataKind_some hal hd r⟩
  · intro E x y a b Q ha hb hq
    obtain ⟨d, as, hd, ra, rfl⟩ := dataKind_inv ha
    obtain ⟨d', as', hd', rb, rfl⟩ := dataKind_inv hb
    rw [keyLt'_oneType]
    have hm := Nat.min_le_left d.depth d'.depth
    have hh := hu d hd
    obtain ⟨xs, rfl⟩ := ht.1 d hd
    obtain ⟨ys, rfl⟩ := ht.1 d' hd'
    exact oneLt_tup ra rb (hal _ hd _ hd') (by omega) hq
  · obtain ⟨t1, r, rfl⟩ := ht
    obtain ⟨fs, h1, h3⟩ := heads_of e t1
    obtain ⟨fr, rfl⟩ := h3 [] r rfl rfl
    cases vs with
    | nil => exact h1.elim
    | cons v vs =>
      refine kind_tupE h1 (fun u hu' => ?_) hq
      obtain ⟨d, hd, as, rd⟩ := e.left u hu'
      obtain ⟨xs, rfl⟩ := t1 d hd
      exact looks_reads rd
/-- sorted(l) of such tuples -/
theorem sorted_E {l : Addr} {vs : List Value} {ds : List PyData} {R : Value → PyData → Prop} {Q : Value → Shared → Prop} (hl : s.heap.IsList l vs.toArray) (e : EachIs R vs ds) (er : EachIs (fun v b => ∃ as, Reads s.heap v b as) vs ds) (hal : AllAlike ds) (hk : TupE ds) (hL : ds.length ≤ sizeLine)
    (hu : ∀ b, b ∈ ds → A.units + 2 + b.depth < cLine) (h : ∀ out, out.length = ds.length → EachIs R out (ds.mergeSort (dataLe false id)) → Q (.ref (s.heap.objs.size + 1)) { s with heap := sortedAll s.heap vs (List.toArray out) }) :
    wpAny (model prog w) A (call (.builtin "sorted") [.ref l]) Q E s := by
  have er' : EachIs (fun v b => ∃ as, Reads (sortingHeap (copyHeap s.heap vs) (s.heap.objs.size + 1) vs) v b as) vs ds := er.mono fun _ _ ⟨as, r⟩ => ⟨as, PyProof.Rows.Reads.keeps (fun _ _ => sorting_copy_old) r⟩
  refine sorted_vals hl (sortsE (s := { s with heap := sortingHeap (copyHeap s.heap vs) (s.heap.objs.size + 1) vs }) er' hal hk hu) (by rw [e.length]; exact hL) (h _ (by rw [sortVals_length false rfl]; exact e.length) ?_)
  have q := sortVals_data (h' := sortingHeap (copyHeap s.heap vs) (s.heap.objs.size + 1) vs) (enc := fun d : PyData => d) false e er' (by rw [List.map_id']; exact hal)
  rw [List.map_id'] at q
  exact q
end

/-! ### the calls -/
section
variable {X : Cx}
theorem each_of {pins : List (Addr × Obj)} {σ : L2.St} {Hf H : Hp} {s : Shared} (I : Inv X pins σ H s) (sm : ∀ a o, Hf a = some o → H a = some o) : ∀ {xs : List V} {us : List Value} {ds : List PyData}, Vals xs us → DpAll X.K Hf xs ds →
    EachIs (fun v d => ∃ x, RelV x v ∧ Dp X.K Hf x d) us ds ∧ EachIs (fun v d => ∃ as, Reads s.heap v d as) us ds
  | _, _, _, .nil, h => by cases h; exact ⟨.nil, .nil⟩
  | _, _, _, .cons r t, h => by
    cases h with
    | cons h1 h2 =>
      obtain ⟨q1, q2⟩ := each_of I sm t h2
      exact ⟨.cons ⟨_, r, h1⟩ q1, .cons (Dp.reads I _ _ _ (dp_mono (Sm.of (H := Hf) (H' := H) sm) _ _ h1) r) q2⟩
theorem each_back {K : PySem.W.Frag} {H : Hp} : ∀ {us : List Value} {ds : List PyData}, EachIs (fun v d => ∃ x, RelV x v ∧ Dp K H x d) us ds → ∃ xs, Vals xs us ∧ DpAll K H xs ds
  | _, _, .nil => ⟨[], .nil, .nil⟩
  | _, _, .cons ⟨x, r, h⟩ t => let ⟨xs, h1, h2⟩ := each_back t; ⟨x :: xs, .cons r h1, .cons h h2⟩
def rSortD (K : PySem.W.Frag) : List V → Hp → VK → Prop := fun vs H Q => ∃ (Hf : Hp) (a : Addr) (xs : List V) (ds : List PyData), Same Hf H ∧ vs = [V.ref a] ∧ SqL K H a xs ∧ DpAll K Hf xs ds ∧ AllAlike ds ∧ (Sortable ds ∨ TupE ds) ∧ (∀ d ∈ ds, d.depth ≤ 60) ∧
  ∀ p ys, H p = none → DpAll K Hf ys (ds.mergeSort (dataLe false id)) → Q (.ref p) (upd H p (.lst ys))
theorem cr_sortD (hu : X.A.units + 64 < cLine) : CallR X (.builtin "sorted") (rSortD X.K) := by
  intro pins s σ H vs us Q I r h
  obtain ⟨Hf, a, xs, ds, sm, rfl, hs, hd, hal, hk, hdep, q⟩ := h
  obtain ⟨its, rv, hl, hz⟩ := I.list hs
  rw [Vals.ref1 r]
  obtain ⟨e1, e2⟩ := each_of I sm rv hd
  have hlen : ds.length ≤ sizeLine := by rw [← dpAll_len hd]; exact hz
  have fin : ∀ out, out.length = ds.length → EachIs (fun v d => ∃ x, RelV x v ∧ Dp X.K Hf x d) out (ds.mergeSort (dataLe false id)) → EP X pins σ Q (.ref (s.heap.objs.size + 1)) { s with heap := sortedAll s.heap its (List.toArray out) } := fun out hol he => by
    obtain ⟨ys, ry, dy⟩ := each_back he
    obtain ⟨ep, he'⟩ := sortedAll_at s.heap its out.toArray
    have hyl : ys.length ≤ sizeLine := by rw [ry.length, hol]; exact hlen
    exact ⟨.ref _, upd H (s.heap.objs.size + 1) (.lst ys), I.laid (t' := s.toks) (fun _ _ => sortedAll_old) (Nat.le_succ _) ⟨hyl, out, ep, ry, he'⟩, rfl, q _ ys (I.hok.fresh (Nat.le_succ _)) dy⟩
  have hu' : ∀ d, d ∈ ds → X.A.units + 2 + d.depth < cLine := fun d hd => by have := hdep d hd; omega
  rcases hk with hk | hk
  · have q1 := sorted_data (prog := X.prog) (w := X.w) (A := X.A) (E := X.xe) (s := s) (enc := fun d : PyData => d) (Q := EP X pins σ Q) hl.isList e1 e2 (by rw [List.map_id']; exact hal) (by rw [List.map_id']; exact hk) hlen hu' fin
    exact q1
  · exact sorted_E hl.isList e1 e2 hal hk hlen hu' fin
/-- min(l) -/
def rMinD (K : PySem.W.Frag) : List V → Hp → VK → Prop := fun vs H Q => ∃ (Hf : Hp) (a : Addr) (xs : List V) (d : PyData) (ds : List PyData), Same Hf H ∧ vs = [V.ref a] ∧ SqL K H a xs ∧ DpAll K Hf xs (d :: ds) ∧ AlikeAll (d :: ds) ∧ PyData.depthAll (d :: ds) ≤ 60 ∧
  ∀ x, Dp K Hf x (minD d ds) → Q x H
theorem minD_mem (d : PyData) : ∀ ds : List PyData, minD d ds ∈ d :: ds := by
  intro ds
  unfold minD
  have gen : ∀ (ds : List PyData) (d : PyData), ds.foldl (fun a y => if dataLt y a then y else a) d ∈ d :: ds := by
    intro ds
    induction ds with
    | nil => intro d; exact List.mem_cons_self ..
    | cons y ys ih =>
      intro d
      rw [List.foldl_cons]
      rcases List.mem_cons.mp (ih (if dataLt y d then y else d)) with z | z
      · rw [z]
        split
        · exact List.mem_cons_of_mem _ (List.mem_cons_self ..)
        · exact List.mem_cons_self ..
      · exact List.mem_cons_of_mem _ (List.mem_cons_of_mem _ z)
  exact gen ds d
theorem cr_minD (hc : X.calm = true) (hu : X.A.units + 64 < cLine) : CallR X (.builtin "min") (rMinD X.K) := by
  intro pins s σ H vs us Q I r h
  obtain ⟨Hf, a, xs, d, ds, sm, rfl, hs, hd, hal, hdep, q⟩ := h
  obtain ⟨its, rv, hl, hz⟩ := I.list hs
  rw [Vals.ref1 r]
  obtain ⟨as, rs⟩ := Dp.readsAll I _ _ _ (dpAll_mono sm _ _ hd) rv
  refine min_list_data (I.ok.hd hc) hl.isList rs hal (by omega) fun i v h' tk bs hv rd k => ?_
  have hv' : its[i]? = some v := by simpa using hv
  obtain ⟨x, hx, rx⟩ : ∃ x, xs[i]? = some x ∧ RelV x v := by
    have hi : i < its.length := (List.getElem?_eq_some_iff.mp hv').1
    have hi2 : i < xs.length := by rw [rv.length]; exact hi
    obtain ⟨u, h1, h2⟩ := rv.get (List.getElem?_eq_getElem hi2)
    rw [hv'] at h1
    cases h1
    exact ⟨xs[i], List.getElem?_eq_getElem hi2, h2⟩
  obtain ⟨e, he, de⟩ := dpAll_gets hd hx
  obtain ⟨es, re⟩ := Dp.reads I e x v (dp_mono sm _ _ de) rx
  have em : e = minD d ds := alike_unique _ _ _ _ _ (hal.1 _ (List.mem_of_getElem? he) _ (minD_mem d ds)) (PyProof.Rows.Reads.keeps k re) rd
  subst em
  exact ⟨x, H, I.kept k, rx, q x de⟩
/-- l.count(x) -/
def rCountD (K : PySem.W.Frag) : V → List V → Hp → VK → Prop := fun x zs H Q => ∃ (a : Addr) (y : V) (d : PyData) (ds : List PyData), x = V.ref a ∧ zs = [y] ∧ Dp K H (V.ref a) (.list ds) ∧ Dp K H y d ∧ PyData.plainAll ds = true ∧ d.plain = true ∧ d.depth ≤ 60 ∧
  Q (.int ((ds.countP fun z => PyData.eqv z d : Nat) : Int)) H
theorem mt_countD (hu : X.A.units + 64 < cLine) : MtR X "list.count" (rCountD X.K) := by
  intro pins s σ H x xs v us Q I rx rxs h
  obtain ⟨a, y, d, ds, rfl, rfl, hl, hy, p1, p2, hdep, q⟩ := h
  cases rx
  cases rxs with
  | cons ry rt =>
    rename_i uy ut
    cases rt
    obtain ⟨bs, r1⟩ := Dp.reads I d y uy hy ry
    cases hl with
    | lst hs ha =>
      obtain ⟨its, rv, hp, hlen⟩ := I.list hs
      obtain ⟨as, h4⟩ := Dp.readsAll I ds _ its ha rv
      have hm := Nat.min_le_right (PyData.depthAll ds) d.depth
      exact count_list_data hp.isList (show ReadsAll s.heap its.toArray.toList ds as from h4) r1 p1 p2 (by omega) ⟨.int _, H, I.tok _, ⟨_, rfl⟩, q⟩
/-- repr(x) of a tuple, a list -/
def rReprD (K : PySem.W.Frag) : List V → Hp → VK → Prop := fun vs H Q => ∃ (x : V) (d : PyData), vs = [x] ∧ Dp K H x d ∧ d.canLay0 = true ∧ d.depth ≤ 60 ∧ ((∃ b, d = .bool b) ∨ ((∃ ds, d = .tuple ds) ∧ d.showable = true ∧ d.shown.length ≤ sizeLine)) ∧ Q (.str d.shown) H
theorem cr_reprD (hg : X.A.guards = some []) (hu : X.A.units + 64 < cLine) : CallR X (.builtin "repr") (rReprD X.K) := by
  intro pins s σ H vs us Q I r h
  obtain ⟨x, d, rfl, hd, hlay, hdep, hk, q⟩ := h
  obtain ⟨u, rfl, rx⟩ := Vals.one r
  rcases hk with ⟨b, rfl⟩ | ⟨⟨ds, rfl⟩, hs, hz⟩
  · cases hd
    cases rx
    exact PySem.P.repr_of_bool ⟨.str _, H, I.tok _, ⟨_, rfl⟩, q⟩
  · obtain ⟨as, rd⟩ := Dp.reads I _ _ _ hd rx
    cases rd with
    | tuple h1 h2 h3 h4 =>
      exact repr_of_reads' (Reads.tuple h1 h2 h3 h4) hs (PyData.noDict_hsm (PyData.hasDict_of_canLay _ hlay)) hg (by omega) (fun _ _ e => e) (fun h' u tk hk => ⟨.str _, H, I.kept hk, ⟨_, rfl⟩, q⟩) hz
end
end DL
/-! DLg: calls, indices, slices, sums of sequences, zip, by facts. -/
namespace DL
open PySem PySem.Spec PySem.W PyProof.Rows L2

section
variable {K : PySem.W.Frag} {ρ : Rho} {𝒜 : Fact → Prop} {te : TE} {α β : Type} [Enc α] [Enc β]
theorem all1 {A : Fact} {vs : List V} {H : Hp} (h : AllOk [A] vs H) : ∃ v, vs = [v] ∧ A.ok v H := match vs, h with
  | [v], h => ⟨v, rfl, h.1⟩
theorem all2 {A B : Fact} {vs : List V} {H : Hp} (h : AllOk [A, B] vs H) : ∃ v w, vs = [v, w] ∧ A.ok v H ∧ B.ok w H := match vs, h with
  | [v, w], h => ⟨v, w, rfl, h.1, h.2.1⟩
/-! ### length -/
theorem c_lenT {xs : List α} (k : 𝒜 (Is K xs.length)) : C (fun us H Q => ∃ p ys, us = [.ref p] ∧ (SqL K H p ys ∨ SqT K H p ys) ∧ Q (.int ys.length) H) [Is K xs] 𝒜 := fun vs Hf H Q s as q => by
  obtain ⟨v, rfl, a⟩ := all1 as
  obtain ⟨p, ys, rfl, h1, h2⟩ := dp_tup a
  refine ⟨p, ys, rfl, .inr (same_t s h1), ?_⟩
  rw [dpAll_len h2, List.length_map]
  exact q _ Hf H (Is K xs.length) (Grow.refl s) (Dp.int _) k
theorem c_lenL {xs : List α} {A : Fact} (l : Le A (Is K (PL.mk xs))) (k : 𝒜 (Is K xs.length)) : C (fun us H Q => ∃ p ys, us = [.ref p] ∧ (SqL K H p ys ∨ SqT K H p ys) ∧ Q (.int ys.length) H) [A] 𝒜 := fun vs Hf H Q s as q => by
  obtain ⟨v, rfl, a⟩ := all1 as
  obtain ⟨p, ys, rfl, h1, h2⟩ := dp_lst (l _ _ a)
  refine ⟨p, ys, rfl, .inl (same_l s h1), ?_⟩
  rw [dpAll_len h2, List.length_map]
  exact q _ Hf H (Is K xs.length) (Grow.refl s) (Dp.int _) k
/-! ### places -/
theorem get_enc {xs : List α} {i : Nat} {x : α} (h : xs[i]? = some x) : (xs.map Enc.enc)[i]? = some (Enc.enc x) := by
  rw [List.getElem?_map, h]
  rfl
theorem r_ixT {xs : List α} {i : Nat} {x : α} (h : xs[i]? = some x) (k : 𝒜 (Is K x)) : R (rIx K) (Is K xs) (Is K i) 𝒜 := fun v w Hf H Q s a b q => by
  obtain ⟨p, ys, rfl, h1, h2⟩ := dp_tup a
  obtain rfl := dp_int b
  obtain ⟨u, h3, h4⟩ := dpAll_get h2 (get_enc h)
  exact .inr (.inl ⟨p, ys, _, u, rfl, rfl, same_t s h1, atI_nat h3, q u Hf H (Is K x) (Grow.refl s) h4 k⟩)
theorem r_ixL {xs : List α} {i : Nat} {x : α} {A : Fact} (l : Le A (Is K (PL.mk xs))) (h : xs[i]? = some x) (k : 𝒜 (Is K x)) : R (rIx K) A (Is K i) 𝒜 := fun v w Hf H Q s a b q => by
  obtain ⟨p, ys, rfl, h1, h2⟩ := dp_lst (l _ _ a)
  obtain rfl := dp_int b
  obtain ⟨u, h3, h4⟩ := dpAll_get h2 (get_enc h)
  exact .inl ⟨p, ys, _, u, rfl, rfl, same_l s h1, atI_nat h3, q u Hf H (Is K x) (Grow.refl s) h4 k⟩
theorem r_fst {p : α × β} (k : 𝒜 (Is K p.1)) : R (rIx K) (Is K p) (Is K (0 : Nat)) 𝒜 := fun v w Hf H Q s a b q => by
  obtain ⟨t, ys, rfl, h1, h2⟩ := dp_tup a
  obtain rfl := dp_int b
  obtain ⟨u, h3, h4⟩ := dpAll_get (i := 0) h2 rfl
  exact .inr (.inl ⟨t, ys, _, u, rfl, rfl, same_t s h1, atI_nat h3, q u Hf H (Is K p.1) (Grow.refl s) h4 k⟩)
theorem r_snd {p : α × β} (k : 𝒜 (Is K p.2)) : R (rIx K) (Is K p) (Is K (1 : Nat)) 𝒜 := fun v w Hf H Q s a b q => by
  obtain ⟨t, ys, rfl, h1, h2⟩ := dp_tup a
  obtain rfl := dp_int b
  obtain ⟨u, h3, h4⟩ := dpAll_get (i := 1) h2 rfl
  exact .inr (.inl ⟨t, ys, _, u, rfl, rfl, same_t s h1, atI_nat h3, q u Hf H (Is K p.2) (Grow.refl s) h4 k⟩)
/-! ### slices -/
theorem wo_none {𝒪 : Option Int → Prop} (k : 𝒪 none) : WO K tNoPart ρ 𝒪 := fun σ Ot Hf H Q e q => q none Hf H (Grow.refl e.hf) k
theorem wo_some {𝒪 : Option Int → Prop} (h : W K te ρ fun A => ∃ i : Int, Le A (Is K i) ∧ 𝒪 (some i)) : WO K (tPart te) ρ 𝒪 := fun σ Ot Hf H Q e q =>
  h σ Ot Hf H _ e fun v Hf' H' A g a ⟨i, l, k⟩ => ⟨i, dp_int (l _ _ a), q (some i) Hf' H' g k⟩
/-- a slice of a list of anything -/
def cutM {γ : Type} (xs : List γ) (lo hi : Option Int) : List γ := (xs.drop (HT.sIx xs.length 0 lo)).take (HT.sIx xs.length xs.length hi - HT.sIx xs.length 0 lo)
theorem cut_enc (xs : List α) (lo hi : Option Int) : cutM (xs.map Enc.enc) lo hi = (cutM xs lo hi).map Enc.enc := by
  unfold cutM
  rw [List.length_map, List.map_take, List.map_drop]
theorem cut_dp {H : Hp} {vs : List V} {ds : List PyData} {lo hi : Option Int} (h : DpAll K H vs ds) : DpAll K H (cutV vs lo hi) (cutM ds lo hi) := by
  unfold cutV cutM
  rw [dpAll_len h]
  exact dpAll_take _ (dpAll_drop _ h)
theorem cut_all {γ : Type} {xs : List γ} {lo hi : Option Int} (h : HT.sIx xs.length 0 lo = 0 ∧ HT.sIx xs.length xs.length hi = xs.length) : cutM xs lo hi = xs := by
  unfold cutM
  rw [h.1, h.2, Nat.sub_zero, List.drop_zero, List.take_length]
theorem cut_to {γ : Type} (xs : List γ) (n : Nat) : cutM xs none (some n) = xs.take n := by
  unfold cutM
  rw [HT.sIx_none, HT.sIx_nat, List.drop_zero, Nat.sub_zero]
  by_cases h : n ≤ xs.length
  · rw [Nat.min_eq_left h]
  · rw [Nat.min_eq_right (by omega), List.take_length, List.take_of_length_le (by omega)]
theorem cut_from {γ : Type} (xs : List γ) (n : Nat) : cutM xs (some n) none = xs.drop n := by
  unfold cutM
  rw [HT.sIx_none, HT.sIx_nat]
  by_cases h : n ≤ xs.length
  · rw [Nat.min_eq_left h, List.take_of_length_le (by rw [List.length_drop]; exact Nat.le_refl _)]
  · rw [Nat.min_eq_right (by omega), List.drop_of_length_le (Nat.le_refl _), List.drop_of_length_le (by omega), List.take_nil]
theorem cut_last {γ : Type} (xs : List γ) : cutM xs none (some (-1)) = xs.dropLast := by
  unfold cutM
  rw [HT.sIx_none, List.drop_zero, Nat.sub_zero, List.dropLast_eq_take]
  show List.take (if (-1 : Int) < 0 then ((-1 : Int) + (xs.length : Int)).toNat else min (-1 : Int).toNat xs.length) xs = _
  rw [if_pos (by decide), show ((-1 : Int) + (xs.length : Int)).toNat = xs.length - 1 from by omega]
theorem w_slT {r : V → Option Int → Option Int → Hp → VK → Prop} {tl th : TO} (hr : ∀ x lo hi H Q, rSlA K x lo hi H Q → r x lo hi H Q) (h : W K te ρ fun A => WO K tl ρ fun lo => WO K th ρ fun hi => ∃ xs : List α, Le A (Is K xs) ∧ 𝒜 (Is K (cutM xs lo hi))) : W K (tSl r te tl th) ρ 𝒜 := fun σ Ot Hf H Q e q =>
  h σ Ot Hf H _ e fun v H1f H1 A g1 a h1 => h1 σ Ot H1f H1 _ (e.grow g1) fun lo H2f H2 g2 h2 => h2 σ Ot H2f H2 _ (e.grow (g1.trans g2)) fun hi H3f H3 g3 ⟨xs, l, k⟩ => by
    obtain ⟨p, ys, rfl, d1, d2⟩ := dp_tup (l _ _ a)
    have g23 := g2.trans g3
    refine hr _ _ _ _ _ ⟨p, ys, rfl, same_t (g23.f.trans g23.sub) d1, fun hw => ?_, fun hw t ht => ?_⟩
    · refine q (.ref p) H3f H3 (Is K (cutM xs lo hi)) (g1.trans g23) (dp_mono g23.f _ _ (Dp.tup d1 ?_)) k
      have e1 : (cutM xs lo hi) = xs := cut_all (by rw [← List.length_map (f := Enc.enc), ← dpAll_len d2]; exact hw)
      rw [e1]
      exact d2
    · have g4 := Grow.new (o := .tup (cutV ys lo hi)) g3.sub ht
      refine q (.ref t) _ _ (Is K (cutM xs lo hi)) (g1.trans (g23.trans g4)) (Dp.tup (.inl (.inl upd_same)) ?_) k
      rw [← cut_enc]
      exact dpAll_mono (g23.trans g4).f _ _ (cut_dp d2)
theorem wn_slL {r : V → Option Int → Option Int → Hp → VK → Prop} {tl th : TO} {𝒟 : List PyData → Prop} (hr : ∀ x lo hi H Q, (∃ a xs, x = .ref a ∧ SqL K H a xs ∧ ∀ p, H p = none → Q (.ref p) (upd H p (.lst (cutV xs lo hi)))) → r x lo hi H Q) (h : W K te ρ fun A => WO K tl ρ fun lo => WO K th ρ fun hi => ∃ xs : List α, Le A (Is K (PL.mk xs)) ∧ 𝒟 ((cutM xs lo hi).map Enc.enc)) :
    WN K (tSl r te tl th) ρ 𝒟 := fun σ Ot Hf H Q e q =>
  h σ Ot Hf H _ e fun v H1f H1 A g1 a h1 => h1 σ Ot H1f H1 _ (e.grow g1) fun lo H2f H2 g2 h2 => h2 σ Ot H2f H2 _ (e.grow (g1.trans g2)) fun hi H3f H3 g3 ⟨xs, l, k⟩ => by
    obtain ⟨p, ys, rfl, d1, d2⟩ := dp_lst (l _ _ a)
    have g23 := g2.trans g3
    refine hr _ _ _ _ _ ⟨p, ys, rfl, same_l (g23.f.trans g23.sub) d1, fun t ht => ?_⟩
    have g13 := g1.trans g23
    have g4 := Grow.newO (o := .lst (cutV ys lo hi)) g3.sub ht
    refine q t _ _ _ _ (g13.trans g4) (g13.n _ ht) (none_back g3.sub ht) upd_same (dpAll_mono g23.f _ _ (cut_dp d2)) ?_
    rw [cut_enc]
    exact k
/-! ### sums of sequences -/
theorem r_catA {xs ys : List α} (hz : xs.length + ys.length ≤ sizeLine) (k : 𝒜 (Is K (xs ++ ys))) : R (rCatA K) (Is K xs) (Is K ys) 𝒜 := fun v w Hf H Q s a b q => by
  obtain ⟨p, us, rfl, a1, a2⟩ := dp_tup a
  obtain ⟨p2, ws, rfl, b1, b2⟩ := dp_tup b
  have ha : DpAll K Hf (us ++ ws) ((xs ++ ys).map Enc.enc) := by rw [List.map_append]; exact dpAll_app a2 b2
  refine ⟨p, p2, us, ws, rfl, rfl, same_t s a1, same_t s b1, ?_, fun hx => ?_, fun hx hy => ?_, fun hx hy t ht => ?_⟩
  · rw [dpAll_len a2, dpAll_len b2, List.length_map, List.length_map]; exact hz
  · subst hx
    exact q _ Hf H (Is K (xs ++ ys)) (Grow.refl s) (Dp.tup b1 ha) k
  · subst hy
    rw [List.append_nil] at ha
    exact q _ Hf H (Is K (xs ++ ys)) (Grow.refl s) (Dp.tup a1 ha) k
  · have g := Grow.new (o := .tup (us ++ ws)) s ht
    exact q _ _ _ (Is K (xs ++ ys)) g (Dp.tup (.inl (.inl upd_same)) (dpAll_mono g.f _ _ ha)) k
theorem rn_cat {ds es : List PyData} {𝒟 : List PyData → Prop} (hz : ds.length + es.length ≤ sizeLine) (k : 𝒟 (ds ++ es)) : RN K rCat (isL K ds) (isL K es) 𝒟 := fun v w Hf H Q s a b q => by
  obtain ⟨p, us, rfl, a1, a2⟩ := a
  obtain ⟨p2, ws, rfl, b1, b2⟩ := b
  refine ⟨p, p2, us, ws, rfl, rfl, s _ _ a1, s _ _ b1, by rw [dpAll_len a2, dpAll_len b2]; exact hz, fun t ht => ?_⟩
  have g := Grow.newO (o := .lst (us ++ ws)) s ht
  exact q t _ _ _ _ g ht (none_back s ht) upd_same (dpAll_app a2 b2) k
/-! ### calls over lists -/
theorem bools_of {H : Hp} : ∀ {bs : List Bool} {vs : List V}, DpAll K H vs (bs.map Enc.enc) → vs = bs.map V.bl
  | [], _, h => by cases h; rfl
  | b :: bs, _, h => by
    cases h with
    | cons h1 h2 => rw [dp_bl h1, bools_of h2]; rfl
theorem nats_of {H : Hp} : ∀ {ns : List Nat} {vs : List V}, DpAll K H vs (ns.map Enc.enc) → vs = (ns.map fun n : Nat => (n : Int)).map V.int
  | [], _, h => by cases h; rfl
  | b :: bs, _, h => by
    cases h with
    | cons h1 h2 => rw [dp_int h1, nats_of h2]; rfl
theorem c_all {bs : List Bool} {A : Fact} (l : Le A (Is K (PL.mk bs))) (k : 𝒜 (Is K (bs.all id))) : C (rAll K) [A] 𝒜 := fun vs Hf H Q s as q => by
  obtain ⟨v, rfl, a⟩ := all1 as
  obtain ⟨p, ys, rfl, h1, h2⟩ := dp_lst (l _ _ a)
  have e := bools_of h2
  subst e
  exact ⟨p, bs, rfl, same_l s h1, q _ Hf H (Is K (bs.all id)) (Grow.refl s) (Dp.bl _) k⟩
theorem c_any {bs : List Bool} {A : Fact} (l : Le A (Is K (PL.mk bs))) (k : 𝒜 (Is K (bs.any id))) : C (rAny K) [A] 𝒜 := fun vs Hf H Q s as q => by
  obtain ⟨v, rfl, a⟩ := all1 as
  obtain ⟨p, ys, rfl, h1, h2⟩ := dp_lst (l _ _ a)
  have e := bools_of h2
  subst e
  exact ⟨p, bs, rfl, same_l s h1, q _ Hf H (Is K (bs.any id)) (Grow.refl s) (Dp.bl _) k⟩
theorem sum_cast : ∀ ns : List Nat, (ns.map fun n : Nat => (n : Int)).sum = ((ns.sum : Nat) : Int)
  | [] => rfl
  | n :: ns => by rw [List.map_cons, List.sum_cons, List.sum_cons, sum_cast ns, Int.natCast_add]
theorem c_sumL {ns : List Nat} {A : Fact} (l : Le A (Is K (PL.mk ns))) (k : 𝒜 (Is K ns.sum)) : C (rSum K) [A] 𝒜 := fun vs Hf H Q s as q => by
  obtain ⟨v, rfl, a⟩ := all1 as
  obtain ⟨p, ys, rfl, h1, h2⟩ := dp_lst (l _ _ a)
  have e := nats_of h2
  subst e
  refine ⟨p, ns.map fun n : Nat => (n : Int), rfl, same_l s h1, ?_⟩
  rw [sum_cast]
  exact q _ Hf H (Is K ns.sum) (Grow.refl s) (Dp.int _) k
/-- tuple(list) -/
theorem c_tup {ds : List PyData} {A : Fact} (l : Le A (isD K (.list ds))) (k : 𝒜 (isD K (.tuple ds))) : C (fun xs H Q => ∃ p ys, xs = [.ref p] ∧ ((SqL K H p ys ∧ ∀ l, H l = none → Q (.ref l) (upd H l (.tup ys))) ∨ (SqT K H p ys ∧ Q (.ref p) H))) [A] 𝒜 := fun vs Hf H Q s as q => by
  obtain ⟨v, rfl, a⟩ := all1 as
  obtain ⟨p, ys, rfl, h1, h2⟩ := dp_lst (l _ _ a)
  refine ⟨p, ys, rfl, .inl ⟨same_l s h1, fun t ht => ?_⟩⟩
  have g := Grow.new (o := .tup ys) s ht
  exact q _ _ _ _ g (Dp.tup (.inl (.inl upd_same)) (dpAll_mono g.f _ _ h2)) k
/-- list(tuple), list(list) -/
theorem cn_listT {ds : List PyData} {𝒟 : List PyData → Prop} (k : 𝒟 ds) : CN K (fun xs H Q => ∃ p ys, xs = [.ref p] ∧ (SqL K H p ys ∨ SqT K H p ys) ∧ ∀ l, H l = none → Q (.ref l) (upd H l (.lst ys))) [isD K (.tuple ds)] 𝒟 := fun vs Hf H Q s as q => by
  obtain ⟨v, rfl, a⟩ := all1 as
  obtain ⟨p, ys, rfl, h1, h2⟩ := dp_tup a
  refine ⟨p, ys, rfl, .inr (same_t s h1), fun t ht => ?_⟩
  exact q t ys ds _ _ (Grow.newO (o := .lst ys) s ht) ht (none_back s ht) upd_same h2 k
theorem cn_listL {ds : List PyData} {A : Fact} {𝒟 : List PyData → Prop} (l : Le A (isD K (.list ds))) (k : 𝒟 ds) : CN K (fun xs H Q => ∃ p ys, xs = [.ref p] ∧ (SqL K H p ys ∨ SqT K H p ys) ∧ ∀ l, H l = none → Q (.ref l) (upd H l (.lst ys))) [A] 𝒟 := fun vs Hf H Q s as q => by
  obtain ⟨v, rfl, a⟩ := all1 as
  obtain ⟨p, ys, rfl, h1, h2⟩ := dp_lst (l _ _ a)
  refine ⟨p, ys, rfl, .inl (same_l s h1), fun t ht => ?_⟩
  exact q t ys ds _ _ (Grow.newO (o := .lst ys) s ht) ht (none_back s ht) upd_same h2 k
/-- sorted as Python sorts -/
def sortM {γ : Type} [Enc γ] (xs : List γ) : List γ := xs.mergeSort fun x y => !lt y x
theorem sort_enc {γ : Type} [Enc γ] (xs : List γ) : (xs.map Enc.enc).mergeSort (dataLe false id) = (sortM xs).map Enc.enc := by
  unfold sortM
  rw [List.map_mergeSort (s := dataLe false id)]
  intro a _ b _
  rfl
theorem cn_sort [Lay α] [Alk α] {xs : List α} {A : Fact} {𝒟 : List PyData → Prop} (l : Le A (Is K (PL.mk xs))) (hk : Sortable (xs.map Enc.enc) ∨ TupE (xs.map Enc.enc)) (k : 𝒟 ((sortM xs).map Enc.enc)) (hd : Lay.d α ≤ 60 := by decide) : CN K (rSortD K) [A] 𝒟 := fun vs Hf H Q s as q => by
  obtain ⟨v, rfl, a⟩ := all1 as
  obtain ⟨p, ys, rfl, h1, h2⟩ := dp_lst (l _ _ a)
  refine ⟨Hf, p, ys, xs.map Enc.enc, s, rfl, same_l s h1, h2, fun d hd' e he => ?_, hk, fun d hd' => ?_, fun t zs ht hz => ?_⟩
  · obtain ⟨x, _, rfl⟩ := List.mem_map.mp hd'
    obtain ⟨y, _, rfl⟩ := List.mem_map.mp he
    exact Alk.alk x y
  · obtain ⟨x, _, rfl⟩ := List.mem_map.mp hd'
    exact Nat.le_trans (Lay.dep x) hd
  · rw [sort_enc] at hz
    exact q t zs _ _ _ (Grow.newO (o := .lst zs) s ht) ht (none_back s ht) upd_same hz k
end
end DL
/-! DLh: numbers, isinstance, min, count, repr, zip, by facts. -/
namespace DL
open PySem PySem.Spec PySem.W PyProof.Rows L2

section
variable {K : PySem.W.Frag} {ρ : Rho} {𝒜 : Fact → Prop} {te : TE} {α β : Type} [Enc α] [Enc β]
/-! ### numbers -/
theorem r_add {n m : Nat} (k : 𝒜 (Is K (n + m))) : R (rI0 fun i j => .int (i + j)) (Is K n) (Is K m) 𝒜 := r_ii (D := Is K (n + m)) (fun _ => Dp.int _) k
theorem r_sub {n m : Nat} (h : m ≤ n) (k : 𝒜 (Is K (n - m))) : R (rI0 fun i j => .int (i - j)) (Is K n) (Is K m) 𝒜 := r_ii (D := Is K (n - m)) (fun _ => by
  show Dp K _ (.int ((n : Int) - (m : Int))) (.int ((n - m : Nat) : Int))
  rw [Int.ofNat_sub h]
  exact Dp.int _) k
theorem r_mod {n m : Nat} (h : 0 < m) (k : 𝒜 (Is K (n % m))) : R (rI (fun _ j => 0 < j) fun i j => .int (i % j)) (Is K n) (Is K m) 𝒜 := r_iic (D := Is K (n % m)) (by omega) (fun _ => by
  show Dp K _ (.int ((n : Int) % (m : Int))) (.int ((n % m : Nat) : Int))
  rw [← Int.natCast_emod]
  exact Dp.int _) k
theorem r_lti {i j : Int} (k : 𝒜 (Is K (decide (i < j)))) : R (rI0 fun i j => .bl (decide (i < j))) (Is K i) (Is K j) 𝒜 := r_cmp (g := fun i j => decide (i < j)) k
theorem r_gti {i j : Int} (k : 𝒜 (Is K (decide (j < i)))) : R (rI0 fun i j => .bl (decide (j < i))) (Is K i) (Is K j) 𝒜 := r_cmp (g := fun i j => decide (j < i)) k
theorem dec_cast {p q : Prop} [Decidable p] [Decidable q] (h : p ↔ q) : decide p = decide q := by
  by_cases hp : p
  · rw [decide_eq_true hp, decide_eq_true (h.mp hp)]
  · rw [decide_eq_false hp, decide_eq_false (fun z => hp (h.mpr z))]
theorem r_ltn {n m : Nat} (k : 𝒜 (Is K (decide (n < m)))) : R (rI0 fun i j => .bl (decide (i < j))) (Is K n) (Is K m) 𝒜 := r_cmp (g := fun i j => decide (i < j)) (by rw [dec_cast (q := n < m) (by omega)]; exact k)
theorem r_gtn {n m : Nat} (k : 𝒜 (Is K (decide (m < n)))) : R (rI0 fun i j => .bl (decide (j < i))) (Is K n) (Is K m) 𝒜 := r_cmp (g := fun i j => decide (j < i)) (by rw [dec_cast (q := m < n) (by omega)]; exact k)
theorem r_len {n m : Nat} (k : 𝒜 (Is K (decide (n ≤ m)))) : R (rI0 fun i j => .bl (decide (i ≤ j))) (Is K n) (Is K m) 𝒜 := r_cmp (g := fun i j => decide (i ≤ j)) (by rw [dec_cast (q := n ≤ m) (by omega)]; exact k)
theorem r_lei {i j : Int} (k : 𝒜 (Is K (decide (i ≤ j)))) : R (rI0 fun i j => .bl (decide (i ≤ j))) (Is K i) (Is K j) 𝒜 := r_cmp (g := fun i j => decide (i ≤ j)) k
theorem r_and {n m : Nat} (k : 𝒜 (Is K (n &&& m))) : R (rI0 fun i j => .int (Builtin.bitAnd i j)) (Is K n) (Is K m) 𝒜 := r_ii (D := Is K (n &&& m)) (fun _ => by
  show Dp K _ (.int (Builtin.bitAnd (n : Int) (m : Int))) (.int ((n &&& m : Nat) : Int))
  rw [bitAnd_pp (by omega) (by omega), Int.toNat_natCast, Int.toNat_natCast]
  exact Dp.int _) k
theorem r_shl {n m : Nat} (h1 : m ≤ 1000) (h2 : n < 2 ^ 60) (k : 𝒜 (Is K (n <<< m))) : R (rI CPow fun i j => .int (i * 2 ^ j.toNat)) (Is K n) (Is K m) 𝒜 := r_iic (D := Is K (n <<< m)) ⟨by omega, by omega, by
  rw [Int.natAbs_natCast]
  exact Nat.lt_trans h2 (by decide)⟩ (fun _ => by
  show Dp K _ (.int ((n : Int) * 2 ^ ((m : Int)).toNat)) (.int ((n <<< m : Nat) : Int))
  rw [Int.toNat_natCast, Nat.shiftLeft_eq, Int.natCast_mul, Int.natCast_pow]
  exact Dp.int _) k
theorem r_shr {n m : Nat} (k : 𝒜 (Is K (n >>> m))) : R (rI (fun _ j => 0 ≤ j) fun i j => .int (i / 2 ^ j.toNat)) (Is K n) (Is K m) 𝒜 := r_iic (D := Is K (n >>> m)) (by omega) (fun _ => by
  show Dp K _ (.int ((n : Int) / 2 ^ ((m : Int)).toNat)) (.int ((n >>> m : Nat) : Int))
  rw [Int.toNat_natCast, Nat.shiftRight_eq_div_pow, Int.natCast_ediv, Int.natCast_pow]
  exact Dp.int _) k
/-- == and != of texts -/
theorem r_eqS {x y : Str} (k : 𝒜 (Is K (decide (x = y)))) : R rEq (Is K x) (Is K y) 𝒜 := fun v w Hf H Q s a b q => by
  obtain rfl := dp_str a
  obtain rfl := dp_str b
  refine ⟨rfl, ?_⟩
  rw [dec_cast (p := V.str x = V.str y) (q := x = y) (by simp)]
  exact q _ Hf H (Is K (decide (x = y))) (Grow.refl s) (Dp.bl _) k
theorem r_neS {x y : Str} (k : 𝒜 (Is K (decide (x ≠ y)))) : R rNe (Is K x) (Is K y) 𝒜 := fun v w Hf H Q s a b q => by
  obtain rfl := dp_str a
  obtain rfl := dp_str b
  refine ⟨rfl, ?_⟩
  rw [dec_cast (p := V.str x = V.str y) (q := x = y) (by simp), ← decide_not]
  exact q _ Hf H (Is K (decide (x ≠ y))) (Grow.refl s) (Dp.bl _) k
/-- is, is not of truth values -/
theorem r_isB {a b : Bool} (k : 𝒜 (Is K (decide (a = b)))) : R (fun x y H Q => ∃ a b, x = .bl a ∧ y = .bl b ∧ Q (.bl (decide (a = b))) H) (Is K a) (Is K b) 𝒜 := fun v w Hf H Q s x y q =>
  ⟨a, b, dp_bl x, dp_bl y, q _ Hf H (Is K (decide (a = b))) (Grow.refl s) (Dp.bl _) k⟩
theorem r_isnotB {a b : Bool} (k : 𝒜 (Is K (!decide (a = b)))) : R (fun x y H Q => ∃ a b, x = .bl a ∧ y = .bl b ∧ Q (.bl (!decide (a = b))) H) (Is K a) (Is K b) 𝒜 := fun v w Hf H Q s x y q =>
  ⟨a, b, dp_bl x, dp_bl y, q _ Hf H (Is K (!decide (a = b))) (Grow.refl s) (Dp.bl _) k⟩
/-- abs, max, min, int(flag) -/
theorem c_abs {i : Int} (k : 𝒜 (Is K i.natAbs)) : C (fun xs H Q => ∃ i, xs = [.int i] ∧ Q (.int (if i < 0 then -i else i)) H) [Is K i] 𝒜 := fun vs Hf H Q s as q => by
  obtain ⟨v, rfl, a⟩ := all1 as
  obtain rfl := dp_int a
  refine ⟨i, rfl, ?_⟩
  rw [show (if i < 0 then -i else i) = ((i.natAbs : Nat) : Int) from by split <;> omega]
  exact q _ Hf H (Is K i.natAbs) (Grow.refl s) (Dp.int _) k
theorem c_max {i j : Int} (k : 𝒜 (Is K (max i j))) : C (fun xs H Q => ∃ i j, xs = [.int i, .int j] ∧ Q (.int (if j > i then j else i)) H) [Is K i, Is K j] 𝒜 := fun vs Hf H Q s as q => by
  obtain ⟨v, w, rfl, a, b⟩ := all2 as
  obtain rfl := dp_int a
  obtain rfl := dp_int b
  refine ⟨i, j, rfl, ?_⟩
  rw [show (if j > i then j else i) = max i j from by rw [Int.max_def]; split <;> split <;> omega]
  exact q _ Hf H (Is K (max i j)) (Grow.refl s) (Dp.int _) k
theorem c_min {i j : Int} (k : 𝒜 (Is K (min i j))) : C (fun xs H Q => ∃ i j, xs = [.int i, .int j] ∧ Q (.int (if j < i then j else i)) H) [Is K i, Is K j] 𝒜 := fun vs Hf H Q s as q => by
  obtain ⟨v, w, rfl, a, b⟩ := all2 as
  obtain rfl := dp_int a
  obtain rfl := dp_int b
  refine ⟨i, j, rfl, ?_⟩
  rw [show (if j < i then j else i) = min i j from by rw [Int.min_def]; split <;> split <;> omega]
  exact q _ Hf H (Is K (min i j)) (Grow.refl s) (Dp.int _) k
theorem c_intB {b : Bool} (k : 𝒜 (Is K (if b then 1 else 0 : Nat))) : C (fun xs H Q => (∃ i, xs = [.int i] ∧ Q (.int i) H) ∨ ∃ k, xs = [.bl k] ∧ Q (.int (if k then 1 else 0)) H) [Is K b] 𝒜 := fun vs Hf H Q s as q => by
  obtain ⟨v, rfl, a⟩ := all1 as
  obtain rfl := dp_bl a
  refine .inr ⟨b, rfl, ?_⟩
  have e : ((if b then 1 else 0 : Nat) : Int) = (if b then 1 else 0 : Int) := by cases b <;> rfl
  rw [← e]
  exact q _ Hf H (Is K (if b then 1 else 0 : Nat)) (Grow.refl s) (Dp.int _) k
/-! ### isinstance -/
theorem ty_tup {H : Hp} {v : V} {ds : List PyData} (h : Dp K H v (.tuple ds)) : TyX K H v (.type "tuple") := by
  cases h with
  | tup h1 h2 =>
    rcases h1 with (h | ⟨o, h⟩) | ⟨o, its, n, hk, hc, _⟩
    · exact .base (.tup h)
    · exact .fTuple h
    · exact .kTuple hk hc
theorem c_isi {A : Fact} {c : String} {t : String} {b : Bool} (ht : ∀ v H, A.ok v H → TyX K H v (.type t)) (hb : kitB t c = some b) (k : 𝒜 (Is K b)) : C (rIsi K) [A, isV (.ty c)] 𝒜 := fun vs Hf H Q s as q => by
  obtain ⟨v, w, rfl, a, e⟩ := all2 as
  have e' : w = .ty c := e
  subst e'
  exact ⟨v, .ty c, .type t, .type c, b, rfl, .ty c, ht v H (A.mono s a), kit_ty hb, q _ Hf H (Is K b) (Grow.refl s) (Dp.bl _) k⟩
theorem c_isiT {xs : List α} {c : String} {b : Bool} (hb : kitB "tuple" c = some b) (k : 𝒜 (Is K b)) : C (rIsi K) [Is K xs, isV (.ty c)] 𝒜 := c_isi (fun v H a => ty_tup a) hb k
theorem c_isiP {x : α × β} {c : String} {b : Bool} (hb : kitB "tuple" c = some b) (k : 𝒜 (Is K b)) : C (rIsi K) [Is K x, isV (.ty c)] 𝒜 := c_isi (fun v H a => ty_tup a) hb k
theorem c_isiN {n : Nat} {c : String} {b : Bool} (hb : kitB "int" c = some b) (k : 𝒜 (Is K b)) : C (rIsi K) [Is K n, isV (.ty c)] 𝒜 := c_isi (fun v H a => by
  obtain rfl := dp_int a
  exact .base (.int _)) hb k
/-! ### min, count, repr -/
/-- the first of the least -/
def minM {γ : Type} [Enc γ] (x : γ) (xs : List γ) : γ := xs.foldl (fun a y => if lt y a then y else a) x
theorem min_enc {γ : Type} [Enc γ] (x : γ) : ∀ xs : List γ, minD (Enc.enc x) (xs.map Enc.enc) = Enc.enc (minM x xs) := by
  intro xs
  unfold minD minM
  induction xs generalizing x with
  | nil => rfl
  | cons y ys ih =>
    rw [List.map_cons, List.foldl_cons, List.foldl_cons]
    rw [show (if dataLt (Enc.enc y) (Enc.enc x) = true then Enc.enc y else Enc.enc x) = Enc.enc (if lt y x = true then y else x) from by unfold lt; split <;> rfl]
    exact ih _
theorem c_minL [Lay α] [Alk α] {x : α} {xs : List α} {A : Fact} (l : Le A (Is K (PL.mk (x :: xs)))) (k : 𝒜 (Is K (minM x xs))) (hd : Lay.d α ≤ 60 := by decide) : C (rMinD K) [A] 𝒜 := fun vs Hf H Q s as q => by
  obtain ⟨v, rfl, a⟩ := all1 as
  obtain ⟨p, ys, rfl, h1, h2⟩ := dp_lst (l _ _ a)
  refine ⟨Hf, p, ys, Enc.enc x, xs.map Enc.enc, s, rfl, same_l s h1, h2, ⟨fun d h e h' => ?_, fun d h => ?_⟩, ?_, fun u hu => ?_⟩
  · rw [← List.map_cons] at h h'
    obtain ⟨y, _, rfl⟩ := List.mem_map.mp h
    obtain ⟨z, _, rfl⟩ := List.mem_map.mp h'
    exact Alk.alk y z
  · rw [← List.map_cons] at h
    obtain ⟨y, _, rfl⟩ := List.mem_map.mp h
    exact Alk.nn y
  · rw [← List.map_cons]
    exact Nat.le_trans (depAll (x :: xs)) hd
  · rw [min_enc] at hu
    exact q u Hf H (Is K (minM x xs)) (Grow.refl s) hu k
theorem countP_enc [EqvL α] [DecidableEq α] (x : α) : ∀ xs : List α, ((xs.map Enc.enc).countP fun z => PyData.eqv z (Enc.enc x)) = xs.count x := by
  intro xs
  induction xs with
  | nil => rfl
  | cons y ys ih =>
    rw [List.map_cons, List.countP_cons, List.count_cons, ih, eqv_dec]
    by_cases h : y = x
    · rw [if_pos (by simpa using h), if_pos (by simpa using h)]
    · rw [if_neg (by simpa using h), if_neg (by simpa using h)]
/-- xs.count(x) -/
theorem w_count [Lay α] [EqvL α] [DecidableEq α] {ta : TA} {t0 : TE} (h : W K t0 ρ fun A => ∃ xs : List α, Le A (IsL K xs) ∧ WA K ta ρ fun As => ∃ (B : Fact) (x : α), As = [B] ∧ Le B (Is K x) ∧ PyData.plainAll (xs.map Enc.enc) = true ∧ (Enc.enc x).plain = true ∧ 𝒜 (Is K (xs.count x)))
    (hd : Lay.d α ≤ 60 := by decide) : W K (tBM K "list" (rCountD K) t0 ta) ρ 𝒜 := fun σ Ot Hf H Q e q =>
  h σ Ot Hf H _ e fun v H1f H1 A g1 a ⟨xs, l, h1⟩ => by
    obtain ⟨p, ys, rfl, k1, k2⟩ := l _ _ a
    refine ⟨.inl ⟨rfl, ys, .inl (.inl (g1.sub _ _ k1))⟩, h1 σ Ot H1f H1 _ (e.grow g1) fun vs H2f H2 As g2 as ⟨B, x, eq, l2, p1, p2, k⟩ => ?_⟩
    subst eq
    obtain ⟨w, rfl, b⟩ := all1 as
    refine ⟨p, w, Enc.enc x, xs.map Enc.enc, rfl, rfl, Dp.lst (.inl (.inl (g2.hl (g1.sub _ _ k1)))) (dpAll_mono (g2.f.trans g2.sub) _ _ k2), dp_mono g2.sub _ _ (l2 _ _ b), p1, p2, Nat.le_trans (Lay.dep x) hd, ?_⟩
    rw [countP_enc]
    exact q _ H2f H2 (Is K (xs.count x)) (g1.trans g2) (Dp.int _) k
theorem c_reprB {b : Bool} (k : 𝒜 (Is K (Enc.enc b).shown)) : C (rReprD K) [Is K b] 𝒜 := fun vs Hf H Q s as q => by
  obtain ⟨v, rfl, a⟩ := all1 as
  exact ⟨v, Enc.enc b, rfl, dp_mono s _ _ a, Lay.lay b, Nat.le_trans (Lay.dep b) (by decide), .inl ⟨b, rfl⟩, q _ Hf H (Is K (Enc.enc b).shown) (Grow.refl s) (Dp.str _) k⟩
theorem c_reprD [Lay α] {x : α} (ht : ∃ ds, Enc.enc x = .tuple ds) (hs : (Enc.enc x).showable = true) (hz : (Enc.enc x).shown.length ≤ sizeLine) (k : 𝒜 (Is K (Enc.enc x).shown)) (hd : Lay.d α ≤ 60 := by decide) : C (rReprD K) [Is K x] 𝒜 := fun vs Hf H Q s as q => by
  obtain ⟨v, rfl, a⟩ := all1 as
  exact ⟨v, Enc.enc x, rfl, dp_mono s _ _ a, Lay.lay x, Nat.le_trans (Lay.dep x) hd, .inr ⟨ht, hs, hz⟩, q _ Hf H (Is K (Enc.enc x).shown) (Grow.refl s) (Dp.str _) k⟩
/-! ### zip -/
theorem zip_dp {H : Hp} {xs : List α} {ys : List β} {us ws : List V} {i : Nat} {u w : V} (h1 : DpAll K H us (xs.map Enc.enc)) (h2 : DpAll K H ws (ys.map Enc.enc)) (e1 : us[i]? = some u) (e2 : ws[i]? = some w) :
    ∃ x y, (xs.zip ys)[i]? = some (x, y) ∧ Dp K H u (Enc.enc x) ∧ Dp K H w (Enc.enc y) := by
  obtain ⟨d, q1, d1⟩ := dpAll_gets h1 e1
  obtain ⟨e, q2, d2⟩ := dpAll_gets h2 e2
  obtain ⟨x, hx, rfl⟩ := get_map q1
  obtain ⟨y, hy, rfl⟩ := get_map q2
  exact ⟨x, y, by rw [List.getElem?_zip_eq_some]; exact ⟨hx, hy⟩, d1, d2⟩
/-- the two known lists, tuples of a zip -/
theorem wx_zipL {ta : TA} {k : List (α × β) → Prop} (h : WA K ta ρ fun As => ∃ (A B : Fact) (xs : List α) (ys : List β), As = [A, B] ∧ Le A (Is K (PL.mk xs)) ∧ Le B (Is K (PL.mk ys)) ∧ xs.length ≤ sizeLine ∧ k (xs.zip ys)) : WX K (RZ.iZipA K ta) ρ (fun p : α × β => Is K p) k := fun σ Ot Hf H Rr e q =>
  h σ Ot Hf H _ e fun vs H1f H1 As g1 as ⟨A, B, xs, ys, eq, la, lb, hz, hk⟩ => by
    subst eq
    obtain ⟨v, w, rfl, a, b⟩ := all2 as
    obtain ⟨p, us, rfl, a1, a2⟩ := dp_lst (la _ _ a)
    obtain ⟨p2, ws, rfl, b1, b2⟩ := dp_lst (lb _ _ b)
    have lu : us.length = xs.length := by rw [dpAll_len a2, List.length_map]
    have lw : ws.length = ys.length := by rw [dpAll_len b2, List.length_map]
    refine ⟨p, p2, us, ws, rfl, .inl ⟨same_l g1.sub a1, same_l g1.sub b1, q _ H1f H1 (xs.zip ys).length (fun i F => ∃ x, (xs.zip ys)[i]? = some x ∧ F = Is K x) g1 ⟨fun H2 => SqL K H2 p us ∧ SqL K H2 p2 ws, fun H2 s => ⟨same_l s a1, same_l s b1⟩, fun i H2 hi z => ?_, fun H2 z => ?_, fun i Hf2 H2 x H3 hi s s2 y => ?_⟩
      ⟨xs.zip ys, rfl, Nat.le_trans (by rw [List.length_zip]; exact Nat.min_le_left _ _) hz, fun i F hi ⟨x, hx, eF⟩ => ⟨x, hx, Le.of_eq eF⟩, hk⟩⟩⟩
    · rw [List.length_zip] at hi
      have i1 : i < us.length := by omega
      have i2 : i < ws.length := by omega
      exact ⟨us, ws, _, _, z.1, z.2, List.getElem?_eq_getElem i1, List.getElem?_eq_getElem i2⟩
    · refine ⟨us, ws, z.1, z.2, ?_⟩
      rw [List.length_zip]
      omega
    · obtain ⟨T, x1, x2, rfl, nT, rfl, f1, f2⟩ := y
      obtain ⟨x, y, hxy, d1, d2⟩ := zip_dp a2 b2 (f1 us (same_l (s.trans s2) a1)) (f2 ws (same_l (s.trans s2) b1))
      have g := Grow.new (o := .tup [x1, x2]) s2 nT
      exact ⟨_, Is K (x, y), g, Dp.tup (.inl (.inl upd_same)) (.cons (dp_mono (s.trans g.f) _ _ d1) (.cons (dp_mono (s.trans g.f) _ _ d2) .nil)), _, hxy, rfl⟩
theorem wx_zipT {ta : TA} {k : List (α × β) → Prop} (h : WA K ta ρ fun As => ∃ (xs : List α) (ys : List β), As = [Is K xs, Is K ys] ∧ xs.length ≤ sizeLine ∧ k (xs.zip ys)) : WX K (RZ.iZipA K ta) ρ (fun p : α × β => Is K p) k := fun σ Ot Hf H Rr e q =>
  h σ Ot Hf H _ e fun vs H1f H1 As g1 as ⟨xs, ys, eq, hz, hk⟩ => by
    subst eq
    obtain ⟨v, w, rfl, a, b⟩ := all2 as
    obtain ⟨p, us, rfl, a1, a2⟩ := dp_tup a
    obtain ⟨p2, ws, rfl, b1, b2⟩ := dp_tup b
    have lu : us.length = xs.length := by rw [dpAll_len a2, List.length_map]
    have lw : ws.length = ys.length := by rw [dpAll_len b2, List.length_map]
    refine ⟨p, p2, us, ws, rfl, .inr ⟨same_t g1.sub a1, same_t g1.sub b1, q _ H1f H1 (xs.zip ys).length (fun i F => ∃ x, (xs.zip ys)[i]? = some x ∧ F = Is K x) g1 ⟨fun H2 => SqT K H2 p us ∧ SqT K H2 p2 ws, fun H2 s => ⟨same_t s a1, same_t s b1⟩, fun i H2 hi z => ?_, fun H2 z => ?_, fun i Hf2 H2 x H3 hi s s2 y => ?_⟩
      ⟨xs.zip ys, rfl, Nat.le_trans (by rw [List.length_zip]; exact Nat.min_le_left _ _) hz, fun i F hi ⟨x, hx, eF⟩ => ⟨x, hx, Le.of_eq eF⟩, hk⟩⟩⟩
    · rw [List.length_zip] at hi
      have i1 : i < us.length := by omega
      have i2 : i < ws.length := by omega
      exact ⟨us, ws, _, _, z.1, z.2, List.getElem?_eq_getElem i1, List.getElem?_eq_getElem i2⟩
    · refine ⟨us, ws, z.1, z.2, ?_⟩
      rw [List.length_zip]
      omega
    · obtain ⟨T, x1, x2, rfl, nT, rfl, f1, f2⟩ := y
      obtain ⟨x, y, hxy, d1, d2⟩ := zip_dp a2 b2 (f1 us (same_t (s.trans s2) a1)) (f2 ws (same_t (s.trans s2) b1))
      have g := Grow.new (o := .tup [x1, x2]) s2 nT
      exact ⟨_, Is K (x, y), g, Dp.tup (.inl (.inl upd_same)) (.cons (dp_mono (s.trans g.f) _ _ d1) (.cons (dp_mono (s.trans g.f) _ _ d2) .nil)), _, hxy, rfl⟩
end
end DL
namespace DL
open PySem PySem.Spec PySem.W PyProof.Rows L2
/-! ### readings by name -/
abbrev rLenA (K : PySem.W.Frag) : List V → Hp → VK → Prop := fun us H Q => ∃ p ys, us = [.ref p] ∧ (SqL K H p ys ∨ SqT K H p ys) ∧ Q (.int ys.length) H
abbrev rTupA (K : PySem.W.Frag) : List V → Hp → VK → Prop := fun xs H Q => ∃ p ys, xs = [.ref p] ∧ ((SqL K H p ys ∧ ∀ l, H l = none → Q (.ref l) (upd H l (.tup ys))) ∨ (SqT K H p ys ∧ Q (.ref p) H))
abbrev rListA (K : PySem.W.Frag) : List V → Hp → VK → Prop := fun xs H Q => ∃ p ys, xs = [.ref p] ∧ (SqL K H p ys ∨ SqT K H p ys) ∧ ∀ l, H l = none → Q (.ref l) (upd H l (.lst ys))
abbrev rAbsA : List V → Hp → VK → Prop := fun xs H Q => ∃ i, xs = [.int i] ∧ Q (.int (if i < 0 then -i else i)) H
abbrev rMaxA : List V → Hp → VK → Prop := fun xs H Q => ∃ i j, xs = [.int i, .int j] ∧ Q (.int (if j > i then j else i)) H
abbrev rMinA : List V → Hp → VK → Prop := fun xs H Q => ∃ i j, xs = [.int i, .int j] ∧ Q (.int (if j < i then j else i)) H
abbrev rIntA : List V → Hp → VK → Prop := fun xs H Q => (∃ i, xs = [.int i] ∧ Q (.int i) H) ∨ ∃ k, xs = [.bl k] ∧ Q (.int (if k then 1 else 0)) H
abbrev rIsBl : R2 := fun x y H Q => ∃ a b, x = .bl a ∧ y = .bl b ∧ Q (.bl (decide (a = b))) H
abbrev rIsNotBl : R2 := fun x y H Q => ∃ a b, x = .bl a ∧ y = .bl b ∧ Q (.bl (!decide (a = b))) H
abbrev rSlL (K : PySem.W.Frag) : V → Option Int → Option Int → Hp → VK → Prop := fun x lo hi H Q => ∃ a xs, x = .ref a ∧ SqL K H a xs ∧ ∀ p, H p = none → Q (.ref p) (upd H p (.lst (cutV xs lo hi)))
abbrev rSlLA (K : PySem.W.Frag) : V → Option Int → Option Int → Hp → VK → Prop := fun x lo hi H Q => rSlL K x lo hi H Q ∨ rSlA K x lo hi H Q
end DL
/-! DLk: comprehensions of any kind, any number of clauses: the turn of a clause by what it leaves to do (its leaf). -/
namespace DL
open PySem PySem.Spec PyProof.Rows L2

/-- the turn of a clause that is not async: the leaf is what is done with an item -/
def clauseTurn (tg iter : Expr) (ifs : List Expr) (it : Value) (env : Env) (leaf : Sem PySem.Fin → Sem PySem.Fin) (c : Code) : Sem PySem.Fin := do
  standAt iter.pos
  match ← pyNext it with
  | none => pure (.done .next)
  | some v =>
    letOwnedTupleGo tg it v
    assign tg env v
    let mut ok := true
    for c in ifs do
      if ok then ok ← isTrue c env (eval c env)
    if ok then leaf (again c) else again c
/-- the clause k of e -/
structure Clause (e : Expr) (k : Nat) (tg iter : Expr) (ifs : List Expr) (leaf : Addr → Env → Sem PySem.Fin → Sem PySem.Fin) : Prop where
  turn : ∀ (it : Value) (D : Addr) (env : Env), compTurn e k it (.ref D) env = clauseTurn tg iter ifs it env (leaf D env) (.compLoop e k it (.ref D) env)
  at_ : ∃ g, (clausesOf e)[k]? = some g ∧ g.is_async = 0 ∧ g.iter = iter
  under : ∀ (A : Around) (it acc : Value) (env : Env), A.under (.compLoop e k it acc env) = A ∧ A.under (.compStart e k it acc env) = A
  den : ∀ (P : Program) (w : World) (it acc : Value) (env : Env), (model P w).den (.compLoop e k it acc env) = ((compTurn e k it acc env).onRaise fun x => do noteFrame x env; theTreesLotGoes x) ∧
    (model P w).den (.compStart e k it acc env) = ((compStart e k it acc env).onRaise fun x => do noteFrame x env; standAt theWindowsPlace)
/-- what is done with an item where a further clause follows -/
def nextLeaf (e : Expr) (k : Nat) (iter : Expr) (D : Addr) (env : Env) (cont : Sem PySem.Fin) : Sem PySem.Fin := do
  let x ← eval iter env
  standAt iter.pos
  let x ← foldedSetIterable iter env x
  let _ ← runOwn (.compStart e k (← holding [x] (pyIter x)) (.ref D) env) env
  cont

section
variable {prog : Program} {w : World} {A : Around} {R : Result → Shared → Prop} {s : Shared} {e tg iter : Expr} {ifs : List Expr} {k : Nat} {leaf : Addr → Env → Sem PySem.Fin → Sem PySem.Fin} {it : Value} {D : Addr} {env : Env}
theorem clause_loop (c : Clause e k tg iter ifs leaf) (I : Nat → Shared → Prop)
    (turn : ∀ n s, I n s → wpAny (model prog w) A (pyNext it) (fun r s₁ => match r with
      | none => R (.ok .next) s₁
      | some v => wpAny (model prog w) A (letOwnedTupleGo tg it v) (fun _ s₂ => wpAny (model prog w) A (assign tg env v) (fun _ s₃ =>
          wpAny (model prog w) A (forIn ifs true fun c r => if r = true then do let ok ← isTrue c env (eval c env); pure (ForInStep.yield ok) else pure (ForInStep.yield r)) (fun ok s₄ =>
            if ok = true then ∀ (cont : Sem PySem.Fin) (Qc : PySem.Fin → Shared → Prop), (∀ s₅, (∃ m, m < n ∧ I m s₅) → wpAny (model prog w) A cont Qc (notedBy (model prog w) A env fun e s' => R (.error e) s') s₅) → wpAny (model prog w) A (leaf D env cont) Qc (notedBy (model prog w) A env fun e s' => R (.error e) s') s₄
            else ∃ m, m < n ∧ I m s₄) (notedBy (model prog w) A env fun e s' => R (.error e) s') s₃) (notedBy (model prog w) A env fun e s' => R (.error e) s') s₂) (notedBy (model prog w) A env fun e s' => R (.error e) s') s₁) (notedBy (model prog w) A env fun e s' => R (.error e) s') s)
    (n : Nat) (h : I n s) : codeAny (model prog w) A (.compLoop e k it (.ref D) env) R s := by
  refine codeAny_loop rfl I (fun n s hI => ?_) n h
  rw [(c.under A it (.ref D) env).1, (c.den prog w it (.ref D) env).1]
  refine wpAny_noted ?_
  rw [c.turn]
  unfold clauseTurn
  refine wpAny_bind (wpAny_standAt (wpAny_bind (wpAny_mono (turn n s hI) (fun r s₁ h₁ => ?_) fun _ _ h' => h')))
  cases r with
  | none => exact wpAny_pure h₁
  | some v =>
    refine wpAny_bind (wpAny_mono h₁ (fun _ s₂ h₂ => ?_) fun _ _ h' => h')
    refine wpAny_bind (wpAny_mono h₂ (fun _ s₃ h₃ => wpAny_bind (wpAny_mono h₃ (fun ok s₄ h₄ => ?_) fun _ _ h' => h')) fun _ _ h' => h')
    cases ok with
    | false => exact wpAny_pure ⟨rfl, h₄⟩
    | true => exact h₄ _ _ fun s₅ h₅ => wpAny_pure ⟨rfl, h₅⟩
theorem clause_start (c : Clause e k tg iter ifs leaf) (h0 : codeAny (model prog w) A (.compLoop e k it (.ref D) env) R s)
    (h : wpAny (model prog w) A (pyIter it) (fun it' s' => codeAny (model prog w) A (.compLoop e k it' (.ref D) env) R s') (notedBy (model prog w) A env fun x s' => R (.error x) s') s) :
    codeAny (model prog w) A (.compStart e k it (.ref D) env) R s := by
  obtain ⟨g, hg, ha, hi⟩ := c.at_
  refine codeAny_of_tree ?_
  rw [(c.under A it (.ref D) env).2, (c.den prog w it (.ref D) env).2]
  refine wpAny_notedAt ?_
  unfold compStart
  rw [hg]
  simp only [Option.elim_some, ha]
  show wpAny _ _ (ask >>= _) _ _ s
  refine wpAny_bind (wpAny_askSetting (wpAny_ite ?_))
  split
  · first
      | exact wpAny_bind (wpAny_pure (wpAny_pure (And.intro rfl h0)))
      | exact wpAny_pure (And.intro rfl h0)
  · first
      | exact wpAny_bind (wpAny_rule (wpAny_bind (wpAny_standAt (wpAny_bind (wpAny_mono h (fun it' s' h' => wpAny_pure (And.intro rfl h')) fun _ _ x => x)))))
      | (refine wpAny_bind (wpAny_rule ?_); show wpAny _ _ (standAt g.iter.pos >>= _) _ _ s; exact wpAny_bind (wpAny_standAt (wpAny_bind (wpAny_mono h (fun it' s' h' => wpAny_pure (And.intro rfl h')) fun _ _ x => x))))
end

/-! ### what a leaf does, over the abstract heap -/
abbrev LfR := L2.St → Addr → Hp → (Hp → Prop) → Prop
section
variable {X : Cx}
/-- in the block's context Y: from what Lf asks, the leaf reaches Nx, the slots outside vs as they were -/
def LeafOk (Y : Cx) (leaf : Addr → Env → Sem PySem.Fin → Sem PySem.Fin) (vs : List Nat) (Lf : LfR) : Prop := ∀ (pins : List (Addr × Obj)) (σ : L2.St) (H : Hp) (s : Shared) (D : Addr) (Nx : Hp → Prop), Inv Y pins σ H s → Lf σ D H Nx →
  ∀ (cont : Sem PySem.Fin) (Qc : PySem.Fin → Shared → Prop) (Ec : Value → Shared → Prop), (∀ (s' : Shared) (σ' : L2.St) (H' : Hp), Inv Y pins σ' H' s' → wipe σ' vs = wipe σ vs → Nx H' → wpAny (model Y.prog Y.w) Y.A cont Qc Ec s') →
  wpAny (model Y.prog Y.w) Y.A (leaf D Y.env cont) Qc Ec s
/-- the first clause's reading: o0, the new object -/
def tGc (o0 : Addr → HO) (wi : TI) (g : TG) (tt : TT) (Lf : LfR) (vs : List Nat) : TE := fun σ H Q => wi σ H fun J H1 => ∀ D, H1 D = none → ∃ W : Nat → Nat → Hp → Prop, (∃ m, W 0 m (upd H1 D (o0 D))) ∧ ∀ i m H, W i m H →
  (J.stop i H ∧ Q (.ref D) H) ∨ (J.go i H ∧ ∃ Nx : Hp → Prop, (∀ H', Nx H' → ∃ m', m' < m ∧ W (i + 1) m' H') ∧ ∀ x H', J.yld i H x H' → g x (wipe σ vs) H' fun σ2 H2 => wipe σ2 vs = wipe σ vs ∧ tt σ2 H2 fun b H3 =>
    if b = true then Lf σ2 D H3 Nx else Nx H3)
/-- a further clause's reading, as a leaf -/
def LfIn (wi : TI) (g : TG) (tt : TT) (Lf : LfR) (vs : List Nat) : LfR := fun σ D H Nx => wi σ H fun J H1 => ∃ W : Nat → Nat → Hp → Prop, (∃ m, W 0 m H1) ∧ ∀ i m H, W i m H →
  (J.stop i H ∧ Nx H) ∨ (J.go i H ∧ ∃ Nx1 : Hp → Prop, (∀ H', Nx1 H' → ∃ m', m' < m ∧ W (i + 1) m' H') ∧ ∀ x H', J.yld i H x H' → g x (wipe σ vs) H' fun σ2 H2 => wipe σ2 vs = wipe σ vs ∧ tt σ2 H2 fun b H3 =>
    if b = true then Lf σ2 D H3 Nx1 else Nx1 H3)
theorem wipe_sub {σ : L2.St} {vs ws : List Nat} (h : ∀ j ∈ ws, j ∈ vs) : wipe (wipe σ ws) vs = wipe σ vs := by
  induction ws with
  | nil => rfl
  | cons v ws ih =>
    have hv : v ∈ vs := h v List.mem_cons_self
    have e1 := ih fun j hj => h j (List.mem_cons_of_mem _ hj)
    rw [← e1]
    show wipe ((wipe σ ws).set v none) vs = wipe (wipe σ ws) vs
    generalize wipe σ ws = τ
    clear e1 ih h
    induction vs with
    | nil => cases hv
    | cons u vs ih =>
      show (wipe (τ.set v none) vs).set u none = (wipe τ vs).set u none
      by_cases hm : v ∈ vs
      · rw [ih hm]
      · have e : v = u := by
          rcases List.mem_cons.mp hv with z | z
          · exact z
          · exact absurd z hm
        subst e
        clear ih hv
        have sw : wipe (τ.set v none) vs = (wipe τ vs).set v none := by
          induction vs with
          | nil => rfl
          | cons x vs ih2 =>
            show (wipe (τ.set v none) vs).set x none = ((wipe τ vs).set x none).set v none
            rw [ih2 fun z => hm (List.mem_cons_of_mem _ z)]
            exact List.set_comm _ _ fun z => hm (by rw [z]; exact List.mem_cons_self)
        rw [sw, List.set_set]
theorem wipe_from {σ τ : L2.St} {vs ws : List Nat} (h : ∀ j ∈ ws, j ∈ vs) (e : wipe σ ws = wipe τ ws) : wipe σ vs = wipe τ vs := by
  rw [← wipe_sub (σ := σ) h, e, wipe_sub h]
theorem wipe_kept {σ σ' : L2.St} {vs : List Nat} (e : wipe σ' vs = wipe σ vs) : (wipe σ vs).length = σ'.length ∧ ∀ (j : Nat) v, (wipe σ vs)[j]? = some (some v) → σ'[j]? = some (some v) :=
  ⟨by rw [← e, wipe_length], fun j v h => by rw [← e] at h; exact (wipe_some h).1⟩
/-- one loop of a clause, in the block's context -/
theorem clause_run {Y : Cx} {e tg iter : Expr} {ifs : List Expr} {k : Nat} {leaf : Addr → Env → Sem PySem.Fin → Sem PySem.Fin} (c : Clause e k tg iter ifs leaf) (hc : Y.calm = true) (hxe : Y.xe = fun _ _ => False) {g : TG} {tt : TT} {Lf : LfR} {vs : List Nat} {pins : List (Addr × Obj)} {σ : L2.St} {H : Hp} {s : Shared} {it D : Addr} {fp : List Addr} {tn : Nat → Heap → Prop} {J : It} {R : Result → Shared → Prop}
    (pg : PG Y tg g) (pt : PTs Y ifs tt) (hl : LeafOk Y leaf vs Lf) (T : Turn Y.prog Y.w Y.K tg J fp it tn) (I : Inv Y pins (wipe σ vs) H s) (st : tn 0 s.heap) (hst : ∀ (H' : Hp) (s' : Shared), Inv Y pins (wipe σ vs) H' s' → (∀ b ∈ fp, H' b = none) → ∀ b ∈ fp, FpOk Y pins H' b) (hn : ∀ b ∈ fp, H b = none)
    (Nx : Hp → Prop) (W : Nat → Nat → Hp → Prop) (m0 : Nat) (w0 : W 0 m0 H)
    (turn : ∀ i m H, W i m H → (J.stop i H ∧ Nx H) ∨ (J.go i H ∧ ∃ Nx1 : Hp → Prop, (∀ H', Nx1 H' → ∃ m', m' < m ∧ W (i + 1) m' H') ∧ ∀ x H', J.yld i H x H' → g x (wipe σ vs) H' fun σ2 H2 => wipe σ2 vs = wipe σ vs ∧ tt σ2 H2 fun b H3 => if b = true then Lf σ2 D H3 Nx1 else Nx1 H3))
    (fin : ∀ (H' : Hp) (s' : Shared), Inv Y pins (wipe σ vs) H' s' → Nx H' → R (.ok .next) s') :
    codeAny (model Y.prog Y.w) Y.A (.compStart e k (.ref it) (.ref D) Y.env) R s := by
  have loop : codeAny (model Y.prog Y.w) Y.A (.compLoop e k (.ref it) (.ref D) Y.env) R s := by
    refine clause_loop c (fun n s' => ∃ i H', Inv Y pins (wipe σ vs) H' s' ∧ tn i s'.heap ∧ (∀ b ∈ fp, H' b = none) ∧ W i n H') ?_ m0 ⟨0, H, I, st, hn, w0⟩
    rintro n s5 ⟨i, H5, I5, st5, n5, w5⟩
    rcases turn i n H5 w5 with ⟨stop, qq⟩ | ⟨go, Nx1, hNx, step⟩
    · refine thnF (T.done Y rfl rfl rfl hc i pins s5 _ H5 (fun _ _ => False) I5 (hst _ _ I5 n5) st5 stop) fun r s6 ⟨hr, I6⟩ => ?_
      subst hr
      exact fin H5 s6 I6 qq
    · refine thnF (T.item Y rfl rfl rfl hc i pins s5 _ H5 (fun _ _ => False) I5 (hst _ _ I5 n5) st5 go) fun r s6 ⟨u, hr, h6⟩ => ?_
      subst hr
      refine thnF h6 fun _ s7 ⟨x, H7, I7, r7, y7, st7, n7⟩ => ?_
      have I7' := I7.pinned (hst _ _ I7 n7) (T.obj _ _ st7)
      have pgr := pg.run _ s7 _ H7 x u _ I7' r7 (step x H7 y7)
      rw [hxe] at pgr
      refine thnF pgr fun _ s8 ⟨σ8, H8, I8, hw8, q8⟩ => ?_
      have ptr := pt.run _ s8 σ8 H8 _ I8 q8
      rw [hxe] at ptr
      refine thnF ptr fun b s9 ⟨H9, I9, q9⟩ => ?_
      have back : ∀ {σ9 : L2.St} {s' : Shared} {H' : Hp}, Inv Y (pins ++ pinsAt fp s7.heap) σ9 H' s' → wipe σ9 vs = wipe σ8 vs → Nx1 H' → ∃ m, m < n ∧ ∃ i H', Inv Y pins (wipe σ vs) H' s' ∧ tn i s'.heap ∧ (∀ b ∈ fp, H' b = none) ∧ W i m H' := fun {σ9 s' H'} I' hw nx => by
        obtain ⟨m', hm, w'⟩ := hNx H' nx
        have still : ∀ b ∈ fp, ∀ o, s7.heap.get? b = some o → s'.heap.get? b = some o ∧ H' b = none := fun b hb o eo =>
          let z := I'.pin (b, o) (List.mem_append_right _ (List.mem_append_right _ (mem_pinsAt hb eo)))
          ⟨z.1, z.2.1⟩
        obtain ⟨k1, k2⟩ := wipe_kept (hw.trans hw8)
        refine ⟨m', hm, i + 1, H', I'.unpinned.weak k1 k2, T.keep _ _ _ st7 fun b hb o eo => (still b hb o eo).1, fun b hb => ?_, w'⟩
        obtain ⟨o, eo, _⟩ := T.obj _ _ st7 b hb
        exact (still b hb o eo).2
      cases b with
      | false =>
        simp only [Bool.false_eq_true, if_false] at q9 ⊢
        exact back I9 rfl q9
      | true =>
        simp only [if_true] at q9 ⊢
        exact fun cont Qc hk => hl _ σ8 H9 s9 D Nx1 I9 q9 cont Qc _ fun s10 σ10 H10 I10 hw10 nx => hk s10 (back I10 hw10 nx)
  exact clause_start c loop (T.self Y.A 0 _ _ _ st loop)
/-- a further clause is a leaf -/
theorem leaf_in {Y : Cx} {e tg iter : Expr} {ifs : List Expr} {k : Nat} {leaf : Addr → Env → Sem PySem.Fin → Sem PySem.Fin} (c : Clause e k tg iter ifs leaf) (hc : Y.calm = true) (hxe : Y.xe = fun _ _ => False) {wi : TI} {g : TG} {tt : TT} {Lf : LfR} {vs vs1 : List Nat} (hv : ∀ i ∈ vs1, i ∈ vs)
    (pi : PI Y tg iter wi) (pg : PG Y tg g) (pt : PTs Y ifs tt) (hl : LeafOk Y leaf vs1 Lf) (hs : ∀ x, foldedSetIterable iter Y.env x = pure x) : LeafOk Y (nextLeaf e k iter) vs (LfIn wi g tt Lf vs1) := by
  intro pins σ H s D Nx I h cont Qc Ec hk
  unfold nextLeaf
  have pir := pi.run _ s σ H _ I h
  rw [hxe] at pir
  refine wpAny_bind (thnF pir fun xv s1 hx => ?_)
  refine wpAny_bind (wpAny_standAt (wpAny_bind (wpAny_of_eq (hs xv) (wpAny_bind (wpAny_holding (thnF hx fun itv s2 h2 => ?_))))))
  obtain ⟨it, fp, tn, J, H2, e1, I2, T, st2, f2, W, ⟨m0, w0⟩, turn⟩ := h2
  subst e1
  refine wpAny_bind (wpAny_runOwn ?_)
  rw [Around.mark_none]
  refine codeAny_mono (R := fun r s' => match r with
    | .ok _ => ∃ σ' H', Inv Y pins σ' H' s' ∧ wipe σ' vs = wipe σ vs ∧ Nx H'
    | .error _ => False) (clause_run c hc hxe pg pt hl T (I2.weak (wipe_length _ _) (fun j v ev => (wipe_some ev).1)) st2 (fun H' s' I' hn b hb => ⟨hn b hb, (f2 b hb).2⟩) (fun b hb => (f2 b hb).1) Nx W m0 w0 turn fun H' s' I' nx => ⟨_, H', I', wipe_sub hv, nx⟩) fun r s' hr => ?_
  cases r with
  | ok f =>
    obtain ⟨σ', H', I', hw, nx⟩ := hr
    exact hk s' σ' H' I' hw nx
  | error x => exact hr.elim
/-- the whole: e makes a new object by mk -/
theorem pe_gc {e tg iter : Expr} {ifs : List Expr} {scope : Scope} {own : List (PySem.Str × Nat)} {pos' : Pos} {gs : List Comprehension} {mk : Sem Value} {ob : Obj} {o0 : Addr → HO} {leaf : Addr → Env → Sem PySem.Fin → Sem PySem.Fin} {wi : TI} {g : TG} {tt : TT} {Lf : LfR} (c : Clause e 0 tg iter ifs leaf) (hc : X.calm = true) (hN : X.N.Nodup)
    (hev : eval e X.env = comprehension e scope X.env pos' mk false (eval iter X.env) none)
    (hcl : clausesOf e = ⟨tg, iter, ifs, 0⟩ :: gs)
    (hmk : ∀ (s : Shared) (Q : Value → Shared → Prop), Q (.ref s.heap.objs.size) { s with heap := s.heap.push ob } → wpAny (model X.prog X.w) X.A mk Q X.xe s)
    (hob : ∀ (H : Hp) (h : Heap), sysModules < h.objs.size → ObjOk X.prog X.w (upd H h.objs.size (o0 h.objs.size)) (h.push ob) h.objs.size (o0 h.objs.size))
    (hi : PI X tg iter wi) (ok : BlkOk X.N X.env.scope scope own)
    (hg : ∀ (s : Shared) (H : Hp) (C : Addr) (cl : List (PySem.Str × Addr)) (fp : List Addr), PG (X.blk s H scope (compEnvC scope cl C X.env) fp) tg g) (ht : ∀ (s : Shared) (H : Hp) (C : Addr) (cl : List (PySem.Str × Addr)) (fp : List Addr), PTs (X.blk s H scope (compEnvC scope cl C X.env) fp) ifs tt)
    (hl : ∀ (s : Shared) (H : Hp) (C : Addr) (cl : List (PySem.Str × Addr)) (fp : List Addr), LeafOk (X.blk s H scope (compEnvC scope cl C X.env) fp) leaf (own.map (·.2)) Lf) (hs : ∀ x, foldedSetIterable iter X.env x = pure x := by intro _; rfl) :
    PE X e (tGc o0 wi g tt Lf (own.map (·.2))) := by
  refine ⟨fun pins s σ H Q I h => ?_⟩
  rw [hev]
  have hfree : ∀ y ∈ scope.names, y.2 = .free → ∃ c, X.env.cells.lookup y.1 = some c := fun y hy e => by
    rcases ok.free y hy e with k | k
    · exact I.ok.has _ (.inl k)
    · exact I.ok.has _ (.inr k)
  refine wpAny_comprehension_free (use := none) hcl hs (closure_ok hfree) ok.kind (fun y hy e => by rw [ok.uniq y hy, e])
    (thn (hi.run pins s σ H _ I h) fun xv s1 hx => thn hx fun itv s2 h2 => ?_)
  obtain ⟨it, fp, tn, J, H2, ee, I2, T, st2, f2, q⟩ := h2
  subst ee
  refine hmk s2 _ (newEnv_comp ?_)
  have hDn : H2 s2.heap.objs.size = none := I2.hok.fresh (Nat.le_refl _)
  obtain ⟨W, ⟨m0, w0⟩, turn⟩ := q _ hDn
  have new := hob H2 s2.heap I2.big
  have keep : ∀ b o, s2.heap.get? b = some o → (s2.heap.push ob).get? b = some o := fun b o eo => Heap.get?_push_of_some _ eo
  have I3 : Inv X pins σ (upd H2 s2.heap.objs.size (o0 s2.heap.objs.size)) { s2 with heap := s2.heap.push ob } := I2.laid (t' := s2.toks) keep (Nat.le_refl _) new
  have fpl : ∀ b ∈ fp, b < s2.heap.objs.size := fun b hb => by
    obtain ⟨o, eo, _⟩ := T.obj _ _ st2 b hb
    exact Heap.lt_size eo
  have f3 : ∀ b ∈ fp, FpOk X pins (upd H2 s2.heap.objs.size (o0 s2.heap.objs.size)) b ∧ b < (s2.heap.push ob).objs.size := fun b hb => by
    have hlt := fpl b hb
    refine ⟨⟨?_, (f2 b hb).2⟩, by rw [Heap.size_push]; exact Nat.lt_succ_of_lt hlt⟩
    rw [upd_ne (Nat.ne_of_lt hlt)]
    exact (f2 b hb).1
  have st3 : tn 0 (s2.heap.push ob) := T.keep _ _ _ st2 fun b _ o eo => keep b o eo
  clear new keep fpl
  generalize s2.heap.objs.size = D at *
  generalize upd H2 D (o0 D) = H3 at *
  generalize hs3 : ({ s2 with heap := s2.heap.push ob } : Shared) = s3 at *
  have e3 : s2.heap.push ob = s3.heap := by rw [← hs3]
  rw [e3] at f3 st3
  have I4 := block_start I3 ok hN f3
  have pg := hg s3 H3 s3.heap.objs.size (cellsFrom (s3.heap.objs.size + 1) scope.names (cloFrom X.env.cells scope.names [])) fp
  have pt := ht s3 H3 s3.heap.objs.size (cellsFrom (s3.heap.objs.size + 1) scope.names (cloFrom X.env.cells scope.names [])) fp
  have pl := hl s3 H3 s3.heap.objs.size (cellsFrom (s3.heap.objs.size + 1) scope.names (cloFrom X.env.cells scope.names [])) fp
  show codeAny _ _ (.compStart e 0 (.ref it) (.ref D) (compEnvC scope (cellsFrom (s3.heap.objs.size + 1) scope.names (cloFrom X.env.cells scope.names [])) s3.heap.objs.size X.env)) (compPost (model X.prog X.w) X.A X.xe none _ (.ref D) s3.heap.objs.size) { s3 with heap := pushCells (s3.heap.push { cls := .type "dict", data := .dict #[] }) scope.names }
  generalize hce : compEnvC scope (cellsFrom (s3.heap.objs.size + 1) scope.names (cloFrom X.env.cells scope.names [])) s3.heap.objs.size X.env = ce at I4 pg pt pl ⊢
  have cL : ce.locals = s3.heap.objs.size := by subst hce; rfl
  have st4 : tn 0 (pushCells (s3.heap.push { cls := .type "dict", data := .dict #[] }) scope.names) := T.keep _ _ _ st3 fun b _ o eo => pushCells_keeps _ _ _ _ (Heap.get?_push_of_some _ eo)
  refine clause_run (Y := X.blk s3 H3 scope ce fp) c hc rfl pg pt pl T I4 st4 (fun H' s' I' hn b hb => ⟨hn b hb, (I'.ok.exf b hb).1, I'.ok.exfs b hb, .inl hb, fun x c eo => (I'.ok.exf b hb).2 x c eo, fun p hp => absurd (show p ∈ ([] : List (Addr × Obj)) ++ [] from hp) (by simp)⟩)
    (fun b hb => (f3 b hb).1.1) (fun H' => Q (.ref D) H') W m0 w0 turn fun H' s6 I6 qq => ?_
  have I7 : Inv X pins σ H' s6 := I3.call' (ch := fp) I6.os I6.base I6.hok I6.bare fun b hb => ⟨(f3 b hb).1.2.2.2.1, (f3 b hb).1.2.1, (f3 b hb).1.2.2.2.2.1, (f3 b hb).1.2.2.2.2.2⟩
  have nC : H' s3.heap.objs.size = none := by
    have z : H' ce.locals = none := I6.free
    rw [cL] at z
    exact z
  obtain ⟨m, hn, _⟩ := I6.loc
  have hn : s6.heap.Ns ce.locals m := hn
  rw [cL] at hn
  obtain ⟨g0, g1, g2, g3, g4, g5⟩ := I3.fpOk (Nat.le_refl _) nC
  exact ⟨m, hn, fun h'' sb => ⟨.ref D, H', I7.turned (t' := s6.toks) (fun b o hb eo => (sb.2 b hb).trans eo) g0 g1 g3 g4 g5, rfl, qq⟩⟩
end
end DL
/-! DLl: set comprehensions of ints, dict comprehensions with tuple keys over two clauses; by facts. -/
namespace DL
open PySem PySem.Spec PyProof.Rows L2

/-! ### the leaves -/
def leafSet (elt : Expr) (D : Addr) (env : Env) (cont : Sem PySem.Fin) : Sem PySem.Fin := do
  (do let v ← eval elt env; standAt elt.pos; let _ ← call (.builtin "set.add") [.ref D, v])
  cont
def LfSet (w : World) (te : TE) : LfR := fun σ D H Nx => te σ H fun y H1 => ∃ (c : Int) (S : Int → Bool) (n : Nat), y = .int c ∧ H1 D = some (SetO w D S n) ∧ n + 1 < scanBound ∧ Nx (upd H1 D (SetO w D (fun j => S j || decide (j = c)) (if S c = true then n else n + 1)))
def leafDict (kx vx : Expr) (D : Addr) (env : Env) (cont : Sem PySem.Fin) : Sem PySem.Fin := do
  (do
    let kv ← eval kx env
    let vv ← holding [kv] (eval vx env)
    standAt { kx.pos with endLine := vx.pos.endLine, endCol := vx.pos.endCol }
    holding [kv, vv] (dictSet D kv vv))
  cont
def LfDict (tk tv : TE) : LfR := fun σ D H Nx => tk σ H fun y H1 => tv σ H1 fun v H2 => ∃ (b : Addr) (k : List Key) (kvs : List (List Key × V)), y = .ref b ∧ H2 b = some (.tup (k.map kV)) ∧ H2 D = some (.dT kvs) ∧ kvs.length < sizeLine ∧ Nx (upd H2 D (.dT (putK kvs k v)))
section
variable {X : Cx}
theorem leaf_set {Y : Cx} {elt : Expr} {te : TE} (hxe : Y.xe = fun _ _ => False) (he : PE Y elt te) (vs : List Nat) : LeafOk Y (leafSet elt) vs (LfSet Y.w te) := by
  intro pins σ H s D Nx I h cont Qc Ec hk
  unfold leafSet
  have pr := he.run _ s σ H _ I h
  rw [hxe] at pr
  refine wpAny_bind (wpAny_bind (thnF pr fun u s1 ⟨y, H1, I1, r1, c, S, n, ey, hD, hn, nx⟩ => ?_))
  subst ey
  refine wpAny_bind (wpAny_standAt (wpAny_bind ?_))
  have q := mt_sadd (X := Y) pins s1 σ H1 (.ref D) [.int c] (.ref D) [u] (fun _ H2 => Nx H2) I1 rfl (.cons r1 .nil) ⟨D, c, S, n, rfl, rfl, hD, hn, nx⟩
  rw [hxe] at q
  exact thnF q fun _ s2 ⟨_, H2, I2, _, z⟩ => wpAny_pure (hk s2 σ H2 I2 rfl z)
theorem leaf_dict {Y : Cx} {kx vx : Expr} {tk tv : TE} (hxe : Y.xe = fun _ _ => False) (hu : Y.A.units < cLine) (hkx : PE Y kx tk) (hv : PE Y vx tv) (vs : List Nat) : LeafOk Y (leafDict kx vx) vs (LfDict tk tv) := by
  intro pins σ H s D Nx I h cont Qc Ec hk
  unfold leafDict
  have pr := hkx.run _ s σ H _ I h
  rw [hxe] at pr
  refine wpAny_bind (wpAny_bind (thnF pr fun u s1 ⟨y, H1, I1, r1, h1⟩ => ?_))
  have pv := hv.run _ s1 σ H1 _ I1 h1
  rw [hxe] at pv
  refine wpAny_bind (wpAny_holding (thnF pv fun r s2 ⟨v, H2, I2, r2, b, k, kvs, ey, hb, hD, hz, nx⟩ => ?_))
  subst ey
  cases (show u = Value.ref b from r1)
  refine wpAny_bind (wpAny_standAt (wpAny_holding ?_))
  obtain ⟨z, hd, xs, rel, dd⟩ := dt_of I2.hok hD
  have hzx : xs.length ≤ sizeLine := by rw [← Paired.length rel]; exact z
  have hl : (putK kvs k v).length ≤ sizeLine := by have := length_putK kvs k v; omega
  refine wpAny_dictSet_heap (hsz := hzx) (show (tupleKind (mixKind Y.prog Y.w)).room Y.A from hu) (key_of I2.hok hb) dd fun h' dd' hs => ?_
  obtain ⟨q, es, ep, hq, h2, h3, h4, _, h5⟩ := dd'
  refine hk _ σ (upd H2 D (.dT (putK kvs k v))) (d_write I2 (by rw [hD]; exact True.intro) hs ⟨q, hq⟩ ⟨hl, hd, _, (rel.put k hb r2).keeps fun c ys ec => ?_, q, es, ep, hq, h2, h3, h4, h5⟩) rfl nx
  rw [upd_ne (ne_of ec hD (fun z => nomatch z))]
  exact ec
theorem set_clause (elt tg iter : Expr) (ifs : List Expr) (scope : Scope) (pos : Pos) : Clause (.SetComp elt [⟨tg, iter, ifs, 0⟩] scope pos) 0 tg iter ifs (leafSet elt) :=
  ⟨fun _ _ _ => rfl, ⟨_, rfl, rfl, rfl⟩, fun _ _ _ _ => ⟨rfl, rfl⟩, fun _ _ _ _ _ => ⟨rfl, rfl⟩⟩
theorem dict_clause0 (kx vx tg iter tg1 iter1 : Expr) (ifs ifs1 : List Expr) (scope : Scope) (pos : Pos) : Clause (.DictComp kx vx [⟨tg, iter, ifs, 0⟩, ⟨tg1, iter1, ifs1, 0⟩] scope pos) 0 tg iter ifs (nextLeaf (.DictComp kx vx [⟨tg, iter, ifs, 0⟩, ⟨tg1, iter1, ifs1, 0⟩] scope pos) 1 iter1) :=
  ⟨fun _ _ _ => rfl, ⟨_, rfl, rfl, rfl⟩, fun _ _ _ _ => ⟨rfl, rfl⟩, fun _ _ _ _ _ => ⟨rfl, rfl⟩⟩
theorem dict_clause1 (kx vx tg iter tg1 iter1 : Expr) (ifs ifs1 : List Expr) (scope : Scope) (pos : Pos) : Clause (.DictComp kx vx [⟨tg, iter, ifs, 0⟩, ⟨tg1, iter1, ifs1, 0⟩] scope pos) 1 tg1 iter1 ifs1 (leafDict kx vx) :=
  ⟨fun _ _ _ => rfl, ⟨_, rfl, rfl, rfl⟩, fun _ _ _ _ => ⟨rfl, rfl⟩, fun _ _ _ _ _ => ⟨rfl, rfl⟩⟩
/-- {e for x in xs if ..}, ints -/
theorem pe_setI {elt tg iter : Expr} {ifs : List Expr} {scope : Scope} {own : List (PySem.Str × Nat)} {pos : Pos} {wi : TI} {g : TG} {tt : TT} {te : TE} (hc : X.calm = true) (hN : X.N.Nodup) (hi : PI X tg iter wi) (ok : BlkOk X.N X.env.scope scope own)
    (hg : ∀ (s : Shared) (H : Hp) (C : Addr) (cl : List (PySem.Str × Addr)) (fp : List Addr), PG (X.blk s H scope (compEnvC scope cl C X.env) fp) tg g) (ht : ∀ (s : Shared) (H : Hp) (C : Addr) (cl : List (PySem.Str × Addr)) (fp : List Addr), PTs (X.blk s H scope (compEnvC scope cl C X.env) fp) ifs tt)
    (he : ∀ (s : Shared) (H : Hp) (C : Addr) (cl : List (PySem.Str × Addr)) (fp : List Addr), PE (X.blk s H scope (compEnvC scope cl C X.env) fp) elt te) (hs : ∀ x, foldedSetIterable iter X.env x = pure x := by intro _; rfl) :
    PE X (.SetComp elt [⟨tg, iter, ifs, 0⟩] scope pos) (tGc (fun D => SetO X.w D (fun _ => false) 0) wi g tt (LfSet X.w te) (own.map (·.2))) :=
  pe_gc (set_clause elt tg iter ifs scope pos) hc hN (PpSet.eval_SetComp _ _ _ _) rfl (fun s Q h => PpSet.newSet_ok h) (fun H h _ => setO_new (setR_fresh X.w)) hi ok hg ht
    (fun s H C cl fp => leaf_set (Y := X.blk s H scope (compEnvC scope cl C X.env) fp) rfl (he s H C cl fp) _) hs
/-- {k: v for x in xs for y in ys}, keys tuples -/
theorem pe_dictT {kx vx tg iter tg1 iter1 : Expr} {ifs ifs1 : List Expr} {scope : Scope} {own : List (PySem.Str × Nat)} {vs1 : List Nat} {pos : Pos} {wi wi1 : TI} {g g1 : TG} {tt tt1 : TT} {tk tv : TE} (hu : X.A.units + 1 < cLine) (hc : X.calm = true) (hN : X.N.Nodup) (hi : PI X tg iter wi) (ok : BlkOk X.N X.env.scope scope own) (hv : ∀ i ∈ vs1, i ∈ own.map (·.2))
    (hg : ∀ (s : Shared) (H : Hp) (C : Addr) (cl : List (PySem.Str × Addr)) (fp : List Addr), PG (X.blk s H scope (compEnvC scope cl C X.env) fp) tg g) (ht : ∀ (s : Shared) (H : Hp) (C : Addr) (cl : List (PySem.Str × Addr)) (fp : List Addr), PTs (X.blk s H scope (compEnvC scope cl C X.env) fp) ifs tt)
    (hi1 : ∀ (s : Shared) (H : Hp) (C : Addr) (cl : List (PySem.Str × Addr)) (fp : List Addr), PI (X.blk s H scope (compEnvC scope cl C X.env) fp) tg1 iter1 wi1)
    (hg1 : ∀ (s : Shared) (H : Hp) (C : Addr) (cl : List (PySem.Str × Addr)) (fp : List Addr), PG (X.blk s H scope (compEnvC scope cl C X.env) fp) tg1 g1) (ht1 : ∀ (s : Shared) (H : Hp) (C : Addr) (cl : List (PySem.Str × Addr)) (fp : List Addr), PTs (X.blk s H scope (compEnvC scope cl C X.env) fp) ifs1 tt1)
    (hk : ∀ (s : Shared) (H : Hp) (C : Addr) (cl : List (PySem.Str × Addr)) (fp : List Addr), PE (X.blk s H scope (compEnvC scope cl C X.env) fp) kx tk) (he : ∀ (s : Shared) (H : Hp) (C : Addr) (cl : List (PySem.Str × Addr)) (fp : List Addr), PE (X.blk s H scope (compEnvC scope cl C X.env) fp) vx tv)
    (hs : ∀ x, foldedSetIterable iter X.env x = pure x := by intro _; rfl) (hs1 : ∀ env x, foldedSetIterable iter1 env x = pure x := by intro _ _; rfl) :
    PE X (.DictComp kx vx [⟨tg, iter, ifs, 0⟩, ⟨tg1, iter1, ifs1, 0⟩] scope pos) (tGc (fun _ => .dT []) wi g tt (LfIn wi1 g1 tt1 (LfDict tk tv) vs1) (own.map (·.2))) :=
  pe_gc (dict_clause0 kx vx tg iter tg1 iter1 ifs ifs1 scope pos) hc hN (arm_eval_DictComp _ _ _ _ _ _) rfl (fun s Q h => wpAny_newObj_type h) (fun H h hb => dt_empty h hb) hi ok hg ht
    (fun s H C cl fp => leaf_in (Y := X.blk s H scope (compEnvC scope cl C X.env) fp) (dict_clause1 kx vx tg iter tg1 iter1 ifs ifs1 scope pos) hc rfl hv (hi1 s H C cl fp) (hg1 s H C cl fp) (ht1 s H C cl fp) (leaf_dict (Y := X.blk s H scope (compEnvC scope cl C X.env) fp) rfl (Nat.lt_of_succ_lt hu) (hk s H C cl fp) (he s H C cl fp) _) (fun x => hs1 _ x)) hs
/-- len of such a set -/
def rLenSet (w : World) : List V → Hp → VK → Prop := fun vs H Q => ∃ (a : Addr) (S : Int → Bool) (n : Nat), vs = [.ref a] ∧ H a = some (SetO w a S n) ∧ Q (.int n) H
theorem call_lenSet : CallR X (.builtin "len") (rLenSet X.w) := by
  intro pins s σ H xs us Q I r h
  obtain ⟨a, S, n, rfl, ha, q⟩ := h
  rw [Vals.ref1 r]
  obtain ⟨o, es, ep, t, ho, hx, hd, _, _, _, hb, hf, hn, _⟩ := setO_get I ha
  have hb' : es.size < 4096 := hb
  exact call_len_set ho hx hd hf (by omega) ⟨.int n, H, I.tok _, ⟨_, by rw [hn]⟩, q⟩
/-- k in d, k not in d, k a tuple -/
def rInDT : R2 := fun x y H Q => ∃ (kvs : List (List Key × V)) (k : List Key) (b a : Addr), x = .ref b ∧ y = .ref a ∧ Rd H a (.dT kvs) ∧ H b = some (.tup (k.map kV)) ∧ Q (.bl (valV kvs k).isSome) H
def rNotInDT : R2 := fun x y H Q => ∃ (kvs : List (List Key × V)) (k : List Key) (b a : Addr), x = .ref b ∧ y = .ref a ∧ Rd H a (.dT kvs) ∧ H b = some (.tup (k.map kV)) ∧ Q (.bl (!(valV kvs k).isSome)) H
theorem op_inDT (hu : X.A.units + 1 < cLine) : OpR X (compareOp .In) rInDT := by
  intro pins s σ H x y v u Q I rx ry h
  obtain ⟨kvs, k, b, a, rfl, rfl, ha, hb, q⟩ := h
  cases ry
  exact d_in hu I (.inr ⟨kvs, k, b, ha, rfl, hb, rfl⟩) rx fun s' I' => ⟨.bl _, H, I', rfl, q⟩
theorem op_notInDT (hu : X.A.units + 1 < cLine) : OpR X (compareOp .NotIn) rNotInDT := by
  intro pins s σ H x y v u Q I rx ry h
  obtain ⟨kvs, k, b, a, rfl, rfl, ha, hb, q⟩ := h
  cases ry
  exact d_notIn hu I (.inr ⟨kvs, k, b, ha, rfl, hb, rfl⟩) rx fun s' I' => ⟨.bl _, H, I', rfl, q⟩
end

/-! ### by facts -/
/-- a leaf changes the new object so -/
def WLf (K : PySem.W.Frag) (Lf : LfR) (ρ : Rho) (pre post : Addr → HO → Prop) : Prop := ∀ (σ : L2.St) (Ot Hf H : Hp) (D : Addr) (o : HO) (Nx : Hp → Prop), EnvD K ρ σ Ot Hf H → H D = some o → Hf D = none → Ot D = none → pre D o →
  (∀ (Hf' H' : Hp) (o' : HO), Grow Hf H Hf' H' → post D o' → Nx (upd H' D o')) → Lf σ D H Nx
section
variable {K : PySem.W.Frag} {ρ : Rho} {𝒜 : Fact → Prop} {te : TE}
theorem Grow.hold {Hf H Hf' H' : Hp} {D : Addr} {o : HO} (g : Grow Hf H Hf' H') (h : H D = some o) (n : Hf D = none) : Hf' D = none ∧ H' D = some o := ⟨g.out D o h n, g.h D o h (.inl n)⟩
theorem w_gc {α : Type} {wi : TI} {F : α → Fact} {g : TG} {tt : TT} {Lf : LfR} {vs js : List Nat} {o0 : Addr → HO} (hj : ∀ j ∈ js, j ∈ vs) (h : WX K wi ρ F fun xs => ∃ Iv : List α → Addr → HO → Prop, (∀ D, Iv [] D (o0 D)) ∧
    (∀ pre x, x ∈ xs → pre.length < xs.length → G K g (wipeR ρ vs) (F x) js fun ρ2 => WT K tt ρ2 fun b => (b = true → WLf K Lf ρ2 (Iv pre) (Iv (pre ++ [x]))) ∧ (b = false → ∀ D o, Iv pre D o → Iv (pre ++ [x]) D o)) ∧
    ∀ D o, Iv xs D o → ∃ A, 𝒜 A ∧ ∀ H, H D = some o → A.ok (.ref D) H) : W K (tGc o0 wi g tt Lf vs) ρ 𝒜 := fun σ Ot Hf H Q e q =>
  h σ Ot Hf H _ e fun J H1f H1 n item g1 ⟨Gd, gd, go, stop, yld⟩ ⟨xs, en, hz, it, Iv, i0, turn, done⟩ => fun D hD => by
    have e1 := e.grow g1
    have g2 := Grow.newO (o := o0 D) g1.sub hD
    refine ⟨fun i m H' => ∃ Hf' o, i + m = n ∧ Grow H1f H1 Hf' H' ∧ Hf' D = none ∧ H' D = some o ∧ Iv (xs.take i) D o, ⟨n, H1f, o0 D, by omega, g2, none_back g1.sub hD, upd_same, i0 D⟩, ?_⟩
    rintro i m H' ⟨Hf', o, em, gI, nf, hp, iv⟩
    by_cases hi : i < n
    · refine .inr ⟨go i H' hi (gd H' (gI.f.trans gI.sub)), fun H2 => ∃ Hf2 o2, Grow H1f H1 Hf2 H2 ∧ Hf2 D = none ∧ H2 D = some o2 ∧ Iv (xs.take (i + 1)) D o2,
        fun H2 ⟨Hf2, o2, a1, a2, a3, a4⟩ => ⟨m - 1, by omega, Hf2, o2, by omega, a1, a2, a3, a4⟩, fun x H2 y => ?_⟩
      obtain ⟨Hf3, A, g3, a, hit⟩ := yld i Hf' H' x H2 hi gI.f gI.sub y
      obtain ⟨z, hx, l⟩ := it i A hi hit
      have hpl : (xs.take i).length < xs.length := by rw [List.length_take]; omega
      have tk := take_snoc hx
      obtain ⟨nf3, hp3⟩ := g3.hold hp nf
      refine turn (xs.take i) z (List.mem_of_getElem? hx) hpl (L2.wipe σ vs) Ot Hf3 H2 x _ ((e1.grow (gI.trans g3)).wipe vs) (l _ _ a) fun σ4 ρ4 e4 w4 ht => ⟨(w4 vs hj).trans (wipe_wipe vs vs fun _ z => z), ?_⟩
      refine ht σ4 Ot Hf3 H2 _ e4 fun b Hf4 H4 g4 ⟨h1, h2⟩ => ?_
      obtain ⟨nf4, hp4⟩ := g4.hold hp3 nf3
      have g34 := g3.trans g4
      cases b with
      | false =>
        show ∃ Hf2, _
        exact ⟨Hf4, o, gI.trans g34, nf4, hp4, by rw [tk]; exact h2 rfl D o iv⟩
      | true =>
        show Lf σ4 D H4 _
        refine h1 rfl σ4 Ot Hf4 H4 D o _ (e4.grow g4) hp4 nf4 (none_back e1.ot hD) iv fun Hf5 H5 o5 g5 z => ?_
        have g35 := g34.trans g5
        obtain ⟨nf5, _⟩ := g5.hold hp4 nf4
        exact ⟨Hf5, o5, (gI.trans g35).updO hD nf5, nf5, upd_same, by rw [tk]; exact z⟩
    · have ei : i = n := by omega
      subst ei
      rw [en, List.take_length] at iv
      obtain ⟨A, ha, hA⟩ := done D o iv
      refine .inl ⟨stop H' (gd H' (gI.f.trans gI.sub)), ?_⟩
      have gg := g1.trans gI
      exact q (.ref D) (upd Hf' D o) H' A (gg.fix (g1.n _ hD) nf hp) (hA _ upd_same) ha
/-- no list of the frame's own among the slots -/
def NoOwn (ρ : Rho) : Prop := ∀ (j : Nat) (ds : List PyData), ρ[j]? ≠ some (Slot.own ds)
theorem EnvD.but {σ : L2.St} {Ot Hf H : Hp} {D : Addr} {o : HO} (e : EnvD K ρ σ Ot Hf H) (n : NoOwn ρ) (h1 : Hf D = none) (h2 : Ot D = none) : EnvD K ρ σ Ot Hf (upd H D o) where
  len := e.len
  hf := fun a u z => by rw [upd_ne (ne_of_none z h1)]; exact e.hf a u z
  ot := fun a u z => by rw [upd_ne (ne_of_none z h2)]; exact e.ot a u z
  dj := e.dj
  at_ := e.at_
  own := fun i ds z => absurd z (n i ds)
  sep := fun i j ds es p z => absurd z (n i ds)
theorem Grow.but {Hf H Hf' H' : Hp} {D : Addr} {o u : HO} (g : Grow Hf (upd H D o) Hf' H') (n : Hf D = none) (h : H D = some u) (s : Same Hf H) : Grow Hf H Hf' (upd H' D u) := by
  have n' := g.out D o upd_same n
  refine ⟨g.f, fun a z e w => ?_, fun a e => ?_, fun a z e => ?_, fun a z e nz => ?_⟩
  · by_cases q : a = D
    · subst q; rw [upd_same, ← h, e]
    · rw [upd_ne q]; exact g.h a z (by rw [upd_ne q]; exact e) w
  · by_cases q : a = D
    · subst q; rw [upd_same] at e; cases e
    · rw [upd_ne q] at e
      have := g.n a e
      rwa [upd_ne q] at this
  · by_cases q : a = D
    · subst q; rw [n'] at e; cases e
    · rw [upd_ne q]; exact g.sub a z e
  · by_cases q : a = D
    · subst q; exact n'
    · exact g.out a z (by rw [upd_ne q]; exact e) nz
theorem upd_upd {H : Hp} {D : Addr} {o u : HO} : upd (upd H D o) D u = upd H D u := by
  funext a
  by_cases q : a = D
  · subst q; rw [upd_same, upd_same]
  · rw [upd_ne q, upd_ne q, upd_ne q]
theorem upd_self {H : Hp} {D : Addr} {o : HO} (h : H D = some o) : upd H D o = H := by
  funext a
  by_cases q : a = D
  · subst q; rw [upd_same, h]
  · rw [upd_ne q]
theorem wipeR_noOwn : ∀ {vs : List Nat}, NoOwn ρ → NoOwn (wipeR ρ vs)
  | [], n => n
  | v :: vs, n => fun j ds z => by
    rcases set_get (l := wipeR ρ vs) z with ⟨_, _, y⟩ | ⟨_, y⟩
    · cases y
    · exact wipeR_noOwn (vs := vs) n j ds y
/-- a further clause -/
theorem wl_in {α : Type} {wi : TI} {F : α → Fact} {g : TG} {tt : TT} {Lf : LfR} {vs js : List Nat} {pre0 post0 : Addr → HO → Prop} (hno : NoOwn ρ) (hj : ∀ j ∈ js, j ∈ vs) (h : WX K wi ρ F fun xs => ∃ Iv : List α → Addr → HO → Prop, (∀ D o, pre0 D o → Iv [] D o) ∧
    (∀ pre x, x ∈ xs → pre.length < xs.length → G K g (wipeR ρ vs) (F x) js fun ρ2 => WT K tt ρ2 fun b => (b = true → WLf K Lf ρ2 (Iv pre) (Iv (pre ++ [x]))) ∧ (b = false → ∀ D o, Iv pre D o → Iv (pre ++ [x]) D o)) ∧
    ∀ D o, Iv xs D o → post0 D o) : WLf K (LfIn wi g tt Lf vs) ρ pre0 post0 := fun σ Ot Hf H D o Nx e hD nD noD hp0 q =>
  h σ Ot Hf H _ e fun J H1f H1 n item g1 ⟨Gd, gd, go, stop, yld⟩ ⟨xs, en, hz, it, Iv, i0, turn, done⟩ => by
    have e1 := e.grow g1
    obtain ⟨nf1, hp1⟩ := g1.hold hD nD
    refine ⟨fun i m H' => ∃ Hf' H0 o', i + m = n ∧ H' = upd H0 D o' ∧ Grow H1f H1 Hf' H0 ∧ Iv (xs.take i) D o', ⟨n, H1f, H1, o, by omega, (upd_self hp1).symm, Grow.refl g1.sub, i0 D o hp0⟩, ?_⟩
    rintro i m H' ⟨Hf', H0, o', em, rfl, gI, iv⟩
    obtain ⟨nf, hp⟩ := gI.hold hp1 nf1
    have eI := (e1.grow gI).but (o := o') hno nf noD
    by_cases hi : i < n
    · refine .inr ⟨go i _ hi (gd _ (gI.f.trans eI.hf)), fun H2 => ∃ Hf2 H02 o2, H2 = upd H02 D o2 ∧ Grow H1f H1 Hf2 H02 ∧ Iv (xs.take (i + 1)) D o2,
        fun H2 ⟨Hf2, H02, o2, a1, a2, a3⟩ => ⟨m - 1, by omega, Hf2, H02, o2, by omega, a1, a2, a3⟩, fun x H2 y => ?_⟩
      obtain ⟨Hf3, A, g3, a, hit⟩ := yld i Hf' _ x H2 hi gI.f eI.hf y
      obtain ⟨z, hx, l⟩ := it i A hi hit
      have hpl : (xs.take i).length < xs.length := by rw [List.length_take]; omega
      have tk := take_snoc hx
      obtain ⟨nf3, hp3⟩ := g3.hold upd_same nf
      refine turn (xs.take i) z (List.mem_of_getElem? hx) hpl (L2.wipe σ vs) Ot Hf3 H2 x _ ((eI.grow g3).wipe vs) (l _ _ a) fun σ4 ρ4 e4 w4 ht => ⟨(w4 vs hj).trans (wipe_wipe vs vs fun _ z => z), ?_⟩
      refine ht σ4 Ot Hf3 H2 _ e4 fun b Hf4 H4 g4 ⟨h1, h2⟩ => ?_
      obtain ⟨nf4, hp4⟩ := g4.hold hp3 nf3
      have g34 := g3.trans g4
      cases b with
      | false =>
        show ∃ Hf2, _
        refine ⟨Hf4, upd H4 D o, o', ?_, gI.trans (g34.but nf hp gI.sub), by rw [tk]; exact h2 rfl D o' iv⟩
        rw [upd_upd, upd_self hp4]
      | true =>
        show Lf σ4 D H4 _
        refine h1 rfl σ4 Ot Hf4 H4 D o' _ (e4.grow g4) hp4 nf4 noD iv fun Hf5 H5 o5 g5 z => ?_
        have g35 := g34.trans g5
        exact ⟨Hf5, upd H5 D o, o5, by rw [upd_upd], gI.trans (g35.but nf hp gI.sub), by rw [tk]; exact z⟩
    · have ei : i = n := by omega
      subst ei
      rw [en, List.take_length] at iv
      exact .inl ⟨stop _ (gd _ (gI.f.trans eI.hf)), q Hf' H0 o' (g1.trans gI) (done D o' iv)⟩
/-! ### sets of ints -/
/-- a set of the numbers of ys -/
def isSet (w : World) (ys : List Nat) : Fact := ⟨fun v H => ∃ (p : Addr) (S : Int → Bool) (L : List Nat), v = .ref p ∧ H p = some (SetO w p S L.length) ∧ L.Nodup ∧ ∀ m, m ∈ L ↔ m ∈ ys, fun e ⟨p, S, L, h1, h2, h3⟩ => ⟨p, S, L, h1, e.k p _ h2 nT_ext, h3⟩⟩
def SetIv (w : World) (ys : List Nat) (D : Addr) (o : HO) : Prop := ∃ (S : Int → Bool) (L : List Nat), o = SetO w D S L.length ∧ L.Nodup ∧ L.length ≤ ys.length ∧ (∀ m, m ∈ L ↔ m ∈ ys) ∧ ∀ k : Int, S k = true ↔ ∃ m ∈ L, k = (m : Int)
theorem wl_set {w : World} {ys : List Nat} {y : Nat} {post : Addr → HO → Prop} (hz : ys.length < 4000) (h : W K te ρ fun B => Le B (Is K y)) (hp : ∀ D o, SetIv w (ys ++ [y]) D o → post D o) : WLf K (LfSet w te) ρ (SetIv w ys) post := fun σ Ot Hf H D o Nx e hD nD noD ⟨S, L, eo, nd, hl, hm, hS⟩ q =>
  h σ Ot Hf H _ e fun v H1f H1 B g1 b l => by
    obtain rfl := dp_int (l _ _ b)
    subst eo
    refine ⟨y, S, L.length, rfl, g1.h D _ hD (.inl nD), ?_, q H1f H1 _ g1 (hp D _ ?_)⟩
    · show L.length + 1 < 4096
      omega
    · by_cases hy : y ∈ L
      · have e1 : S (y : Int) = true := (hS y).mpr ⟨y, hy, rfl⟩
        refine ⟨_, L, by rw [if_pos e1], nd, by rw [List.length_append]; omega, fun m => ?_, fun k => ?_⟩
        · rw [hm, List.mem_append, List.mem_singleton]
          exact ⟨.inl, fun z => z.elim id fun z => z ▸ (hm y).mp hy⟩
        · rw [Bool.or_eq_true, decide_eq_true_eq, hS]
          exact ⟨fun z => z.elim id fun z => ⟨y, hy, z⟩, .inl⟩
      · have e1 : ¬ S (y : Int) = true := fun z => by
          obtain ⟨m, h1, h2⟩ := (hS y).mp z
          have : m = y := by omega
          exact hy (this ▸ h1)
        refine ⟨_, y :: L, by rw [if_neg e1]; rfl, List.nodup_cons.mpr ⟨hy, nd⟩, by rw [List.length_append, List.length_cons]; exact Nat.succ_le_succ hl, fun m => ?_, fun k => ?_⟩
        · rw [List.mem_cons, hm, List.mem_append, List.mem_singleton]
          exact Or.comm
        · rw [Bool.or_eq_true, decide_eq_true_eq, hS]
          refine ⟨fun z => ?_, fun ⟨m, h1, h2⟩ => ?_⟩
          · rcases z with ⟨m, h1, h2⟩ | z
            · exact ⟨m, List.mem_cons_of_mem _ h1, h2⟩
            · exact ⟨y, List.mem_cons_self, z⟩
          · rcases List.mem_cons.mp h1 with z | z
            · exact .inr (by rw [h2, z])
            · exact .inl ⟨m, z, h2⟩
/-- {f x for x in xs} -/
theorem w_setI {α : Type} {w : World} {wi : TI} {F : α → Fact} {g : TG} {vs js : List Nat} (f : α → Nat) (hj : ∀ j ∈ js, j ∈ vs) (h : WX K wi ρ F fun xs => xs.length < 4000 ∧ (∀ x, x ∈ xs → G K g (wipeR ρ vs) (F x) js fun ρ2 => W K te ρ2 fun B => Le B (Is K (f x))) ∧ 𝒜 (isSet w (xs.map f))) :
    W K (tGc (fun D => SetO w D (fun _ => false) 0) wi g tYes (LfSet w te) vs) ρ 𝒜 :=
  w_gc hj (h.imp fun n item ⟨xs, en, hz, it, hlt, turn, k⟩ => ⟨xs, en, hz, it, fun pre => SetIv w (pre.map f), fun D => ⟨fun _ => false, [], rfl, List.nodup_nil, Nat.le_refl _, fun m => Iff.rfl, fun k => ⟨fun z => absurd z Bool.false_ne_true, fun ⟨_, z, _⟩ => absurd z (List.not_mem_nil)⟩⟩,
    fun pre x hx hl σ2 Ot2 Hf2 H2 v Q2 e2 a2 q2 => turn x hx σ2 Ot2 Hf2 H2 v Q2 e2 a2 fun σ3 ρ3 e3 w3 hw => q2 σ3 ρ3 e3 w3 (wt_yes ⟨fun _ => wl_set (by rw [List.length_map]; omega) hw fun D o z => by
        show SetIv w ((pre ++ [x]).map f) D o
        rw [List.map_append]
        exact z, fun z => by cases z⟩),
    fun D o ⟨S, L, eo, nd, _, hm, hS⟩ => ⟨_, k, fun H hH => ⟨D, S, L, rfl, by rw [hH, eo], nd, hm⟩⟩⟩)
theorem c_lenSet {w : World} {ys : List Nat} (k : ∀ L : List Nat, L.Nodup → (∀ m, m ∈ L ↔ m ∈ ys) → 𝒜 (Is K L.length)) : C (rLenSet w) [isSet w ys] 𝒜 := fun vs Hf H Q s as q => by
  obtain ⟨v, rfl, p, S, L, rfl, h1, nd, hm⟩ := all1 as
  exact ⟨p, S, L.length, rfl, s _ _ h1, q _ Hf H (Is K L.length) (Grow.refl s) (Dp.int _) (k L nd hm)⟩
/-! ### dicts with pairs as keys -/
def key2 (p : Nat × Nat) : List Key := [.inl (p.1 : Int), .inl (p.2 : Int)]
/-- a dict whose keys are the pairs that S tells -/
def isDT (S : Nat × Nat → Bool) : Fact := ⟨fun v H => ∃ (p : Addr) (kvs : List (List Key × V)), v = .ref p ∧ H p = some (.dT kvs) ∧ ∀ q, (valV kvs (key2 q)).isSome = S q, fun e ⟨p, kvs, h1, h2, h3⟩ => ⟨p, kvs, h1, e.k p _ h2 nT_dT, h3⟩⟩
/-- a new pair of numbers -/
theorem w_pair {tr : TA} (h : WA K tr ρ fun As => ∃ a b : Nat, As = [Is K a, Is K b] ∧ 𝒜 (isO (.tup [.int a, .int b]))) : W K (tTup tr) ρ 𝒜 := fun σ Ot Hf H Q e q =>
  h σ Ot Hf H _ e fun vs H1f H1 As g1 as ⟨a, b, eq, k⟩ => by
    subst eq
    obtain ⟨v, w, rfl, ha, hb⟩ := all2 as
    obtain rfl := dp_int ha
    obtain rfl := dp_int hb
    refine ⟨by show 2 ≤ sizeLine; decide, fun p hp => ?_⟩
    have g2 := Grow.new (o := .tup [.int a, .int b]) g1.sub hp
    exact q _ _ _ (isO (.tup [.int a, .int b])) (g1.trans g2) ⟨⟨p, rfl, upd_same⟩, nT_tup⟩ k
theorem r_inDT {S : Nat × Nat → Bool} {a b : Nat} (k : 𝒜 (Is K (S (a, b)))) : R rInDT (isO (.tup [.int a, .int b])) (isDT S) 𝒜 := fun x y Hf H Q s ⟨⟨b', e1, e2⟩, _⟩ ⟨p, kvs, e3, e4, e5⟩ q => by
  subst e1 e3
  refine ⟨kvs, key2 (a, b), b', p, rfl, rfl, .inl (s _ _ e4), s _ _ e2, ?_⟩
  rw [e5]
  exact q _ Hf H (Is K (S (a, b))) (Grow.refl s) (Dp.bl _) k
theorem r_notInDT {S : Nat × Nat → Bool} {a b : Nat} (k : 𝒜 (Is K (!S (a, b)))) : R rNotInDT (isO (.tup [.int a, .int b])) (isDT S) 𝒜 := fun x y Hf H Q s ⟨⟨b', e1, e2⟩, _⟩ ⟨p, kvs, e3, e4, e5⟩ q => by
  subst e1 e3
  refine ⟨kvs, key2 (a, b), b', p, rfl, rfl, .inl (s _ _ e4), s _ _ e2, ?_⟩
  rw [e5]
  exact q _ Hf H (Is K (!S (a, b))) (Grow.refl s) (Dp.bl _) k
/-- the pairs laid so far -/
def DicIv (S : Nat × Nat → Bool) (n : Nat) (D : Addr) (o : HO) : Prop := ∃ kvs : List (List Key × V), o = .dT kvs ∧ kvs.length ≤ n ∧ ∀ q, (valV kvs (key2 q)).isSome = S q
theorem key2_inj {p q : Nat × Nat} (h : key2 p = key2 q) : p = q := by
  unfold key2 at h
  injection h with h1 h2
  injection h2 with h3 _
  injection h1 with h1
  injection h3 with h3
  have e1 : p.1 = q.1 := by omega
  have e2 : p.2 = q.2 := by omega
  exact Prod.ext e1 e2
theorem wl_dict {tk tv : TE} {S : Nat × Nat → Bool} {n : Nat} {p : Nat × Nat} {post : Addr → HO → Prop} (hn : n < 1000000) (hk : W K tk ρ fun B => Le B (isO (.tup [.int p.1, .int p.2])) ∧ W K tv ρ fun _ => True) (hp : ∀ D o, DicIv (fun q => S q || decide (q = p)) (n + 1) D o → post D o) :
    WLf K (LfDict tk tv) ρ (DicIv S n) post := fun σ Ot Hf H D o Nx e hD nD noD ⟨kvs, eo, hz, hS⟩ q =>
  hk σ Ot Hf H _ e fun x H1f H1 B g1 b ⟨l, hv⟩ => hv σ Ot H1f H1 _ (e.grow g1) fun v H2f H2 C2 g2 c _ => by
    obtain ⟨⟨t, rfl, ht⟩, _⟩ := l _ _ b
    subst eo
    have g12 := g1.trans g2
    refine ⟨t, key2 p, kvs, rfl, g2.fx ht nT_tup, g12.h D _ hD (.inl nD), Nat.lt_of_le_of_lt hz (Nat.lt_trans hn (by decide)), q H2f H2 _ g12 (hp D _ ⟨_, rfl, ?_, fun r => ?_⟩)⟩
    · have := length_putK kvs (key2 p) v
      omega
    · rw [valV_put]
      by_cases er : r = p
      · subst er
        rw [if_pos rfl]
        show true = (S r || decide (r = r))
        rw [decide_eq_true (show r = r from rfl), Bool.or_true]
      · rw [if_neg fun z => er (key2_inj z)]
        have e9 : (S r || decide (r = p)) = S r := by rw [decide_eq_false er, Bool.or_false]
        exact (hS r).trans e9.symm
end
end DL
/-! DLm: short ways. -/
namespace DL
open PySem PySem.Spec PySem.W PyProof.Rows L2
section
variable {K : PySem.W.Frag} {ρ : Rho} {𝒜 : Fact → Prop} {te : TE}
/-- a written number -/
theorem w_lit {n : Nat} (k : 𝒜 (Is K (@OfNat.ofNat Nat n (instOfNatNat n)))) : W K (tC (.int (@OfNat.ofNat Int n instOfNat))) ρ 𝒜 := w_nat (n := n) k
theorem un65 {k : Nat} {A : Around} (r : Room k A) : A.units + 65 < cLine := by have := r.un; omega
theorem rtLe {A : Fact} {B : Fact} (h : A = B) : Le A B := Le.of_eq h
/-- a list of known things, as a walk's or a call's source -/
theorem w_tup2 {α β : Type} [Enc α] [Enc β] {tr : TA} (h : WA K tr ρ fun As => ∃ (x : α) (y : β), (∃ A B, As = [A, B] ∧ Le A (Is K x) ∧ Le B (Is K y)) ∧ 𝒜 (Is K (x, y))) : W K (tTup tr) ρ 𝒜 :=
  w_tup fun σ Ot Hf H Q e q => h σ Ot Hf H Q e fun vs Hf' H' As g a ⟨x, y, ⟨A, B, eq, la, lb⟩, k⟩ => q vs Hf' H' As g a ⟨[Enc.enc x, Enc.enc y], by subst eq; exact ⟨la, lb, trivial⟩, by show 2 ≤ 1000; decide, k⟩
theorem w_tup1 {α : Type} [Enc α] {tr : TA} (h : WA K tr ρ fun As => ∃ x : α, (∃ A, As = [A] ∧ Le A (Is K x)) ∧ 𝒜 (Is K [x])) : W K (tTup tr) ρ 𝒜 :=
  w_tup fun σ Ot Hf H Q e q => h σ Ot Hf H Q e fun vs Hf' H' As g a ⟨x, ⟨A, eq, la⟩, k⟩ => q vs Hf' H' As g a ⟨[Enc.enc x], by subst eq; exact ⟨la, trivial⟩, by show 1 ≤ 1000; decide, k⟩
theorem w_tup0 {α : Type} [Enc α] (k : 𝒜 (Is K ([] : List α))) : W K (tTup tNil) ρ 𝒜 :=
  w_tup (wa_nil ⟨[], trivial, Nat.zero_le _, k⟩)
/-- a pair as a list's item etc.: both halves -/
theorem g_pair {α β : Type} [Enc α] [Enc β] {gs : TGs} {p : α × β} {js : List Nat} {k : Rho → Prop} (h : Gs K gs ρ [Is K p.1, Is K p.2] js k) : G K (gTup K 2 gs) ρ (Is K p) js k := g_tup (ds := [Enc.enc p.1, Enc.enc p.2]) rfl h
theorem gs_name {gs : TGs} {i : Nat} {A : Fact} {As : List Fact} {ks : List Nat} {k : Rho → Prop} (h : Gs K gs (ρ.set i (.fact A)) As ks k) : Gs K (gCons (gName i) gs) ρ (A :: As) (i :: ks) k := gs_cons (js := [i]) (g_name h)
theorem br_t {p q : Prop} (h : p) : (true = true → p) ∧ (true = false → q) := ⟨fun _ => h, fun z => Bool.noConfusion z⟩
theorem br_f {p q : Prop} (h : q) : (false = true → p) ∧ (false = false → q) := ⟨fun z => Bool.noConfusion z, fun _ => h⟩
/-- a truth value that is known -/
theorem is_t {b : Bool} {p : Bool → Prop} (hb : b = true) (h : p true) : ∃ c, Le (Is K b) (Is K c) ∧ p c := ⟨true, by rw [hb]; exact Le.refl _, h⟩
theorem is_f {b : Bool} {p : Bool → Prop} (hb : b = false) (h : p false) : ∃ c, Le (Is K b) (Is K c) ∧ p c := ⟨false, by rw [hb]; exact Le.refl _, h⟩
theorem is_x {α : Type} [Enc α] {b : α} {p : α → Prop} (h : p b) : ∃ c, Le (Is K b) (Is K c) ∧ p c := ⟨b, Le.refl _, h⟩
theorem c_lenP {α β : Type} [Enc α] [Enc β] {x : α × β} (k : 𝒜 (Is K (2 : Nat))) : C (rLenA K) [Is K x] 𝒜 := fun vs Hf H Q s as q => by
  obtain ⟨v, rfl, a⟩ := all1 as
  obtain ⟨p, ys, rfl, h1, h2⟩ := dp_tup a
  refine ⟨p, ys, rfl, .inr (same_t s h1), ?_⟩
  rw [dpAll_len h2]
  exact q _ Hf H (Is K (2 : Nat)) (Grow.refl s) (Dp.int _) k
/-- a, b = x of a pair -/
theorem ss_pair {P : Post} {α β : Type} [Enc α] [Enc β] {gs : TGs} {js : List Nat} (h : W K te ρ fun A => ∃ x : α × β, Le A (Is K x) ∧ Gs K gs ρ [Is K x.1, Is K x.2] js P.nx) : SS K (tAsg te (gTup K 2 gs)) ρ P := ss_asg (js := js) (h.imp fun A ⟨x, l, z⟩ => G.le l (g_pair z))
/-- every one of a list's tests -/
theorem w_allT {α : Type} {wi : TI} {F : α → Fact} {g : TG} {vs js : List Nat} (f : α → Bool) (hj : ∀ j ∈ js, j ∈ vs) (h : WX K wi ρ F fun xs => (∀ x ∈ xs, G K g (wipeR ρ vs) (F x) js fun ρ2 => W K te ρ2 fun B => Le B (Is K (f x))) ∧ 𝒜 (Is K (xs.all f))) :
    W K (tLc wi g tYes te vs) ρ fun A => WA K tNil ρ fun As => C (rAll K) (A :: As) 𝒜 :=
  w_new (wn_mapT f hj (h.imp fun n item ⟨xs, a, b, c, d, k⟩ => ⟨xs, a, b, c, d, wa_nil (c_all (le_L _) (by rw [List.all_map]; exact k))⟩))
theorem w_anyT {α : Type} {wi : TI} {F : α → Fact} {g : TG} {vs js : List Nat} (f : α → Bool) (hj : ∀ j ∈ js, j ∈ vs) (h : WX K wi ρ F fun xs => (∀ x ∈ xs, G K g (wipeR ρ vs) (F x) js fun ρ2 => W K te ρ2 fun B => Le B (Is K (f x))) ∧ 𝒜 (Is K (xs.any f))) :
    W K (tLc wi g tYes te vs) ρ fun A => WA K tNil ρ fun As => C (rAny K) (A :: As) 𝒜 :=
  w_new (wn_mapT f hj (h.imp fun n item ⟨xs, a, b, c, d, k⟩ => ⟨xs, a, b, c, d, wa_nil (c_any (le_L _) (by rw [List.any_map]; exact k))⟩))
theorem eqv_nil : ∀ ds : List PyData, PyData.eqv (.list ds) (.list []) = ds.isEmpty
  | [] => by rw [PyData.eqv, PyData.eqvAll]; rfl
  | d :: ds => by rw [PyData.eqv, PyData.eqvAll]; rfl
/-- xs == [], xs != [] -/
theorem r_isNil {α : Type} [Enc α] [Lay α] {xs : List α} {A : Fact} (l : Le A (Is K (PL.mk xs))) (k : 𝒜 (Is K xs.isEmpty)) (h : Lay.d α + 1 ≤ 64 := by decide) : R (rEqD K) A (isL K []) 𝒜 :=
  R.le l (le_l (ds := [])) (r_eqD (shp (PL.mk xs) h) (shp (PL.mk ([] : List α)) h) (by
    show 𝒜 (Is K (PyData.eqv (.list (xs.map Enc.enc)) (.list [])))
    rw [eqv_nil]
    cases xs <;> exact k))
theorem r_notNil {α : Type} [Enc α] [Lay α] {xs : List α} {A : Fact} (l : Le A (Is K (PL.mk xs))) (k : 𝒜 (Is K (!xs.isEmpty))) (h : Lay.d α + 1 ≤ 64 := by decide) : R (rNeD K) A (isL K []) 𝒜 :=
  R.le l (le_l (ds := [])) (r_neD (shp (PL.mk xs) h) (shp (PL.mk ([] : List α)) h) (by
    show 𝒜 (Is K (!PyData.eqv (.list (xs.map Enc.enc)) (.list [])))
    rw [eqv_nil]
    cases xs <;> exact k))
theorem w_nil (k : 𝒜 (isL K [])) : W K (tLst tNil) ρ 𝒜 := w_new (wn_lst (wa_nil ⟨[], trivial, Nat.zero_le _, k⟩))
/-- [1 for x in xs if p x] == [] -/
theorem w_none {α : Type} {wi : TI} {F : α → Fact} {g : TG} {tt : TT} {vs js : List Nat} (p : α → Bool) (hj : ∀ j ∈ js, j ∈ vs) (h : WX K wi ρ F fun xs =>
    (∀ x ∈ xs, G K g (wipeR ρ vs) (F x) js fun ρ2 => WT K tt ρ2 fun b => b = p x) ∧ 𝒜 (Is K (xs.all fun x => !p x))) : W K (tLc wi g tt (tC (.int 1)) vs) ρ fun A => W K (tLst tNil) ρ fun B => R (rEqD K) A B 𝒜 :=
  w_new (wn_comp p (fun _ : α => (1 : Nat)) hj (h.imp fun n item ⟨xs, a, b, c, turn, k⟩ => ⟨xs, a, b, c, fun x hx σ2 Ot2 Hf2 H2 v Q2 e2 a2 q2 => turn x hx σ2 Ot2 Hf2 H2 v Q2 e2 a2 fun σ3 ρ3 e3 w3 hw => q2 σ3 ρ3 e3 w3
    fun σ4 Ot4 Hf4 H4 Q4 e4 q4 => hw σ4 Ot4 Hf4 H4 Q4 e4 fun b Hf5 H5 g5 hb => q4 b Hf5 H5 g5 ⟨hb, fun _ => w_lit (n := 1) (Le.refl _)⟩, w_nil (r_isNil (le_L _) (by
      have e : ((xs.filter p).map fun _ => (1 : Nat)).isEmpty = xs.all fun x => !p x := by
        rw [Bool.eq_iff_iff, List.isEmpty_iff, List.map_eq_nil_iff, List.filter_eq_nil_iff, List.all_eq_true]
        simp
      rw [e]
      exact k))⟩))
/-- [1 for x in xs if p x] != [] -/
theorem w_some {α : Type} {wi : TI} {F : α → Fact} {g : TG} {tt : TT} {vs js : List Nat} (p : α → Bool) (hj : ∀ j ∈ js, j ∈ vs) (h : WX K wi ρ F fun xs =>
    (∀ x ∈ xs, G K g (wipeR ρ vs) (F x) js fun ρ2 => WT K tt ρ2 fun b => b = p x) ∧ 𝒜 (Is K (xs.any p))) : W K (tLc wi g tt (tC (.int 1)) vs) ρ fun A => W K (tLst tNil) ρ fun B => R (rNeD K) A B 𝒜 :=
  w_new (wn_comp p (fun _ : α => (1 : Nat)) hj (h.imp fun n item ⟨xs, a, b, c, turn, k⟩ => ⟨xs, a, b, c, fun x hx σ2 Ot2 Hf2 H2 v Q2 e2 a2 q2 => turn x hx σ2 Ot2 Hf2 H2 v Q2 e2 a2 fun σ3 ρ3 e3 w3 hw => q2 σ3 ρ3 e3 w3
    fun σ4 Ot4 Hf4 H4 Q4 e4 q4 => hw σ4 Ot4 Hf4 H4 Q4 e4 fun b Hf5 H5 g5 hb => q4 b Hf5 H5 g5 ⟨hb, fun _ => w_lit (n := 1) (Le.refl _)⟩, w_nil (r_notNil (le_L _) (by
      have e : (!((xs.filter p).map fun _ => (1 : Nat)).isEmpty) = xs.any p := by
        rw [Bool.eq_iff_iff, Bool.not_eq_true', ← Bool.not_eq_true, List.isEmpty_iff, List.map_eq_nil_iff, List.filter_eq_nil_iff, List.any_eq_true]
        simp
      rw [e]
      exact k))⟩))
end
end DL
/-! DLn: list comprehensions of two clauses, by facts. -/
namespace DL
open PySem PySem.Spec PySem.W PyProof.Rows L2
section
variable {K : PySem.W.Frag} {ρ : Rho} {𝒜 : Fact → Prop} {te : TE}
/-- [f x y for x in xs for y in ys x] -/
theorem wn_lc2 {α β γ : Type} [Enc γ] {wi wi1 : TI} {F : α → Fact} {F1 : β → Fact} {g g1 : TG} {vs vs1 js js1 : List Nat} {𝒟 : List PyData → Prop} (f : α → β → γ) (ys : α → List β) (hj : ∀ j ∈ js, j ∈ vs) (hj1 : ∀ j ∈ js1, j ∈ vs1)
    (h : WX K wi ρ F fun xs => (xs.flatMap fun x => (ys x).map (f x)).length ≤ 10000000 ∧ (∀ x, x ∈ xs → G K g (wipeR ρ vs) (F x) js fun ρ2 => NoOwn ρ2 ∧ WX K wi1 ρ2 F1 fun zs => zs = ys x ∧ ∀ y, y ∈ ys x → G K g1 (wipeR ρ2 vs1) (F1 y) js1 fun ρ3 => W K te ρ3 fun B => Le B (Is K (f x y))) ∧
      𝒟 ((xs.flatMap fun x => (ys x).map (f x)).map Enc.enc)) : WN K (tLc2 wi g tYes wi1 g1 tYes te vs vs1) ρ 𝒟 := fun σ Ot Hf H Q e q =>
  h σ Ot Hf H _ e fun J H1f H1 n item g1' ⟨Gd, gd, go, stop, yld⟩ ⟨xs, en, hz, it, hlen, turn, done⟩ => fun D hD => by
    have e1 := e.grow g1'
    have noD : Ot D = none := none_back e1.ot hD
    have g2 := Grow.newO (o := .lst []) g1'.sub hD
    refine ⟨fun i m H' => ∃ Hf' us, i + m = n ∧ Grow H1f H1 Hf' H' ∧ Hf' D = none ∧ H' D = some (.lst us) ∧ DpAll K Hf' us (((xs.take i).flatMap fun x => (ys x).map (f x)).map Enc.enc), ⟨n, H1f, [], by omega, g2, none_back g1'.sub hD, upd_same, .nil⟩, ?_⟩
    rintro i m H' ⟨Hf', us, em, gI, nf, hp, hd⟩
    by_cases hi : i < n
    · refine .inr ⟨go i H' hi (gd H' (gI.f.trans gI.sub)), fun H2 => ∃ Hf2 us2, Grow H1f H1 Hf2 H2 ∧ Hf2 D = none ∧ H2 D = some (.lst us2) ∧ DpAll K Hf2 us2 (((xs.take (i + 1)).flatMap fun x => (ys x).map (f x)).map Enc.enc),
        fun H2 ⟨Hf2, us2, a1, a2, a3, a4⟩ => ⟨m - 1, by omega, Hf2, us2, by omega, a1, a2, a3, a4⟩, fun x H2 y => ?_⟩
      obtain ⟨Hf3, A, g3, a, hit⟩ := yld i Hf' H' x H2 hi gI.f gI.sub y
      obtain ⟨z, hx, l⟩ := it i A hi hit
      have tk := take_snoc hx
      have pf : (xs.take i ++ [z]) <+: xs := by rw [← tk]; exact List.take_prefix _ _
      obtain ⟨nf3, hp3⟩ := g3.hold hp nf
      refine turn z (List.mem_of_getElem? hx) (L2.wipe σ vs) Ot Hf3 H2 x _ ((e1.grow (gI.trans g3)).wipe vs) (l _ _ a) fun σ4 ρ4 e4 w4 ⟨hno, ht⟩ => ⟨(w4 vs hj).trans (wipe_wipe vs vs fun _ z => z), ?_⟩
      show wi1 σ4 H2 _
      refine ht σ4 Ot Hf3 H2 _ e4 fun J1 H5f H5 n1 item1 g5 ⟨Gd1, gd1, go1, stop1, yld1⟩ ⟨zs, en1, hz1, it1, ezs, turn1⟩ => ?_
      subst ezs
      have e5 := e4.grow g5
      obtain ⟨nf5, hp5⟩ := g5.hold hp3 nf3
      -- what lies at D, piece by piece
      have tot : ∀ j, j ≤ (ys z).length → (((xs.take i).flatMap fun x => (ys x).map (f x)).map Enc.enc).length + j ≤ 10000000 := fun j hj' => by
        obtain ⟨t, ht⟩ := pf
        rw [← ht, List.flatMap_append, List.flatMap_append, List.length_append, List.length_append, List.flatMap_cons, List.flatMap_nil, List.append_nil, List.length_map] at hlen
        rw [List.length_map]
        omega
      refine ⟨fun j k H6 => ∃ Hf6 H0 us6, j + k = n1 ∧ H6 = upd H0 D (.lst us6) ∧ Grow H5f H5 Hf6 H0 ∧ DpAll K Hf6 us6 (((xs.take i).flatMap fun x => (ys x).map (f x)).map Enc.enc ++ (((ys z).take j).map (f z)).map Enc.enc), ⟨n1, H5f, H5, us, by omega, (upd_self hp5).symm, Grow.refl g5.sub, by
        rw [List.take_zero, List.map_nil, List.map_nil, List.append_nil]
        exact dpAll_mono (g3.f.trans g5.f) _ _ hd⟩, ?_⟩
      rintro j k H6 ⟨Hf6, H0, us6, em1, rfl, g6, hd6⟩
      obtain ⟨nf6, hp6⟩ := g6.hold hp5 nf5
      have e6 := (e5.grow g6).but (o := .lst us6) hno nf6 noD
      by_cases hi1 : j < n1
      · refine .inr ⟨go1 j _ hi1 (gd1 _ (g6.f.trans e6.hf)), fun H7 => ∃ Hf7 H07 us7, H7 = upd H07 D (.lst us7) ∧ Grow H5f H5 Hf7 H07 ∧ DpAll K Hf7 us7 (((xs.take i).flatMap fun x => (ys x).map (f x)).map Enc.enc ++ (((ys z).take (j + 1)).map (f z)).map Enc.enc),
          fun H7 ⟨Hf7, H07, us7, a1, a2, a3⟩ => ⟨k - 1, by omega, Hf7, H07, us7, by omega, a1, a2, a3⟩, fun x1 H7 y1 => ?_⟩
        obtain ⟨Hf7, A1, g7, a1, hit1⟩ := yld1 j Hf6 _ x1 H7 hi1 g6.f e6.hf y1
        obtain ⟨z1, hx1, l1⟩ := it1 j A1 hi1 hit1
        have tk1 := take_snoc hx1
        obtain ⟨nf7, hp7⟩ := g7.hold upd_same nf6
        refine turn1 z1 (List.mem_of_getElem? hx1) (L2.wipe σ4 vs1) Ot Hf7 H7 x1 _ ((e6.grow g7).wipe vs1) (l1 _ _ a1) fun σ8 ρ8 e8 w8 hw => ⟨(w8 vs1 hj1).trans (wipe_wipe vs1 vs1 fun _ z => z), ?_⟩
        show te σ8 H7 _
        refine hw σ8 Ot Hf7 H7 _ e8 fun v Hf9 H9 B g9 b9 l9 => ?_
        obtain ⟨nf9, hp9⟩ := g9.hold hp7 nf7
        have g79 := g7.trans g9
        have hd9 := dpAll_mono g79.f _ _ hd6
        refine ⟨us6, hp9, ?_, Hf9, upd H9 D (.lst us), us6 ++ [v], by rw [upd_upd], g6.trans (g79.but nf6 hp6 g6.sub), ?_⟩
        · have t9 := tot (min j (ys z).length) (Nat.min_le_right _ _)
          rw [dpAll_len hd9]
          simp only [List.length_append, List.length_map, List.length_take] at t9 ⊢
          exact Nat.lt_of_le_of_lt t9 (by decide)
        · rw [tk1, List.map_append, List.map_append, ← List.append_assoc]
          exact dpAll_app hd9 (.cons (l9 _ _ b9) .nil)
      · have ei : j = n1 := by omega
        subst ei
        rw [en1, List.take_length] at hd6
        refine .inl ⟨stop1 _ (gd1 _ (g6.f.trans e6.hf)), Hf6, us6, ?_, nf6, upd_same, ?_⟩
        · exact (gI.trans (g3.trans (g5.trans g6))).updO hD nf6
        · rw [tk, List.flatMap_append, List.map_append, List.flatMap_cons, List.flatMap_nil, List.append_nil]
          exact hd6
    · have ei : i = n := by omega
      subst ei
      rw [en, List.take_length] at hd
      exact .inl ⟨stop H' (gd H' (gI.f.trans gI.sub)), q D us _ Hf' H' (g1'.trans gI) (g1'.n _ hD) nf hp hd done⟩
/-- a call's new list, fixed at once -/
theorem c_new {r : List V → Hp → VK → Prop} {As : List Fact} (h : CN K r As fun ds => 𝒜 (isL K ds)) : C r As 𝒜 := fun us Hf H Q s as q =>
  h us Hf H Q s as fun p vs ds H1f H1 g n nf hp hd k => by
    have sm : Sm H1f (upd H1f p (.lst vs)) := sm_new nf
    exact q (.ref p) (upd H1f p (.lst vs)) H1 (isL K ds) (g.fix n nf hp) ⟨p, vs, rfl, upd_same, dpAll_mono sm _ _ hd⟩ k
/-! ### what the slots are, by computing -/
def nOwn : Slot → Bool
  | .own _ => false
  | _ => true
theorem noOwn_of (h : ρ.all nOwn = true) : NoOwn ρ := fun j ds z => by
  have := List.all_eq_true.mp h _ (List.mem_of_getElem? z)
  cases this
/-- a tuple as a list of things of one type -/
theorem w_tupL {α : Type} [Enc α] {tr : TA} (h : WA K tr ρ fun As => ∃ xs : List α, DataOf K As (xs.map Enc.enc) ∧ xs.length ≤ 1000 ∧ 𝒜 (Is K xs)) : W K (tTup tr) ρ 𝒜 :=
  w_tup fun σ Ot Hf H Q e q => h σ Ot Hf H Q e fun vs Hf' H' As g a ⟨xs, hd, hl, k⟩ => q vs Hf' H' As g a ⟨xs.map Enc.enc, hd, by rw [List.length_map]; exact hl, k⟩
theorem wn_lstL {α : Type} [Enc α] {tr : TA} {𝒟 : List PyData → Prop} (h : WA K tr ρ fun As => ∃ xs : List α, DataOf K As (xs.map Enc.enc) ∧ xs.length ≤ 1000 ∧ 𝒟 (xs.map Enc.enc)) : WN K (tLst tr) ρ 𝒟 :=
  wn_lst fun σ Ot Hf H Q e q => h σ Ot Hf H Q e fun vs Hf' H' As g a ⟨xs, hd, hl, k⟩ => q vs Hf' H' As g a ⟨xs.map Enc.enc, hd, by rw [List.length_map]; exact hl, k⟩
/-- a tuple of things of which facts are known -/
def isTF (As : List Fact) : Fact := ⟨fun v H => ∃ p vs, v = .ref p ∧ H p = some (.tup vs) ∧ AllOk As vs H, fun e ⟨p, vs, h1, h2, h3⟩ => ⟨p, vs, h1, e.k p _ h2 nT_tup, AllOk.mono e h3⟩⟩
theorem allOk_len' {H : Hp} : ∀ {As : List Fact} {vs : List V}, AllOk As vs H → vs.length = As.length
  | [], [], _ => rfl
  | A :: As, v :: vs, h => by rw [List.length_cons, List.length_cons, allOk_len' h.2]
  | [], _ :: _, h => h.elim
  | _ :: _, [], h => h.elim
theorem w_tupF {tr : TA} (h : WA K tr ρ fun As => As.length ≤ 1000 ∧ 𝒜 (isTF As)) : W K (tTup tr) ρ 𝒜 := fun σ Ot Hf H Q e q =>
  h σ Ot Hf H _ e fun vs H1f H1 As g1 as ⟨hl, k⟩ => by
    refine ⟨?_, fun p hp => ?_⟩
    · rw [allOk_len' as]
      exact Nat.le_of_lt (small1000 hl)
    · have g2 := Grow.new (o := .tup vs) g1.sub hp
      exact q _ _ _ (isTF As) (g1.trans g2) ⟨p, vs, rfl, upd_same, AllOk.mono g2.f as⟩ k
theorem g_tupF {gs : TGs} {As : List Fact} {n : Nat} {js : List Nat} {k : Rho → Prop} (hn : As.length = n) (h : Gs K gs ρ As js k) : G K (gTup K n gs) ρ (isTF As) js k := fun σ Ot Hf H v Q e ⟨p, xs, e1, h1, h2⟩ q => by
  subst e1
  exact ⟨p, xs, rfl, .inl (.inl (e.hf _ _ h1)), (allOk_len' h2).trans hn, h σ Ot Hf H xs Q e h2 q⟩
/-- a, b = (a new list, e), the list the frame's own -/
theorem ss_parN {P : Post} {i j : Nat} {ta tb : TE} (hij : i ≠ j) (h : WN K ta ρ fun ds => W K tb ρ fun B => P.nx ((ρ.set i (.own ds)).set j (.fact B))) : SS K (tPar i j (tCons ta (tCons tb tNil))) ρ P := fun D σ Ot Hf H e a _ _ _ =>
  h σ Ot Hf H _ e fun p vs ds H1f H1 g1 n nf hp hd h2 => h2 σ Ot H1f H1 _ (e.grow g1) fun w H2f H2 B g2 b z => by
    obtain ⟨nf2, hp2⟩ := g2.hold hp nf
    have e2 := (e.grow g1).grow g2
    have no : Ot p = none := none_back e.ot n
    refine ⟨.ref p, w, rfl, a _ H2f H2 _ (g1.f.trans g2.f) ((e2.setO hp2 (dpAll_mono g2.f _ _ hd) nf2 no fun k es hk q => ?_).setF b) z⟩
    obtain ⟨p', vs', k1, k2, _⟩ := e.own k es hk
    rw [q] at k1
    cases k1
    rw [n] at k2
    cases k2
end
end DL
/-! DLo: enumerate over a tuple. -/
namespace DL
open PySem PySem.Spec PySem.Calls PyProof.Rows L2
open AutoSeq1 (wpAny_loadPart')
theorem enum_new1 {v : Value} {o : Obj} {H : Heap → Prop} (B : Begins v o H) :
    Meets (Builtin.«enumerate.__new__» ⟨[.type "enumerate", v], []⟩) (fun _ R s => H s.heap ∧
      R (.ok (.ret (.ref (s.heap.push o).objs.size))) { s with heap := (s.heap.push o).push { cls := .type "enumerate", data := .fields #[.none, .bool false, .ref s.heap.objs.size, rawInt 0, .none, .none] } }) :=
  .of_wp fun prog w A R s h => by
    obtain ⟨hp, g, d, tk, os⟩ := s; obtain ⟨h1, h⟩ := h
    have hsub := sub_enumerate
    have q1 : ∀ {A' : Around} {E : Value → Shared → Prop} {Q : Value → Shared → Prop}, Q (.ref hp.objs.size) ⟨hp.push o, g, d, tk, os⟩ → wpAny (model prog w) A' (pyIter v) Q E ⟨hp, g, d, tk, os⟩ :=
      fun q => B.iter prog w _ _ ⟨hp, g, d, tk, os⟩ _ h1 q
    wp_walk using q1
    refine wpAny_stack_any fun st => wpAny_pure ?_
    split
    · rename_i c _ _ _ _ _
      cases (c == Value.type "enumerate")
      · wp_walk using q1
        exact ⟨_, rfl, h⟩
      · wp_walk using q1
        exact ⟨_, rfl, h⟩
    · wp_walk using q1
      exact ⟨_, rfl, h⟩
theorem enum_call1 {prog : Program} {w : World} {A : Around} {E : Value → Shared → Prop} {s : Shared} {v : Value} {o : Obj} {H : Heap → Prop} {Q : Value → Shared → Prop} (B : Begins v o H) (h1 : H s.heap)
    (h : ∀ h', IsEnum h' (s.heap.objs.size + 1) s.heap.objs.size 0 .none → h'.get? s.heap.objs.size = some o → (∀ b o, s.heap.get? b = some o → h'.get? b = some o) → Q (.ref (s.heap.objs.size + 1)) { s with heap := h' }) :
    wpAny (model prog w) A (call (.type "enumerate") [v]) Q E s := by
  refine callType_new F.called_enumerate (by decide) (F.typeCall_enumerate_1 _) (F.newCall_enumerate_1 _) (fun obj => F.args_object_init_2 obj _) F.entry_enumerate_new (enum_new1 B) ⟨h1, ?_⟩
  have hz : (s.heap.push o).objs.size = s.heap.objs.size + 1 := Heap.size_push ..
  show _ ∧ _
  rw [hz]
  have he : IsEnum ((s.heap.push o).push { cls := .type "enumerate", data := .fields #[.none, .bool false, .ref s.heap.objs.size, rawInt 0, .none, .none] }) (s.heap.objs.size + 1) s.heap.objs.size 0 .none := by
    have q := Heap.get?_push_size (s.heap.push o) (o := { cls := .type "enumerate", data := .fields #[.none, .bool false, .ref s.heap.objs.size, rawInt 0, .none, .none] }) rfl
    rw [hz] at q
    exact q
  exact ⟨⟨_, he, rfl⟩, h _ he (Heap.get?_push_of_some _ (Heap.get?_push_size _ B.free)) fun b o x => Heap.get?_push_of_some _ (Heap.get?_push_of_some _ x)⟩
/-- the tuple at a, each item in a new pair with its number -/
def ItEnT (K : PySem.W.Frag) (a : Addr) : It :=
  ⟨fun i H => ∃ (xs : List V) (x : V), SqT K H a xs ∧ xs[i]? = some x, fun i H v H' => ∃ T x, v = .ref T ∧ H T = none ∧ H' = upd H T (.tup [.int (i : Nat), x]) ∧ ∀ xs, SqT K H a xs → xs[i]? = some x, fun i H => ∃ xs : List V, SqT K H a xs ∧ xs.length = i⟩
theorem turn_enT {P : Program} {w : World} {K : PySem.W.Frag} {elts : List Expr} {kk : Nat} {tpos : Pos} (a e it : Addr) (hai : a ≠ it) (hae : e ≠ a) :
    Turn P w K (.Tuple elts kk tpos) (ItEnT K a) [e, it] e (fun i h => (∃ old, IsEnum h e it ((i : Nat) : Int) old) ∧ h.IsTupleIter it a i ∧ e ≠ it) where
  mem := by simp
  obj := fun i h st b hb => by
    obtain ⟨⟨old, he⟩, ⟨o, ho, hc, hd⟩, _⟩ := st
    have e' : b = e ∨ b = it := by simpa using hb
    rcases e' with z | z
    · rw [z]; exact ⟨_, he, fun v q => nomatch q⟩
    · rw [z]; exact ⟨o, ho, fun v q => by rw [hd] at q; cases q⟩
  keep := fun i h h' st k => let ⟨⟨old, he⟩, hi, hne⟩ := st; ⟨⟨old, k e (by simp) _ he⟩, hi.at fun o q => k it (by simp) o q, hne⟩
  item := by
    intro X hP hw hK hc i pins s σ H E I hf st hg
    subst hP hw hK
    obtain ⟨⟨old, he⟩, hit, hne⟩ := st
    obtain ⟨xs, x, hq, hx⟩ := hg
    obtain ⟨its, rv, p, hz⟩ := I.tuple hq
    obtain ⟨u, hu, ru⟩ := rv.get hx
    have hel : e < s.heap.objs.size := Heap.lt_size he
    have hil : it < s.heap.objs.size := by obtain ⟨_, q, _⟩ := hit; exact Heap.lt_size q
    have hi : i < its.toArray.size := by rw [List.size_toArray, ← rv.length]; exact (List.getElem?_eq_some_iff.mp hx).1
    refine wpAny_pyNext_enum_itemC (Draws.tuple (A := X.A.in1) (I.ok.hd hc) it a hai its.toArray) he ⟨hit, p⟩ hi hne (by simp [hne, hae]) fun y h' tk hy ho hit' hT hsz hk => ?_
    have ey : y = u := by
      have h1 : its.toArray[i]? = some y := hy
      rw [show its.toArray[i]? = some u from by simpa using hu] at h1
      exact (Option.some.inj h1).symm
    subst ey
    refine ⟨_, rfl, wpAny_letOwnedTupleGo_enum (s := { s with heap := h', toks := tk + 1 }) ho fun h'' he' sb => ?_⟩
    have hT2 : h''.get? s.heap.objs.size = some { cls := .type "tuple", data := .seq #[.int i tk, y] } := (sb.2 _ (Nat.ne_of_gt hel)).trans hT
    have new : ObjOk X.prog X.w (upd H s.heap.objs.size (.tup [.int (i : Nat), x])) h'' s.heap.objs.size (.tup [.int (i : Nat), x]) :=
      ⟨by show 2 ≤ sizeLine; decide, [.int i tk, y], .cons ⟨_, rfl⟩ (.cons ru .nil), ⟨_, hT2, rfl, _, rfl⟩⟩
    have I1 : Inv X pins σ (upd H s.heap.objs.size (.tup [.int (i : Nat), x])) { s with heap := h'', toks := tk + 1 } :=
      I.turnedNew (ch := [e, it]) (fun b ob hb q => (sb.2 b (fun z => hb (by simp [z]))).trans (hk b ob (fun z => hb (by simp [z])) (fun z => hb (by simp [z])) q)) hf (Nat.le_refl _) new
    refine ⟨.ref s.heap.objs.size, _, I1, rfl, ⟨_, x, rfl, I.hok.fresh (Nat.le_refl _), rfl, fun ys hy => by rw [I.tuple_inj hy hq]; exact hx⟩, ⟨⟨y, ?_⟩, hit'.1.at fun o q => (sb.2 it (Ne.symm hne)).trans q, hne⟩, fun b hb => ?_⟩
    · have e1 : ((i + 1 : Nat) : Int) = (i : Int) + 1 := by omega
      rw [e1]; exact he'
    · have hb' : b < s.heap.objs.size := by
        have e' : b = e ∨ b = it := by simpa using hb
        rcases e' with z | z
        · rw [z]; exact hel
        · rw [z]; exact hil
      rw [upd_ne (Nat.ne_of_lt hb')]
      exact (hf b hb).1
  done := by
    intro X hP hw hK hc i pins s σ H E I hf st hg
    subst hP hw hK
    obtain ⟨⟨old, he⟩, hit, hne⟩ := st
    obtain ⟨xs, hq, hx⟩ := hg
    obtain ⟨its, rv, p, hz⟩ := I.tuple hq
    obtain ⟨f0, f1, f2, f3, f4, f5⟩ := hf it (by simp)
    have ei : its.toArray.size = i := by rw [List.size_toArray, ← rv.length]; exact hx
    refine wpAny_pyNext_enum_endD (Draws.tuple (A := X.A.in1) (I.ok.hd hc) it a hai its.toArray) he ?_ fun h' eb => ⟨rfl, I.turned (t' := s.toks) (fun b o hb q => eb b o hb q) f0 f1 f3 f4 f5⟩
    rw [ei]
    exact ⟨hit, p⟩
  self := fun A i s Q E st h => let ⟨⟨_, he⟩, _⟩ := st; wpAny_pyIter_enum he h
def iEnumT (K : PySem.W.Frag) (ta : TA) : TI := fun σ H R => ta σ H fun vs H1 => ∃ a xs, vs = [.ref a] ∧ SqT K H1 a xs ∧ R (ItEnT K a) H1
theorem pi_enumT {X : Cx} {e : Expr} {ta : TA} {p pos tpos : Pos} {elts : List Expr} {kk : Nat} (hg : Gl X "enumerate") (hm : X.mg "enumerate" = none) (ha : PA X [e] ta) (hs : starEach [e] X.env = [(false, eval e X.env)] := by rfl) :
    PI X (.Tuple elts kk tpos) (.Call (.Name "enumerate" p) [e] [] pos) (iEnumT X.K ta) := by
  refine ⟨fun pins s σ H R I h => ?_⟩
  refine Call_ (ld_blt I hg hm boot_enumerate (PyProof.Rows.callWith_type1 (thn (ha.run pos pins s σ H _ I h) fun us s1 ⟨vs, H1, I1, r1, q1⟩ => ?_) hs rfl))
  obtain ⟨a, xs, ex, hq, q⟩ := q1
  subst ex
  cases r1 with
  | cons r rr =>
    cases rr
    cases r
    obtain ⟨its, rv, p', hz⟩ := I1.tuple hq
    have halt : a < s1.heap.objs.size := by obtain ⟨_, e1, _⟩ := p'; exact Heap.lt_size e1
    refine enum_call1 (begins_tuple a its.toArray) p' fun h' he hit hk => wpAny_pyIter_enum he ?_
    have I2 : Inv X pins σ H1 { s1 with heap := h' } := I1.kept (t' := s1.toks) hk
    refine ⟨s1.heap.objs.size + 1, [s1.heap.objs.size + 1, s1.heap.objs.size], _, _, H1, rfl, I2, turn_enT a (s1.heap.objs.size + 1) s1.heap.objs.size (Nat.ne_of_lt halt) (Nat.ne_of_gt (Nat.lt_succ_of_lt halt)), ⟨⟨.none, he⟩, ⟨_, hit, rfl, rfl⟩, Nat.succ_ne_self _⟩, fun b hb => ?_, q⟩
    have e' : b = s1.heap.objs.size + 1 ∨ b = s1.heap.objs.size := by simpa using hb
    have hle : s1.heap.objs.size ≤ b := by
      rcases e' with z | z
      · rw [z]; exact Nat.le_add_right _ _
      · rw [z]; exact Nat.le_refl _
    exact I1.fpOk hle (I1.hok.fresh hle)
section
variable {K : PySem.W.Frag} {ρ : Rho} {α : Type} [Enc α]
/-- the pairs (number, item) -/
def enumM {γ : Type} (xs : List γ) : List (Nat × γ) := (List.range xs.length).zip xs
theorem enumM_get {γ : Type} {xs : List γ} {i : Nat} {x : γ} (h : xs[i]? = some x) : (enumM xs)[i]? = some (i, x) := by
  unfold enumM
  rw [List.getElem?_zip_eq_some]
  exact ⟨List.getElem?_range (List.getElem?_eq_some_iff.mp h).1, h⟩
theorem enumM_len {γ : Type} (xs : List γ) : (enumM xs).length = xs.length := by
  unfold enumM
  rw [List.length_zip, List.length_range, Nat.min_self]
theorem wx_enumT {ta : TA} {k : List (Nat × α) → Prop} (h : WA K ta ρ fun As => ∃ xs : List α, As = [Is K xs] ∧ xs.length ≤ sizeLine ∧ k (enumM xs)) : WX K (iEnumT K ta) ρ (fun p : Nat × α => Is K p) k := fun σ Ot Hf H Rr e q =>
  h σ Ot Hf H _ e fun vs H1f H1 As g1 as ⟨xs, eq, hz, hk⟩ => by
    subst eq
    obtain ⟨v, rfl, a⟩ := all1 as
    obtain ⟨p, us, rfl, a1, a2⟩ := dp_tup a
    have lu : us.length = xs.length := by rw [dpAll_len a2, List.length_map]
    refine ⟨p, us, rfl, same_t g1.sub a1, q _ H1f H1 xs.length (fun i F => ∃ x, (enumM xs)[i]? = some x ∧ F = Is K x) g1 ⟨fun H2 => SqT K H2 p us, fun H2 s => same_t s a1, fun i H2 hi z => ?_, fun H2 z => ⟨us, z, lu⟩, fun i Hf2 H2 x H3 hi s s2 y => ?_⟩
      ⟨enumM xs, (enumM_len xs).symm, hz, fun i F hi ⟨x, hx, eF⟩ => ⟨x, hx, Le.of_eq eF⟩, hk⟩⟩
    · have hi' : i < us.length := by omega
      exact ⟨us, us[i], z, List.getElem?_eq_getElem hi'⟩
    · obtain ⟨T, x1, rfl, nT, rfl, f1⟩ := y
      obtain ⟨d, hd, dp⟩ := dpAll_gets a2 (f1 us (same_t (s.trans s2) a1))
      obtain ⟨z, hz', rfl⟩ := get_map hd
      have g := Grow.new (o := .tup [.int (i : Nat), x1]) s2 nT
      exact ⟨_, Is K (i, z), g, Dp.tup (.inl (.inl upd_same)) (.cons (Dp.int _) (.cons (dp_mono (s.trans g.f) _ _ dp) .nil)), _, enumM_get hz', rfl⟩
end
end DL
/-! K89a: the program's defs by name, their scopes; what the top has written. -/
namespace K89
open PySem PySem.Spec PyProof.Rows L2 DL

def topS (i : Nat) : Stmt := PySem.Challenge.pw_keywise_k89_whole_patterns_give_the_rule.main.body.getD i (.Pass ⟨0, 0, 0, 0⟩)
abbrev s_is_integer : Stmt := topS 7
abbrev s_is_between : Stmt := topS 8
abbrev s_are_ascending : Stmt := topS 9
abbrev s_is_row_in : Stmt := topS 10
abbrev s_is_literal : Stmt := topS 11
abbrev s_is_partial_in : Stmt := topS 12
abbrev s_has_both_bits : Stmt := topS 13
abbrev s_is_rule : Stmt := topS 14
abbrev s_require_size : Stmt := topS 15
abbrev s_require_rule : Stmt := topS 16
abbrev s_require_partial : Stmt := topS 17
abbrev s_rows_of_size : Stmt := topS 18
abbrev s_contains_in : Stmt := topS 19
abbrev s_code_of : Stmt := topS 21
abbrev s_held_codes : Stmt := topS 22
abbrev s_numbers_within : Stmt := topS 23
abbrev s_is_least : Stmt := topS 24
abbrev s_partial_of : Stmt := topS 25
abbrev s_patterns_in : Stmt := topS 26
abbrev s_is_held : Stmt := topS 27
abbrev s_is_pattern_in : Stmt := topS 28
abbrev s_is_part : Stmt := topS 29
abbrev s_first_within : Stmt := topS 30
abbrev s_is_row_for : Stmt := topS 31
abbrev s_require_partials : Stmt := topS 32
abbrev s_rows_without : Stmt := topS 33
abbrev s_patterns : Stmt := topS 34
abbrev s_is_pattern : Stmt := topS 35
abbrev s_pattern_within : Stmt := topS 36
abbrev s_pattern_rows : Stmt := topS 37
abbrev s_is_pattern_paper : Stmt := topS 38
abbrev s_rule_of_patterns : Stmt := topS 39
abbrev s_gives : Stmt := topS 40
abbrev s__law_stream : Stmt := topS 42
abbrev s__law_draw : Stmt := topS 43
abbrev s__law_pick : Stmt := topS 44
abbrev s__law_mixed : Stmt := topS 45
abbrev s__law_rows : Stmt := topS 46
abbrev s__law_row : Stmt := topS 47
abbrev s__law_is_rule : Stmt := topS 48
abbrev s__law_rule_of : Stmt := topS 49
abbrev s__law_contains : Stmt := topS 50
abbrev s__law_partial : Stmt := topS 51
abbrev s__law_drawn_rows : Stmt := topS 52
abbrev s__law_rule : Stmt := topS 53
abbrev s__law_partials : Stmt := topS 54
abbrev s__law_is_held : Stmt := topS 55
abbrev s__law_is_pattern : Stmt := topS 56
abbrev s__law_is_part : Stmt := topS 57
abbrev s__law_without : Stmt := topS 58
abbrev s__law_rows_for : Stmt := topS 59
abbrev s__law_partial_right : Stmt := topS 60
abbrev s__law_set_right : Stmt := topS 61
abbrev s__law_given_right : Stmt := topS 62
abbrev s__law_right : Stmt := topS 63
abbrev s_law : Stmt := topS 64
theorem sc_is_integer : FnScope ["value"] ["value"] (defScope s_is_integer) := ⟨rfl, rfl, rfl, by decide +kernel, rfl, by decide +kernel, by decide +kernel⟩
theorem sc_is_between : FnScope ["value", "low", "high"] ["value", "low", "high"] (defScope s_is_between) := ⟨rfl, rfl, rfl, by decide +kernel, rfl, by decide +kernel, by decide +kernel⟩
theorem sc_are_ascending : FnScope ["items", "one", "other"] ["items"] (defScope s_are_ascending) := ⟨rfl, rfl, rfl, by decide +kernel, rfl, by decide +kernel, by decide +kernel⟩
theorem sc_is_row_in : FnScope ["size", "value", "bit"] ["size", "value"] (defScope s_is_row_in) := ⟨rfl, rfl, rfl, by decide +kernel, rfl, by decide +kernel, by decide +kernel⟩
theorem sc_is_literal : FnScope ["size", "value"] ["size", "value"] (defScope s_is_literal) := ⟨rfl, rfl, rfl, by decide +kernel, rfl, by decide +kernel, by decide +kernel⟩
theorem sc_is_partial_in : FnScope ["size", "value", "literal", "key", "bit"] ["size", "value"] (defScope s_is_partial_in) := ⟨rfl, rfl, rfl, by decide +kernel, rfl, by decide +kernel, by decide +kernel⟩
theorem sc_has_both_bits : FnScope ["size", "rows", "key", "row"] ["size", "rows"] (defScope s_has_both_bits) := ⟨rfl, rfl, rfl, by decide +kernel, rfl, by decide +kernel, by decide +kernel⟩
theorem sc_is_rule : FnScope ["value", "size", "rows", "row"] ["value"] (defScope s_is_rule) := ⟨rfl, rfl, rfl, by decide +kernel, rfl, by decide +kernel, by decide +kernel⟩
theorem sc_require_size : FnScope ["size"] ["size"] (defScope s_require_size) := ⟨rfl, rfl, rfl, by decide +kernel, rfl, by decide +kernel, by decide +kernel⟩
theorem sc_require_rule : FnScope ["rule"] ["rule"] (defScope s_require_rule) := ⟨rfl, rfl, rfl, by decide +kernel, rfl, by decide +kernel, by decide +kernel⟩
theorem sc_require_partial : FnScope ["size", "partial"] ["size", "partial"] (defScope s_require_partial) := ⟨rfl, rfl, rfl, by decide +kernel, rfl, by decide +kernel, by decide +kernel⟩
theorem sc_rows_of_size : FnScope ["size", "rows", "key", "row", "bit"] ["size"] (defScope s_rows_of_size) := ⟨rfl, rfl, rfl, by decide +kernel, rfl, by decide +kernel, by decide +kernel⟩
theorem sc_contains_in : FnScope ["row", "partial", "key", "bit"] ["row", "partial"] (defScope s_contains_in) := ⟨rfl, rfl, rfl, by decide +kernel, rfl, by decide +kernel, by decide +kernel⟩
theorem sc_code_of : FnScope ["row", "key", "bit"] ["row"] (defScope s_code_of) := ⟨rfl, rfl, rfl, by decide +kernel, rfl, by decide +kernel, by decide +kernel⟩
theorem sc_held_codes : FnScope ["rule", "size", "rows", "codes", "row", "code", "mask"] ["rule"] (defScope s_held_codes) := ⟨rfl, rfl, rfl, by decide +kernel, rfl, by decide +kernel, by decide +kernel⟩
theorem sc_numbers_within : FnScope ["mask", "found", "bits"] ["mask"] (defScope s_numbers_within) := ⟨rfl, rfl, rfl, by decide +kernel, rfl, by decide +kernel, by decide +kernel⟩
theorem sc_is_least : FnScope ["held", "size", "mask", "bits", "key", "one"] ["held", "size", "mask", "bits"] (defScope s_is_least) := ⟨rfl, rfl, rfl, by decide +kernel, rfl, by decide +kernel, by decide +kernel⟩
theorem sc_partial_of : FnScope ["size", "mask", "bits", "key"] ["size", "mask", "bits"] (defScope s_partial_of) := ⟨rfl, rfl, rfl, by decide +kernel, rfl, by decide +kernel, by decide +kernel⟩
theorem sc_patterns_in : FnScope ["rule", "held", "size", "pairs", "mask", "bits"] ["rule"] (defScope s_patterns_in) := ⟨rfl, rfl, rfl, by decide +kernel, rfl, by decide +kernel, by decide +kernel⟩
theorem sc_is_held : FnScope ["rule", "partial", "row"] ["rule", "partial"] (defScope s_is_held) := ⟨rfl, rfl, rfl, by decide +kernel, rfl, by decide +kernel, by decide +kernel⟩
theorem sc_is_pattern_in : FnScope ["rule", "value", "at"] ["rule", "value"] (defScope s_is_pattern_in) := ⟨rfl, rfl, rfl, by decide +kernel, rfl, by decide +kernel, by decide +kernel⟩
theorem sc_is_part : FnScope ["partial", "other", "literal"] ["partial", "other"] (defScope s_is_part) := ⟨rfl, rfl, rfl, by decide +kernel, rfl, by decide +kernel, by decide +kernel⟩
theorem sc_first_within : FnScope ["found", "partial", "some", "pattern"] ["found", "partial"] (defScope s_first_within) := ⟨rfl, rfl, rfl, by decide +kernel, rfl, by decide +kernel, by decide +kernel⟩
theorem sc_is_row_for : FnScope ["rule", "row", "pattern", "at"] ["rule", "row", "pattern", "at"] (defScope s_is_row_for) := ⟨rfl, rfl, rfl, by decide +kernel, rfl, by decide +kernel, by decide +kernel⟩
theorem sc_require_partials : FnScope ["size", "partials", "partial"] ["size", "partials"] (defScope s_require_partials) := ⟨rfl, rfl, rfl, by decide +kernel, rfl, by decide +kernel, by decide +kernel⟩
theorem sc_rows_without : FnScope ["size", "partials", "row", "partial"] ["size", "partials"] (defScope s_rows_without) := ⟨rfl, rfl, rfl, by decide +kernel, rfl, by decide +kernel, by decide +kernel⟩
theorem sc_patterns : FnScope ["rule"] ["rule"] (defScope s_patterns) := ⟨rfl, rfl, rfl, by decide +kernel, rfl, by decide +kernel, by decide +kernel⟩
theorem sc_is_pattern : FnScope ["rule", "value"] ["rule", "value"] (defScope s_is_pattern) := ⟨rfl, rfl, rfl, by decide +kernel, rfl, by decide +kernel, by decide +kernel⟩
theorem sc_pattern_within : FnScope ["rule", "partial"] ["rule", "partial"] (defScope s_pattern_within) := ⟨rfl, rfl, rfl, by decide +kernel, rfl, by decide +kernel, by decide +kernel⟩
theorem sc_pattern_rows : FnScope ["rule", "pattern", "found", "at", "others", "row"] ["rule", "pattern"] (defScope s_pattern_rows) := ⟨rfl, rfl, rfl, by decide +kernel, rfl, by decide +kernel, by decide +kernel⟩
theorem sc_is_pattern_paper : FnScope ["rule", "value", "pattern", "rows", "at", "row"] ["rule", "value"] (defScope s_is_pattern_paper) := ⟨rfl, rfl, rfl, by decide +kernel, rfl, by decide +kernel, by decide +kernel⟩
theorem sc_rule_of_patterns : FnScope ["size", "partials", "rule"] ["size", "partials"] (defScope s_rule_of_patterns) := ⟨rfl, rfl, rfl, by decide +kernel, rfl, by decide +kernel, by decide +kernel⟩
theorem sc_gives : FnScope ["rule", "partials"] ["rule", "partials"] (defScope s_gives) := ⟨rfl, rfl, rfl, by decide +kernel, rfl, by decide +kernel, by decide +kernel⟩
theorem sc__law_stream : FnScope ["script", "at", "cell", "great", "mixed"] ["script", "at"] (defScope s__law_stream) := ⟨rfl, rfl, rfl, by decide +kernel, rfl, by decide +kernel, by decide +kernel⟩
theorem sc__law_draw : FnScope ["stream", "total", "found", "one", "stir", "two"] ["stream", "total"] (defScope s__law_draw) := ⟨rfl, rfl, rfl, by decide +kernel, rfl, by decide +kernel, by decide +kernel⟩
theorem sc__law_pick : FnScope ["stream", "items"] ["stream", "items"] (defScope s__law_pick) := ⟨rfl, rfl, rfl, by decide +kernel, rfl, by decide +kernel, by decide +kernel⟩
theorem sc__law_mixed : FnScope ["stream", "items", "left", "turn"] ["stream", "items"] (defScope s__law_mixed) := ⟨rfl, rfl, rfl, by decide +kernel, rfl, by decide +kernel, by decide +kernel⟩
theorem sc__law_rows : FnScope ["size", "rows", "key", "longer", "row"] ["size"] (defScope s__law_rows) := ⟨rfl, rfl, rfl, by decide +kernel, rfl, by decide +kernel, by decide +kernel⟩
theorem sc__law_row : FnScope ["stream", "size", "key"] ["stream", "size"] (defScope s__law_row) := ⟨rfl, rfl, rfl, by decide +kernel, rfl, by decide +kernel, by decide +kernel⟩
theorem sc__law_is_rule : FnScope ["size", "rows", "key", "row"] ["size", "rows"] (defScope s__law_is_rule) := ⟨rfl, rfl, rfl, by decide +kernel, rfl, by decide +kernel, by decide +kernel⟩
theorem sc__law_rule_of : FnScope ["stream", "size", "rows", "some", "turn", "row", "bit"] ["stream", "size", "rows"] (defScope s__law_rule_of) := ⟨rfl, rfl, rfl, by decide +kernel, rfl, by decide +kernel, by decide +kernel⟩
theorem sc__law_contains : FnScope ["row", "partial", "key", "bit"] ["row", "partial"] (defScope s__law_contains) := ⟨rfl, rfl, rfl, by decide +kernel, rfl, by decide +kernel, by decide +kernel⟩
theorem sc__law_partial : FnScope ["stream", "size", "most", "keys", "key"] ["stream", "size", "most"] (defScope s__law_partial) := ⟨rfl, rfl, rfl, by decide +kernel, rfl, by decide +kernel, by decide +kernel⟩
theorem sc__law_drawn_rows : FnScope ["stream", "size", "way", "rows", "often", "row", "barred", "turn", "partial", "some", "ones", "keys", "bit", "key"] ["stream", "size", "way"] (defScope s__law_drawn_rows) := ⟨rfl, rfl, rfl, by decide +kernel, rfl, by decide +kernel, by decide +kernel⟩
theorem sc__law_rule : FnScope ["stream", "size"] ["stream", "size"] (defScope s__law_rule) := ⟨rfl, rfl, rfl, by decide +kernel, rfl, by decide +kernel, by decide +kernel⟩
theorem sc__law_partials : FnScope ["size", "found", "key", "longer", "partial"] ["size"] (defScope s__law_partials) := ⟨rfl, rfl, rfl, by decide +kernel, rfl, by decide +kernel, by decide +kernel⟩
theorem sc__law_is_held : FnScope ["rule", "partial", "row"] ["rule", "partial"] (defScope s__law_is_held) := ⟨rfl, rfl, rfl, by decide +kernel, rfl, by decide +kernel, by decide +kernel⟩
theorem sc__law_is_pattern : FnScope ["rule", "partial", "at"] ["rule", "partial"] (defScope s__law_is_pattern) := ⟨rfl, rfl, rfl, by decide +kernel, rfl, by decide +kernel, by decide +kernel⟩
theorem sc__law_is_part : FnScope ["partial", "other", "literal"] ["partial", "other"] (defScope s__law_is_part) := ⟨rfl, rfl, rfl, by decide +kernel, rfl, by decide +kernel, by decide +kernel⟩
theorem sc__law_without : FnScope ["size", "partials", "row", "partial"] ["size", "partials"] (defScope s__law_without) := ⟨rfl, rfl, rfl, by decide +kernel, rfl, by decide +kernel, by decide +kernel⟩
theorem sc__law_rows_for : FnScope ["rule", "partial", "found", "at", "others", "row"] ["rule", "partial"] (defScope s__law_rows_for) := ⟨rfl, rfl, rfl, by decide +kernel, rfl, by decide +kernel, by decide +kernel⟩
theorem sc__law_partial_right : FnScope ["stream", "rule", "told", "partial", "is_met", "parts", "pattern", "due", "some", "rows", "found"] ["stream", "rule", "told", "partial"] (defScope s__law_partial_right) := ⟨rfl, rfl, rfl, by decide +kernel, rfl, by decide +kernel, by decide +kernel⟩
theorem sc__law_set_right : FnScope ["stream", "rule", "told", "size", "before", "barred", "partial", "more", "turn", "pattern", "rest", "other", "rows", "found"] ["stream", "rule", "told"] (defScope s__law_set_right) := ⟨rfl, rfl, rfl, by decide +kernel, rfl, by decide +kernel, by decide +kernel⟩
theorem sc__law_given_right : FnScope ["stream", "size", "some", "turn", "rows", "rule", "e", "told", "partial", "one"] ["stream", "size"] (defScope s__law_given_right) := ⟨rfl, rfl, rfl, by decide +kernel, rfl, by decide +kernel, by decide +kernel⟩
theorem sc__law_right : FnScope ["stream", "rule", "partials", "told", "before", "partial"] ["stream", "rule", "partials"] (defScope s__law_right) := ⟨rfl, rfl, rfl, by decide +kernel, rfl, by decide +kernel, by decide +kernel⟩
theorem sc_law : FnScope ["script", "at", "stream", "rule", "turn", "row", "told", "kinds", "pattern"] ["script"] (defScope s_law) := ⟨rfl, rfl, rfl, by decide +kernel, rfl, by decide +kernel, by decide +kernel⟩
theorem bt_abs : bootBuiltins "abs" = some (.builtin "abs") := by decide +kernel
theorem bt_all : bootBuiltins "all" = some (.builtin "all") := by decide +kernel
theorem bt_any : bootBuiltins "any" = some (.builtin "any") := by decide +kernel
theorem bt_bool : bootBuiltins "bool" = some (.type "bool") := by decide +kernel
theorem bt_enumerate : bootBuiltins "enumerate" = some (.type "enumerate") := by decide +kernel
theorem bt_int : bootBuiltins "int" = some (.type "int") := by decide +kernel
theorem bt_isinstance : bootBuiltins "isinstance" = some (.builtin "isinstance") := by decide +kernel
theorem bt_len : bootBuiltins "len" = some (.builtin "len") := by decide +kernel
theorem bt_list : bootBuiltins "list" = some (.type "list") := by decide +kernel
theorem bt_max : bootBuiltins "max" = some (.builtin "max") := by decide +kernel
theorem bt_min : bootBuiltins "min" = some (.builtin "min") := by decide +kernel
theorem bt_range : bootBuiltins "range" = some (.type "range") := by decide +kernel
theorem bt_repr : bootBuiltins "repr" = some (.builtin "repr") := by decide +kernel
theorem bt_set : bootBuiltins "set" = some (.type "set") := by decide +kernel
theorem bt_sorted : bootBuiltins "sorted" = some (.builtin "sorted") := by decide +kernel
theorem bt_sum : bootBuiltins "sum" = some (.builtin "sum") := by decide +kernel
theorem bt_tuple : bootBuiltins "tuple" = some (.type "tuple") := by decide +kernel
theorem bt_zip : bootBuiltins "zip" = some (.type "zip") := by decide +kernel
/-- what the top has written -/
structure TF (K : PySem.W.Frag) (mg : PySem.Str → Option Value) : Prop where
  d_is_integer : ∃ f fd, Fun K "is_integer" "is_integer" s_is_integer f fd ∧ mg "is_integer" = some (.ref f) ∧ Binds K fd ["value"] []
  d_is_between : ∃ f fd, Fun K "is_between" "is_between" s_is_between f fd ∧ mg "is_between" = some (.ref f) ∧ Binds K fd ["value", "low", "high"] []
  d_are_ascending : ∃ f fd, Fun K "are_ascending" "are_ascending" s_are_ascending f fd ∧ mg "are_ascending" = some (.ref f) ∧ Binds K fd ["items"] []
  d_is_row_in : ∃ f fd, Fun K "is_row_in" "is_row_in" s_is_row_in f fd ∧ mg "is_row_in" = some (.ref f) ∧ Binds K fd ["size", "value"] []
  d_is_literal : ∃ f fd, Fun K "is_literal" "is_literal" s_is_literal f fd ∧ mg "is_literal" = some (.ref f) ∧ Binds K fd ["size", "value"] []
  d_is_partial_in : ∃ f fd, Fun K "is_partial_in" "is_partial_in" s_is_partial_in f fd ∧ mg "is_partial_in" = some (.ref f) ∧ Binds K fd ["size", "value"] []
  d_has_both_bits : ∃ f fd, Fun K "has_both_bits" "has_both_bits" s_has_both_bits f fd ∧ mg "has_both_bits" = some (.ref f) ∧ Binds K fd ["size", "rows"] []
  d_is_rule : ∃ f fd, Fun K "is_rule" "is_rule" s_is_rule f fd ∧ mg "is_rule" = some (.ref f) ∧ Binds K fd ["value"] []
  d_require_size : ∃ f fd, Fun K "require_size" "require_size" s_require_size f fd ∧ mg "require_size" = some (.ref f) ∧ Binds K fd ["size"] []
  d_require_rule : ∃ f fd, Fun K "require_rule" "require_rule" s_require_rule f fd ∧ mg "require_rule" = some (.ref f) ∧ Binds K fd ["rule"] []
  d_require_partial : ∃ f fd, Fun K "require_partial" "require_partial" s_require_partial f fd ∧ mg "require_partial" = some (.ref f) ∧ Binds K fd ["size", "partial"] []
  d_rows_of_size : ∃ f fd, Fun K "rows_of_size" "rows_of_size" s_rows_of_size f fd ∧ mg "rows_of_size" = some (.ref f) ∧ Binds K fd ["size"] []
  d_contains_in : ∃ f fd, Fun K "contains_in" "contains_in" s_contains_in f fd ∧ mg "contains_in" = some (.ref f) ∧ Binds K fd ["row", "partial"] []
  d_code_of : ∃ f fd, Fun K "code_of" "code_of" s_code_of f fd ∧ mg "code_of" = some (.ref f) ∧ Binds K fd ["row"] []
  d_held_codes : ∃ f fd, Fun K "held_codes" "held_codes" s_held_codes f fd ∧ mg "held_codes" = some (.ref f) ∧ Binds K fd ["rule"] []
  d_numbers_within : ∃ f fd, Fun K "numbers_within" "numbers_within" s_numbers_within f fd ∧ mg "numbers_within" = some (.ref f) ∧ Binds K fd ["mask"] []
  d_is_least : ∃ f fd, Fun K "is_least" "is_least" s_is_least f fd ∧ mg "is_least" = some (.ref f) ∧ Binds K fd ["held", "size", "mask", "bits"] []
  d_partial_of : ∃ f fd, Fun K "partial_of" "partial_of" s_partial_of f fd ∧ mg "partial_of" = some (.ref f) ∧ Binds K fd ["size", "mask", "bits"] []
  d_patterns_in : ∃ f fd, Fun K "patterns_in" "patterns_in" s_patterns_in f fd ∧ mg "patterns_in" = some (.ref f) ∧ Binds K fd ["rule"] []
  d_is_held : ∃ f fd, Fun K "is_held" "is_held" s_is_held f fd ∧ mg "is_held" = some (.ref f) ∧ Binds K fd ["rule", "partial"] []
  d_is_pattern_in : ∃ f fd, Fun K "is_pattern_in" "is_pattern_in" s_is_pattern_in f fd ∧ mg "is_pattern_in" = some (.ref f) ∧ Binds K fd ["rule", "value"] []
  d_is_part : ∃ f fd, Fun K "is_part" "is_part" s_is_part f fd ∧ mg "is_part" = some (.ref f) ∧ Binds K fd ["partial", "other"] []
  d_first_within : ∃ f fd, Fun K "first_within" "first_within" s_first_within f fd ∧ mg "first_within" = some (.ref f) ∧ Binds K fd ["found", "partial"] []
  d_is_row_for : ∃ f fd, Fun K "is_row_for" "is_row_for" s_is_row_for f fd ∧ mg "is_row_for" = some (.ref f) ∧ Binds K fd ["rule", "row", "pattern", "at"] []
  d_require_partials : ∃ f fd, Fun K "require_partials" "require_partials" s_require_partials f fd ∧ mg "require_partials" = some (.ref f) ∧ Binds K fd ["size", "partials"] []
  d_rows_without : ∃ f fd, Fun K "rows_without" "rows_without" s_rows_without f fd ∧ mg "rows_without" = some (.ref f) ∧ Binds K fd ["size", "partials"] []
  d_patterns : ∃ f fd, Fun K "patterns" "patterns" s_patterns f fd ∧ mg "patterns" = some (.ref f) ∧ Binds K fd ["rule"] []
  d_is_pattern : ∃ f fd, Fun K "is_pattern" "is_pattern" s_is_pattern f fd ∧ mg "is_pattern" = some (.ref f) ∧ Binds K fd ["rule", "value"] []
  d_pattern_within : ∃ f fd, Fun K "pattern_within" "pattern_within" s_pattern_within f fd ∧ mg "pattern_within" = some (.ref f) ∧ Binds K fd ["rule", "partial"] []
  d_pattern_rows : ∃ f fd, Fun K "pattern_rows" "pattern_rows" s_pattern_rows f fd ∧ mg "pattern_rows" = some (.ref f) ∧ Binds K fd ["rule", "pattern"] []
  d_is_pattern_paper : ∃ f fd, Fun K "is_pattern_paper" "is_pattern_paper" s_is_pattern_paper f fd ∧ mg "is_pattern_paper" = some (.ref f) ∧ Binds K fd ["rule", "value"] []
  d_rule_of_patterns : ∃ f fd, Fun K "rule_of_patterns" "rule_of_patterns" s_rule_of_patterns f fd ∧ mg "rule_of_patterns" = some (.ref f) ∧ Binds K fd ["size", "partials"] []
  d_gives : ∃ f fd, Fun K "gives" "gives" s_gives f fd ∧ mg "gives" = some (.ref f) ∧ Binds K fd ["rule", "partials"] []
  d__law_stream : ∃ f fd, Fun K "_law_stream" "_law_stream" s__law_stream f fd ∧ mg "_law_stream" = some (.ref f) ∧ Binds K fd ["script", "at"] []
  d__law_draw : ∃ f fd, Fun K "_law_draw" "_law_draw" s__law_draw f fd ∧ mg "_law_draw" = some (.ref f) ∧ Binds K fd ["stream", "total"] []
  d__law_pick : ∃ f fd, Fun K "_law_pick" "_law_pick" s__law_pick f fd ∧ mg "_law_pick" = some (.ref f) ∧ Binds K fd ["stream", "items"] []
  d__law_mixed : ∃ f fd, Fun K "_law_mixed" "_law_mixed" s__law_mixed f fd ∧ mg "_law_mixed" = some (.ref f) ∧ Binds K fd ["stream", "items"] []
  d__law_rows : ∃ f fd, Fun K "_law_rows" "_law_rows" s__law_rows f fd ∧ mg "_law_rows" = some (.ref f) ∧ Binds K fd ["size"] []
  d__law_row : ∃ f fd, Fun K "_law_row" "_law_row" s__law_row f fd ∧ mg "_law_row" = some (.ref f) ∧ Binds K fd ["stream", "size"] []
  d__law_is_rule : ∃ f fd, Fun K "_law_is_rule" "_law_is_rule" s__law_is_rule f fd ∧ mg "_law_is_rule" = some (.ref f) ∧ Binds K fd ["size", "rows"] []
  d__law_rule_of : ∃ f fd, Fun K "_law_rule_of" "_law_rule_of" s__law_rule_of f fd ∧ mg "_law_rule_of" = some (.ref f) ∧ Binds K fd ["stream", "size", "rows"] []
  d__law_contains : ∃ f fd, Fun K "_law_contains" "_law_contains" s__law_contains f fd ∧ mg "_law_contains" = some (.ref f) ∧ Binds K fd ["row", "partial"] []
  d__law_partial : ∃ f fd, Fun K "_law_partial" "_law_partial" s__law_partial f fd ∧ mg "_law_partial" = some (.ref f) ∧ Binds K fd ["stream", "size", "most"] []
  d__law_drawn_rows : ∃ f fd, Fun K "_law_drawn_rows" "_law_drawn_rows" s__law_drawn_rows f fd ∧ mg "_law_drawn_rows" = some (.ref f) ∧ Binds K fd ["stream", "size", "way"] []
  d__law_rule : ∃ f fd, Fun K "_law_rule" "_law_rule" s__law_rule f fd ∧ mg "_law_rule" = some (.ref f) ∧ Binds K fd ["stream", "size"] []
  d__law_partials : ∃ f fd, Fun K "_law_partials" "_law_partials" s__law_partials f fd ∧ mg "_law_partials" = some (.ref f) ∧ Binds K fd ["size"] []
  d__law_is_held : ∃ f fd, Fun K "_law_is_held" "_law_is_held" s__law_is_held f fd ∧ mg "_law_is_held" = some (.ref f) ∧ Binds K fd ["rule", "partial"] []
  d__law_is_pattern : ∃ f fd, Fun K "_law_is_pattern" "_law_is_pattern" s__law_is_pattern f fd ∧ mg "_law_is_pattern" = some (.ref f) ∧ Binds K fd ["rule", "partial"] []
  d__law_is_part : ∃ f fd, Fun K "_law_is_part" "_law_is_part" s__law_is_part f fd ∧ mg "_law_is_part" = some (.ref f) ∧ Binds K fd ["partial", "other"] []
  d__law_without : ∃ f fd, Fun K "_law_without" "_law_without" s__law_without f fd ∧ mg "_law_without" = some (.ref f) ∧ Binds K fd ["size", "partials"] []
  d__law_rows_for : ∃ f fd, Fun K "_law_rows_for" "_law_rows_for" s__law_rows_for f fd ∧ mg "_law_rows_for" = some (.ref f) ∧ Binds K fd ["rule", "partial"] []
  d__law_partial_right : ∃ f fd, Fun K "_law_partial_right" "_law_partial_right" s__law_partial_right f fd ∧ mg "_law_partial_right" = some (.ref f) ∧ Binds K fd ["stream", "rule", "told", "partial"] []
  d__law_set_right : ∃ f fd, Fun K "_law_set_right" "_law_set_right" s__law_set_right f fd ∧ mg "_law_set_right" = some (.ref f) ∧ Binds K fd ["stream", "rule", "told"] []
  d__law_given_right : ∃ f fd, Fun K "_law_given_right" "_law_given_right" s__law_given_right f fd ∧ mg "_law_given_right" = some (.ref f) ∧ Binds K fd ["stream", "size"] []
  d__law_right : ∃ f fd, Fun K "_law_right" "_law_right" s__law_right f fd ∧ mg "_law_right" = some (.ref f) ∧ Binds K fd ["stream", "rule", "partials"] []
  d_law : ∃ f fd, Fun K "law" "law" s_law f fd ∧ mg "law" = some (.ref f) ∧ Binds K fd ["script"] []
  g_MAX_KEYS : ∃ t, mg "MAX_KEYS" = some (.int 7 t)
  n_abs : mg "abs" = none
  n_all : mg "all" = none
  n_any : mg "any" = none
  n_bool : mg "bool" = none
  n_enumerate : mg "enumerate" = none
  n_int : mg "int" = none
  n_isinstance : mg "isinstance" = none
  n_len : mg "len" = none
  n_list : mg "list" = none
  n_max : mg "max" = none
  n_min : mg "min" = none
  n_range : mg "range" = none
  n_repr : mg "repr" = none
  n_set : mg "set" = none
  n_sorted : mg "sorted" = none
  n_sum : mg "sum" = none
  n_tuple : mg "tuple" = none
  n_zip : mg "zip" = none
end K89
/-! K89b: the program's defs, each with its promise. -/
namespace K89
open PySem PySem.Spec PyProof.Rows L2 DL
abbrev Row := List Nat
abbrev Lit := Nat × Nat
abbrev Part := List Lit
abbrev Rule := Nat × List Row
section
variable {P : Program} {w : World} {K : PySem.W.Frag} {mg : PySem.Str → Option Value} {base : Heap}
local macro_rules | `(tactic| walk_at "dl") => `(tactic| first
  | with_reducible refine ss_ret ?_ | with_reducible refine ss_seq ?_ | with_reducible refine ss_if ?_ | with_reducible refine ss_next ?_ | with_reducible refine ss_retN ?_
  | refine w_var (by rfl) ?_ | with_reducible refine w_lit ?_ | with_reducible refine w_bl ?_ | with_reducible refine w_non ?_ | with_reducible refine w_str ?_ | with_reducible refine w_val ?_
  | with_reducible refine w_op ?_ | with_reducible refine w_cb ?_ | with_reducible refine w_call ?_ | with_reducible refine wa_cons ?_ | with_reducible refine wa_nil ?_
  | with_reducible refine wt_test ?_ | with_reducible refine wt_B ?_ | with_reducible refine wt_not ?_ | with_reducible refine wt_yes ?_ | with_reducible refine wt_and ?_ | with_reducible refine wt_or ?_
  | with_reducible refine w_andV ?_ | with_reducible refine w_orV ?_ | with_reducible refine w_notV ?_ | with_reducible refine w_if ?_ | with_reducible refine w_chain ?_
  | with_reducible refine wo_none ?_ | with_reducible refine wo_some ?_
  | with_reducible refine r_eq ?_ | with_reducible refine r_ne ?_ | with_reducible refine r_lt ?_ | with_reducible refine r_add ?_ | with_reducible refine r_and ?_ | with_reducible refine r_shr ?_ | with_reducible refine r_ltn ?_ | with_reducible refine r_gtn ?_ | with_reducible refine r_len ?_
  | with_reducible refine r_inT ?_ | with_reducible refine r_notInT ?_ | with_reducible refine r_inL ?_
  | with_reducible refine c_lenT ?_ | with_reducible refine c_lenP ?_ | with_reducible refine r_fst ?_ | with_reducible refine r_snd ?_ | with_reducible refine g_name ?_ | with_reducible refine g_pair ?_ | with_reducible refine gs_name ?_ | with_reducible refine gs_nil ?_)
def sp_is_integer (K : PySem.W.Frag) : Sp := mkSp (fun n : Nat => [Is K n]) (fun _ => True) fun _ A => A = Is K true
theorem d_is_integer (T : TF K mg) : Has P w K mg base CX0 1 "is_integer" ["value"] (sp_is_integer K) := by
  obtain ⟨f, fd, F, hm, hb⟩ := T.d_is_integer
  refine fn_facts F sc_is_integer hm hb (fun _ => rfl) fun cdv A outer s H E hr hgd => ?_
  have S := sc_is_integer
  refine ⟨(tRet (tAndV (tCB (rIsi K) (tCons (tVar 0) (tCons (tC (.ty "int")) tNil))) (tNotV (tCB (rIsi K) (tCons (tVar 0) (tCons (tC (.ty "bool")) tNil)))))), (pss_one (ps_ret (pe_and (pe_callB call_isi (by rfl) T.n_isinstance bt_isinstance (pa_cons (pv 0) (pa_cons (pe_bltn (v := .ty "int") (by rfl) T.n_int bt_int rfl) pa_nil))) (pe_one (pe_not (pe_callB call_isi (by rfl) T.n_isinstance bt_isinstance (pa_cons (pv 0) (pa_cons (pe_bltn (v := .ty "bool") (by rfl) T.n_bool bt_bool rfl) pa_nil)))))))), fun n _ => ss_ret ?_⟩
  exact w_andV (w_cb (wa_cons (w_var (i := 0) rfl (wa_cons (w_val (wa_nil (c_isiN (b := true) (by decide +kernel) ⟨true, Le.refl _, fun _ =>
    w_notV (w_cb (wa_cons (w_var (i := 0) rfl (wa_cons (w_val (wa_nil (c_isiN (b := false) (by decide +kernel) ⟨false, Le.refl _, rfl⟩))))))), fun z => by cases z⟩)))))))
def sp_is_between (K : PySem.W.Frag) : Sp := mkSp (fun t : Nat × Nat × Nat => [Is K t.1, Is K t.2.1, Is K t.2.2]) (fun _ => True) fun t A => A = Is K (decide (t.2.1 ≤ t.1 ∧ t.1 ≤ t.2.2))
theorem d_is_between (T : TF K mg) (h_is_integer : Has P w K mg base CX0 1 "is_integer" ["value"] (sp_is_integer K)) : Has P w K mg base CX0 2 "is_between" ["value", "low", "high"] (sp_is_between K) := by
  obtain ⟨f, fd, F, hm, hb⟩ := T.d_is_between
  refine fn_facts F sc_is_between hm hb (fun _ => rfl) fun cdv A outer s H E hr hgd => ?_
  have S := sc_is_between
  refine ⟨(tRet (tAndV (tCall (sp_is_integer K) [] E0 (tCons (tVar 0) tNil)) (tChain (rI0 fun i j => .bl (decide (i ≤ j))) (rI0 fun i j => .bl (decide (i ≤ j))) (tVar 1) (tVar 0) (tVar 2)))), (pss_one (ps_ret (pe_and (pc (E := E0) (h_is_integer.mono (by decide)) hr hgd (by rfl) pass0 (pa_cons (pv 0) pa_nil)) (pe_one (pe_chain op_le op_le (pv 1) (pv 0) (pv 2)))))), fun ⟨v, lo, hi⟩ _ => ss_ret ?_⟩
  refine w_andV (w_call (wa_cons (w_var (i := 0) rfl (wa_nil (c_mk v trivial fun A e => e ▸ ⟨true, Le.refl _, fun _ => ?_, fun z => by cases z⟩)))))
  refine w_chain (w_var (i := 1) rfl (w_var (i := 0) rfl (r_len ⟨_, Le.refl _, fun h1 => w_var (i := 2) rfl (r_len ?_), fun h1 => ?_⟩)))
  · have h2 := of_decide_eq_true h1
    show Is K _ = Is K _
    congr 1
    rw [Bool.eq_iff_iff, decide_eq_true_eq, decide_eq_true_eq]
    exact ⟨fun z => ⟨h2, z⟩, fun z => z.2⟩
  · have h2 := of_decide_eq_false h1
    show Is K _ = Is K _
    congr 1
    exact (decide_eq_false fun z => h2 z.1).symm
/-- each less than the next one -/
def asc {α : Type} [Enc α] (xs : List α) : Bool := ((xs.zip (xs.drop 1)).map fun p => lt p.1 p.2).all id
def sp_are_ascending (K : PySem.W.Frag) : Sp := mkSp (fun t : List Nat ⊕ List Row => match t with | .inl xs => [Is K (PL.mk xs)] | .inr xs => [Is K xs]) (fun t => match t with | .inl xs => xs.length ≤ 10000 | .inr xs => xs.length ≤ 10000) fun t A => A = Is K (match t with | .inl xs => asc xs | .inr xs => asc xs)
theorem le_of_1000 {n : Nat} (h : n ≤ 10000) : n ≤ sizeLine := Nat.le_trans h (by decide)
theorem d_are_ascending (T : TF K mg) : Has P w K mg base CX0 1 "are_ascending" ["items"] (sp_are_ascending K) := by
  obtain ⟨f, fd, F, hm, hb⟩ := T.d_are_ascending
  refine fn_facts F sc_are_ascending hm hb (fun t => by cases t <;> rfl) fun cdv A outer s H E hr hgd => ?_
  have S := sc_are_ascending
  refine ⟨(tRet (tCB (rAll K) (tCons (tLc (RZ.iZipA K (tCons (tVar 0) (tCons (tSl (rSlLA K) (tVar 0) (tPart (tC (.int 1))) tNoPart) tNil))) (gTup K 2 (gCons (gName 1) (gCons (gName 2) gNil))) tYes (tOp (rLtD K) (tVar 1) (tVar 2)) [1, 2]) tNil))), (pss_one (ps_ret (pe_callB (cr_all (by rfl)) (by rfl) T.n_all bt_all (pa_cons (pe_lc (own := [("one", 1), ("other", 2)]) (g := (gTup K 2 (gCons (gName 1) (gCons (gName 2) gNil)))) (tt := tYes) (te := (tOp (rLtD K) (tVar 1) (tVar 2))) (by rfl) S.nd (RZ.pi_zipA (by rfl) T.n_zip (pa_cons (pv 0) (pa_cons (pe_slice (sl_list.or sl_tupA) (pv 0) (po_some pe_int) po_none) pa_nil))) (blkOk_by (by rfl)) (fun _ _ _ _ _ => (pg_tup (by rfl) (pgs_cons (pg_name (i := 1) S.nd rfl (by first | exact Or.inl rfl | exact Or.inr rfl)) (pgs_cons (pg_name (i := 2) S.nd rfl (by first | exact Or.inl rfl | exact Or.inr rfl)) pgs_nil)))) (fun _ _ _ _ _ => pts_nil) (fun _ _ _ _ _ => (pe_cmpR (op_ltD hr.units) (pv 1) (pv 2) (nomark _)))) pa_nil)))), fun t hz => ss_ret ?_⟩
  cases t with
  | inl xs =>
    refine w_cb (wa_cons (w_new (wn_mapT (fun p : Nat × Nat => lt p.1 p.2) (js := [1, 2]) (by decide) (wx_zipL ?_))))
    repeat walk_at "dl"
    refine w_new (wn_slL (α := Nat) (fun _ _ _ _ _ z => .inl z) ?_)
    repeat walk_at "dl"
    refine ⟨((1 : Nat) : Int), Le.refl _, ?_⟩
    repeat walk_at "dl"
    refine ⟨xs, Le.refl _, ?_⟩
    rw [cut_from]
    repeat walk_at "dl"
    refine ⟨_, _, xs, xs.drop 1, rfl, Le.refl _, le_L _, le_of_1000 hz, fun p _ => ?_, ?_⟩
    · repeat walk_at "dl"
      exact Le.refl _
    · repeat walk_at "dl"
      exact c_all (le_L _) rfl
  | inr xs =>
    refine w_cb (wa_cons (w_new (wn_mapT (fun p : Row × Row => lt p.1 p.2) (js := [1, 2]) (by decide) (wx_zipT (α := Row) (β := Row) ?_))))
    repeat walk_at "dl"
    refine w_slT (α := Row) (fun _ _ _ _ _ z => .inr z) ?_
    repeat walk_at "dl"
    refine ⟨((1 : Nat) : Int), Le.refl _, ?_⟩
    repeat walk_at "dl"
    refine ⟨xs, Le.refl _, ?_⟩
    rw [cut_from]
    repeat walk_at "dl"
    refine ⟨xs, xs.drop 1, rfl, le_of_1000 hz, fun p _ => ?_, ?_⟩
    · repeat walk_at "dl"
      exact Le.refl _
    · repeat walk_at "dl"
      exact c_all (le_L _) rfl
theorem c_ascL {xs : List Nat} {𝒜 : Fact → Prop} (hz : xs.length ≤ 10000) (k : 𝒜 (Is K (asc xs))) : C (fun vs H Q => sp_are_ascending K (vs ++ []) H Q E0) [IsL K xs] 𝒜 :=
  C.le1 (le_L xs) (c_mk (τ := List Nat ⊕ List Row) (args := fun t => match t with | .inl xs => [Is K (PL.mk xs)] | .inr xs => [Is K xs]) (Sum.inl xs) hz fun A e => e ▸ k)
theorem c_ascT {xs : List Row} {𝒜 : Fact → Prop} (hz : xs.length ≤ 10000) (k : 𝒜 (Is K (asc xs))) : C (fun vs H Q => sp_are_ascending K (vs ++ []) H Q E0) [Is K xs] 𝒜 :=
  c_mk (τ := List Nat ⊕ List Row) (args := fun t => match t with | .inl xs => [Is K (PL.mk xs)] | .inr xs => [Is K xs]) (Sum.inr xs) hz fun A e => e ▸ k
/-- a row of the size n -/
def OkRow (n : Nat) (r : Row) : Prop := r.length = n ∧ ∀ b ∈ r, b ≤ 1
def sp_is_row_in (K : PySem.W.Frag) : Sp := mkSp (fun t : Nat × Row => [Is K t.1, Is K t.2]) (fun t => OkRow t.1 t.2 ∧ t.1 ≤ 1000) fun _ A => A = Is K true
theorem d_is_row_in (T : TF K mg) (h_is_between : Has P w K mg base CX0 2 "is_between" ["value", "low", "high"] (sp_is_between K)) : Has P w K mg base CX0 3 "is_row_in" ["size", "value"] (sp_is_row_in K) := by
  obtain ⟨f, fd, F, hm, hb⟩ := T.d_is_row_in
  refine fn_facts F sc_is_row_in hm hb (fun _ => by first | rfl | (split <;> rfl)) fun cdv A outer s H E hr hgd => ?_
  have S := sc_is_row_in
  refine ⟨(tRet (tAndV (tCB (rIsi K) (tCons (tVar 1) (tCons (tC (.ty "tuple")) tNil))) (tAndV (tOp (rEqD K) (tCB (rLenA K) (tCons (tVar 1) tNil)) (tVar 0)) (tCB (rAll K) (tCons (tLc (iTup K (tVar 1)) (gName 2) tYes (tCall (sp_is_between K) [] E0 (tCons (tVar 2) (tCons (tC (.int 0)) (tCons (tC (.int 1)) tNil)))) [2]) tNil))))), (pss_one (ps_ret (pe_and (pe_callB call_isi (by rfl) T.n_isinstance bt_isinstance (pa_cons (pv 1) (pa_cons (pe_bltn (v := .ty "tuple") (by rfl) T.n_tuple bt_tuple rfl) pa_nil))) (pe_and (pe_cmpR (op_eqD hr.units) (pe_callB call_len_seq (by rfl) T.n_len bt_len (pa_cons (pv 1) pa_nil)) (pv 0) (nomark _)) (pe_one (pe_callB (cr_all (by rfl)) (by rfl) T.n_all bt_all (pa_cons (pe_lc (own := [("bit", 2)]) (g := (gName 2)) (tt := tYes) (te := (tCall (sp_is_between K) [] E0 (tCons (tVar 2) (tCons (tC (.int 0)) (tCons (tC (.int 1)) tNil))))) (by rfl) S.nd (pi_tup (pv 1)) (blkOk_by (by rfl)) (fun _ _ _ _ _ => (pg_name (i := 2) S.nd rfl (by first | exact Or.inl rfl | exact Or.inr rfl))) (fun _ _ _ _ _ => pts_nil) (fun _ _ _ _ _ => (pc (E := E0) (h_is_between.mono (by decide)) hr hgd (by rfl) pass0 (pa_cons (pv 2) (pa_cons pe_int (pa_cons pe_int pa_nil)))))) pa_nil))))))), ?_⟩
  rintro ⟨n, r⟩ ⟨⟨h1, h2⟩, h3⟩
  dsimp only at h1 h2 h3
  have hz : r.length ≤ sizeLine := by rw [h1]; exact Nat.le_trans h3 (by decide)
  repeat walk_at "dl"
  refine c_isiT (b := true) (by decide +kernel) (is_x (br_t ?_))
  repeat walk_at "dl"
  refine is_t (by rw [decide_eq_true h1]) (br_t ?_)
  repeat walk_at "dl"
  refine w_allT (fun b : Nat => decide (0 ≤ b ∧ b ≤ 1)) (js := [2]) (by decide) (wx_tup ?_)
  repeat walk_at "dl"
  refine ⟨r, Le.refl _, hz, fun b hb => ?_, ?_⟩
  · repeat walk_at "dl"
    exact c_mk (b, 0, 1) trivial fun A e => Le.of_eq e
  · rw [List.all_eq_true.mpr fun b hb => decide_eq_true ⟨Nat.zero_le _, h2 b hb⟩]
def sp_is_literal (K : PySem.W.Frag) : Sp := mkSp (fun t : Nat × Lit => [Is K t.1, Is K t.2]) (fun t => t.2.1 < t.1 ∧ t.2.2 ≤ 1) fun _ A => A = Is K true
theorem d_is_literal (T : TF K mg) (h_is_between : Has P w K mg base CX0 2 "is_between" ["value", "low", "high"] (sp_is_between K)) : Has P w K mg base CX0 3 "is_literal" ["size", "value"] (sp_is_literal K) := by
  obtain ⟨f, fd, F, hm, hb⟩ := T.d_is_literal
  refine fn_facts F sc_is_literal hm hb (fun _ => by first | rfl | (split <;> rfl)) fun cdv A outer s H E hr hgd => ?_
  have S := sc_is_literal
  refine ⟨(tSeq (tIfS (tOr (tNot (tB (tCB (rIsi K) (tCons (tVar 1) (tCons (tC (.ty "tuple")) tNil))))) (tTest (tOp (rNeD K) (tCB (rLenA K) (tCons (tVar 1) tNil)) (tC (.int 2))))) (tRet (tC (.bl false))) tNext) (tRet (tAndV (tCall (sp_is_between K) [] E0 (tCons (tOp (rIx K) (tVar 1) (tC (.int 0))) (tCons (tC (.int 0)) (tCons (tOp (rI0 fun i j => .int (i - j)) (tVar 0) (tC (.int 1))) tNil)))) (tCall (sp_is_between K) [] E0 (tCons (tOp (rIx K) (tVar 1) (tC (.int 1))) (tCons (tC (.int 0)) (tCons (tC (.int 1)) tNil))))))), (pss_cons (ps_if (PW.pt (pw_or (pt_not (pt_val (pe_callB call_isi (by rfl) T.n_isinstance bt_isinstance (pa_cons (pv 1) (pa_cons (pe_bltn (v := .ty "tuple") (by rfl) T.n_tuple bt_tuple rfl) pa_nil))))) (pw_or1 (pt_cmpR (op_neD hr.units) (pe_callB call_len_seq (by rfl) T.n_len bt_len (pa_cons (pv 1) pa_nil)) pe_int (nomark _))))) (pss_one (ps_ret pe_bl)) pss_nil) (pss_one (ps_ret (pe_and (pc (E := E0) (h_is_between.mono (by decide)) hr hgd (by rfl) pass0 (pa_cons (pe_ix ix_seq (pv 1) pe_int (fun _ _ => rfl)) (pa_cons pe_int (pa_cons (pe_op op_sub (pv 0) pe_int) pa_nil)))) (pe_one (pc (E := E0) (h_is_between.mono (by decide)) hr hgd (by rfl) pass0 (pa_cons (pe_ix ix_seq (pv 1) pe_int (fun _ _ => rfl)) (pa_cons pe_int (pa_cons pe_int pa_nil))))))))), ?_⟩
  rintro ⟨n, l⟩ ⟨h1, h2⟩
  dsimp only at h1 h2
  repeat walk_at "dl"
  refine c_isiP (b := true) (by decide +kernel) (is_x (br_f ?_))
  repeat walk_at "dl"
  refine is_f (by decide) ?_
  refine br_f ?_
  repeat walk_at "dl"
  refine r_sub (by omega) ?_
  repeat walk_at "dl"
  refine c_mk (l.1, 0, n - 1) trivial fun A e => ?_
  subst e
  refine is_t (decide_eq_true ⟨Nat.zero_le _, by show l.1 ≤ n - 1; omega⟩) (br_t ?_)
  repeat walk_at "dl"
  refine c_mk (l.2, 0, 1) trivial fun A e => ?_
  subst e
  rw [decide_eq_true ⟨Nat.zero_le _, h2⟩]
/-- a partial row of the size n -/
def OkPart (n : Nat) (p : Part) : Prop := (∀ l ∈ p, l.1 < n ∧ l.2 ≤ 1) ∧ asc (p.map (·.1)) = true ∧ p.length ≤ 1000
def sp_is_partial_in (K : PySem.W.Frag) : Sp := mkSp (fun t : Nat × Part => [Is K t.1, Is K t.2]) (fun t => OkPart t.1 t.2) fun _ A => A = Is K true
theorem d_is_partial_in (T : TF K mg) (h_are_ascending : Has P w K mg base CX0 1 "are_ascending" ["items"] (sp_are_ascending K)) (h_is_literal : Has P w K mg base CX0 3 "is_literal" ["size", "value"] (sp_is_literal K)) : Has P w K mg base CX0 4 "is_partial_in" ["size", "value"] (sp_is_partial_in K) := by
  obtain ⟨f, fd, F, hm, hb⟩ := T.d_is_partial_in
  refine fn_facts F sc_is_partial_in hm hb (fun _ => by first | rfl | (split <;> rfl)) fun cdv A outer s H E hr hgd => ?_
  have S := sc_is_partial_in
  refine ⟨(tSeq (tIfS (tOr (tNot (tB (tCB (rIsi K) (tCons (tVar 1) (tCons (tC (.ty "tuple")) tNil))))) (tNot (tB (tCB (rAll K) (tCons (tLc (iTup K (tVar 1)) (gName 2) tYes (tCall (sp_is_literal K) [] E0 (tCons (tVar 0) (tCons (tVar 2) tNil))) [2]) tNil))))) (tRet (tC (.bl false))) tNext) (tRet (tCall (sp_are_ascending K) [] E0 (tCons (tLc (iTup K (tVar 1)) (gTup K 2 (gCons (gName 3) (gCons (gName 4) gNil))) tYes (tVar 3) [3, 4]) tNil)))), (pss_cons (ps_if (PW.pt (pw_or (pt_not (pt_val (pe_callB call_isi (by rfl) T.n_isinstance bt_isinstance (pa_cons (pv 1) (pa_cons (pe_bltn (v := .ty "tuple") (by rfl) T.n_tuple bt_tuple rfl) pa_nil))))) (pw_or1 (pt_not (pt_val (pe_callB (cr_all (by rfl)) (by rfl) T.n_all bt_all (pa_cons (pe_lc (own := [("literal", 2)]) (g := (gName 2)) (tt := tYes) (te := (tCall (sp_is_literal K) [] E0 (tCons (tVar 0) (tCons (tVar 2) tNil)))) (by rfl) S.nd (pi_tup (pv 1)) (blkOk_by (by rfl)) (fun _ _ _ _ _ => (pg_name (i := 2) S.nd rfl (by first | exact Or.inl rfl | exact Or.inr rfl))) (fun _ _ _ _ _ => pts_nil) (fun _ _ _ _ _ => (pc (E := E0) (h_is_literal.mono (by decide)) hr hgd (by rfl) pass0 (pa_cons (pv 0) (pa_cons (pv 2) pa_nil))))) pa_nil))))))) (pss_one (ps_ret pe_bl)) pss_nil) (pss_one (ps_ret (pc (E := E0) (h_are_ascending.mono (by decide)) hr hgd (by rfl) pass0 (pa_cons (pe_lc (own := [("key", 3), ("bit", 4)]) (g := (gTup K 2 (gCons (gName 3) (gCons (gName 4) gNil)))) (tt := tYes) (te := (tVar 3)) (by rfl) S.nd (pi_tup (pv 1)) (blkOk_by (by rfl)) (fun _ _ _ _ _ => (pg_tup (by rfl) (pgs_cons (pg_name (i := 3) S.nd rfl (by first | exact Or.inl rfl | exact Or.inr rfl)) (pgs_cons (pg_name (i := 4) S.nd rfl (by first | exact Or.inl rfl | exact Or.inr rfl)) pgs_nil)))) (fun _ _ _ _ _ => pts_nil) (fun _ _ _ _ _ => (pv 3))) pa_nil))))), ?_⟩
  rintro ⟨n, p⟩ ⟨h1, h2, h3⟩
  dsimp only at h1 h2 h3
  have hz : p.length ≤ sizeLine := Nat.le_trans h3 (by decide)
  repeat walk_at "dl"
  refine c_isiT (b := true) (by decide +kernel) (is_x (br_f ?_))
  repeat walk_at "dl"
  refine w_allT (fun l : Lit => true) (js := [2]) (by decide) (wx_tup ?_)
  repeat walk_at "dl"
  refine ⟨p, Le.refl _, hz, fun l hl => ?_, ?_⟩
  · repeat walk_at "dl"
    exact c_mk (n, l) (h1 l hl) fun A e => Le.of_eq e
  refine is_t (List.all_eq_true.mpr fun _ _ => rfl) (br_f ?_)
  repeat walk_at "dl"
  refine w_new (wn_mapT (fun l : Lit => l.1) (js := [3, 4]) (by decide) (wx_tup ?_))
  repeat walk_at "dl"
  refine ⟨p, Le.refl _, hz, fun l hl => ?_, ?_⟩
  · repeat walk_at "dl"
    exact Le.refl _
  repeat walk_at "dl"
  exact c_ascL (by rw [List.length_map]; omega) (by rw [h2])
/-- what stands at k in each row -/
def col (rows : List Row) (k : Nat) : List Nat := rows.map fun r => r.getD k 0
/-- each place holds both bits -/
def both (n : Nat) (rows : List Row) : Bool := (List.range n).all fun k => decide (0 ∈ col rows k ∧ 1 ∈ col rows k)
theorem two_bits {L ys : List Nat} (nd : L.Nodup) (hm : ∀ m, m ∈ L ↔ m ∈ ys) (hb : ∀ m ∈ ys, m ≤ 1) : (L.length = 2) ↔ (0 ∈ ys ∧ 1 ∈ ys) := by
  rw [← hm 0, ← hm 1]
  have hb' : ∀ m ∈ L, m ≤ 1 := fun m h => hb m ((hm m).mp h)
  clear hm hb
  match L, nd, hb' with
  | [], _, _ => simp
  | [a], _, h =>
    have := h a (by simp)
    simp
    omega
  | [a, b], nd, h =>
    have h1 := h a (by simp)
    have h2 := h b (by simp)
    simp at nd
    simp
    omega
  | a :: b :: c :: r, nd, h =>
    exfalso
    have h1 := h a (by simp)
    have h2 := h b (by simp)
    have h3 := h c (by simp)
    simp at nd
    omega
theorem getD_le {r : Row} (h : ∀ b ∈ r, b ≤ 1) (k : Nat) : r.getD k 0 ≤ 1 := by
  rw [List.getD_eq_getElem?_getD]
  cases e : r[k]? with
  | none => exact Nat.zero_le _
  | some b => exact h b (List.mem_of_getElem? e)
theorem getD_some {r : Row} {k : Nat} (h : k < r.length) : r[k]? = some (r.getD k 0) := by
  rw [List.getD_eq_getElem?_getD, List.getElem?_eq_getElem h]
  rfl
def sp_has_both_bits (K : PySem.W.Frag) : Sp := mkSp (fun t : Nat × List Row => [Is K t.1, Is K t.2]) (fun t => (∀ r ∈ t.2, OkRow t.1 r) ∧ t.2.length ≤ 3000 ∧ t.1 ≤ 1000) fun t A => A = Is K (both t.1 t.2)
theorem d_has_both_bits (T : TF K mg) : Has P w K mg base CX0 1 "has_both_bits" ["size", "rows"] (sp_has_both_bits K) := by
  obtain ⟨f, fd, F, hm, hb⟩ := T.d_has_both_bits
  refine fn_facts F sc_has_both_bits hm hb (fun _ => by first | rfl | (split <;> rfl)) fun cdv A outer s H E hr hgd => ?_
  have S := sc_has_both_bits
  refine ⟨(tRet (tCB (rAll K) (tCons (tLc (iRng1 (tCons (tVar 0) tNil)) (gName 2) tYes (tOp (rEqD K) (tCB (rLenSet w) (tCons (tGc (fun D => SetO w D (fun _ => false) 0) (iTup K (tVar 1)) (gName 3) tYes (LfSet w (tOp (rIx K) (tVar 3) (tVar 2))) [3]) tNil)) (tC (.int 2))) [2]) tNil))), (pss_one (ps_ret (pe_callB (cr_all (by rfl)) (by rfl) T.n_all bt_all (pa_cons (pe_lc (own := [("key", 2)]) (g := (gName 2)) (tt := tYes) (te := (tOp (rEqD K) (tCB (rLenSet w) (tCons (tGc (fun D => SetO w D (fun _ => false) 0) (iTup K (tVar 1)) (gName 3) tYes (LfSet w (tOp (rIx K) (tVar 3) (tVar 2))) [3]) tNil)) (tC (.int 2)))) (by rfl) S.nd (pi_range1 (by rfl) T.n_range (pa_cons (pv 0) pa_nil)) (blkOk_by (by rfl)) (fun _ _ _ _ _ => (pg_name (i := 2) S.nd rfl (by first | exact Or.inl rfl | exact Or.inr rfl))) (fun _ _ _ _ _ => pts_nil) (fun _ _ _ _ _ => (pe_cmpR (op_eqD hr.units) (pe_callB call_lenSet (by rfl) T.n_len bt_len (pa_cons (pe_setI (own := [("row", 3)]) (g := (gName 3)) (tt := tYes) (te := (tOp (rIx K) (tVar 3) (tVar 2))) (by rfl) S.nd (pi_tup (pv 1)) (blkOk_by (by rfl)) (fun _ _ _ _ _ => (pg_name (i := 3) S.nd rfl (by first | exact Or.inl rfl | exact Or.inr rfl))) (fun _ _ _ _ _ => pts_nil) (fun _ _ _ _ _ => (pe_ix ix_seq (pv 3) (pv 2) (fun _ _ => rfl)))) pa_nil)) pe_int (nomark _)))) pa_nil)))), ?_⟩
  rintro ⟨n, rows⟩ ⟨h1, h2, h3⟩
  dsimp only at h1 h2 h3
  repeat walk_at "dl"
  refine w_allT (fun k : Nat => decide (0 ∈ col rows k ∧ 1 ∈ col rows k)) (js := [2]) (by decide) (wx_range ?_)
  repeat walk_at "dl"
  refine ⟨_, n, rfl, Le.refl _, Nat.le_trans h3 (by decide), fun k hk => ?_, rfl⟩
  have hk' := List.mem_range.mp hk
  repeat walk_at "dl"
  refine w_setI (fun r : Row => r.getD k 0) (js := [3]) (by decide) (wx_tup ?_)
  repeat walk_at "dl"
  refine ⟨rows, Le.refl _, Nat.le_trans h2 (by decide), by omega, fun r hr => ?_, ?_⟩
  · repeat walk_at "dl"
    exact r_ixT (getD_some (by rw [(h1 r hr).1]; exact hk')) (Le.refl _)
  repeat walk_at "dl"
  refine c_lenSet (K := K) fun L nd hm => ?_
  repeat walk_at "dl"
  refine Le.of_eq ?_
  congr 1
  refine dec_cast (two_bits nd hm fun m hm => ?_)
  obtain ⟨r, hr, rfl⟩ := List.mem_map.mp hm
  exact getD_le (h1 r hr).2 k
end
end K89
/-! K89c: the program's defs, further. -/
namespace K89
open PySem PySem.Spec PyProof.Rows L2 DL
section
variable {P : Program} {w : World} {K : PySem.W.Frag} {mg : PySem.Str → Option Value} {base : Heap}
local macro_rules | `(tactic| walk_at "dl") => `(tactic| first
  | with_reducible refine ss_ret ?_ | with_reducible refine ss_seq ?_ | with_reducible refine ss_if ?_ | with_reducible refine ss_next ?_ | with_reducible refine ss_retN ?_
  | refine w_var (by rfl) ?_ | with_reducible refine w_lit ?_ | with_reducible refine w_bl ?_ | with_reducible refine w_non ?_ | with_reducible refine w_str ?_ | with_reducible refine w_val ?_
  | with_reducible refine w_op ?_ | with_reducible refine w_cb ?_ | with_reducible refine w_call ?_ | with_reducible refine wa_cons ?_ | with_reducible refine wa_nil ?_
  | with_reducible refine wt_test ?_ | with_reducible refine wt_B ?_ | with_reducible refine wt_not ?_ | with_reducible refine wt_yes ?_ | with_reducible refine wt_and ?_ | with_reducible refine wt_or ?_
  | with_reducible refine w_andV ?_ | with_reducible refine w_orV ?_ | with_reducible refine w_notV ?_ | with_reducible refine w_if ?_ | with_reducible refine w_chain ?_
  | with_reducible refine wo_none ?_ | with_reducible refine wo_some ?_
  | with_reducible refine r_eq ?_ | with_reducible refine r_ne ?_ | with_reducible refine r_lt ?_ | with_reducible refine r_add ?_ | with_reducible refine r_and ?_ | with_reducible refine r_shr ?_ | with_reducible refine r_ltn ?_ | with_reducible refine r_gtn ?_ | with_reducible refine r_len ?_
  | with_reducible refine r_inT ?_ | with_reducible refine r_notInT ?_ | with_reducible refine r_inL ?_
  | with_reducible refine c_lenT ?_ | with_reducible refine c_lenP ?_ | with_reducible refine r_fst ?_ | with_reducible refine r_snd ?_ | with_reducible refine g_name ?_ | with_reducible refine g_pair ?_ | with_reducible refine gs_name ?_ | with_reducible refine gs_nil ?_)
/-- what is_rule is asked about, here -/
def PreRule (r : Rule) : Prop := 1 ≤ r.1 ∧ r.1 ≤ 7 ∧ (∀ x ∈ r.2, OkRow r.1 x) ∧ r.2.length ≤ 3000 ∧ asc r.2 = true
def sp_is_rule (K : PySem.W.Frag) : Sp := mkSp (fun r : Rule => [Is K r]) PreRule fun r A => A = Is K (both r.1 r.2)
theorem d_is_rule (T : TF K mg) (h_are_ascending : Has P w K mg base CX0 1 "are_ascending" ["items"] (sp_are_ascending K)) (h_has_both_bits : Has P w K mg base CX0 1 "has_both_bits" ["size", "rows"] (sp_has_both_bits K)) (h_is_between : Has P w K mg base CX0 2 "is_between" ["value", "low", "high"] (sp_is_between K)) (h_is_row_in : Has P w K mg base CX0 3 "is_row_in" ["size", "value"] (sp_is_row_in K)) : Has P w K mg base CX0 4 "is_rule" ["value"] (sp_is_rule K) := by
  obtain ⟨f, fd, F, hm, hb⟩ := T.d_is_rule
  refine fn_facts F sc_is_rule hm hb (fun _ => by first | rfl | (split <;> rfl)) fun cdv A outer s H E hr hgd => ?_
  have S := sc_is_rule
  refine ⟨(tSeq (tIfS (tOr (tNot (tB (tCB (rIsi K) (tCons (tVar 0) (tCons (tC (.ty "tuple")) tNil))))) (tOr (tTest (tOp (rNeD K) (tCB (rLenA K) (tCons (tVar 0) tNil)) (tC (.int 2)))) (tNot (tB (tCall (sp_is_between K) [] E0 (tCons (tOp (rIx K) (tVar 0) (tC (.int 0))) (tCons (tC (.int 1)) (tCons (tC (.int 7)) tNil)))))))) (tRet (tC (.bl false))) tNext) (tSeq (tAsg (tVar 0) (gTup K 2 (gCons (gName 1) (gCons (gName 2) gNil)))) (tSeq (tIfS (tOr (tNot (tB (tCB (rIsi K) (tCons (tVar 2) (tCons (tC (.ty "tuple")) tNil))))) (tNot (tB (tCB (rAll K) (tCons (tLc (iTup K (tVar 2)) (gName 3) tYes (tCall (sp_is_row_in K) [] E0 (tCons (tVar 1) (tCons (tVar 3) tNil))) [3]) tNil))))) (tRet (tC (.bl false))) tNext) (tRet (tAndV (tCall (sp_are_ascending K) [] E0 (tCons (tVar 2) tNil)) (tCall (sp_has_both_bits K) [] E0 (tCons (tVar 1) (tCons (tVar 2) tNil)))))))), (pss_cons (ps_if (PW.pt (pw_or (pt_not (pt_val (pe_callB call_isi (by rfl) T.n_isinstance bt_isinstance (pa_cons (pv 0) (pa_cons (pe_bltn (v := .ty "tuple") (by rfl) T.n_tuple bt_tuple rfl) pa_nil))))) (pw_or (pt_cmpR (op_neD hr.units) (pe_callB call_len_seq (by rfl) T.n_len bt_len (pa_cons (pv 0) pa_nil)) pe_int (nomark _)) (pw_or1 (pt_not (pt_val (pc (E := E0) (h_is_between.mono (by decide)) hr hgd (by rfl) pass0 (pa_cons (pe_ix ix_seq (pv 0) pe_int (fun _ _ => rfl)) (pa_cons pe_int (pa_cons (pe_glob (by rfl) T.g_MAX_KEYS.choose_spec ⟨_, rfl⟩) pa_nil)))))))))) (pss_one (ps_ret pe_bl)) pss_nil) (pss_cons (ps_asg (pv 0) (pg_tup (by rfl) (pgs_cons (pg_name (i := 1) S.nd rfl (by first | exact Or.inl rfl | exact Or.inr rfl)) (pgs_cons (pg_name (i := 2) S.nd rfl (by first | exact Or.inl rfl | exact Or.inr rfl)) pgs_nil)))) (pss_cons (ps_if (PW.pt (pw_or (pt_not (pt_val (pe_callB call_isi (by rfl) T.n_isinstance bt_isinstance (pa_cons (pv 2) (pa_cons (pe_bltn (v := .ty "tuple") (by rfl) T.n_tuple bt_tuple rfl) pa_nil))))) (pw_or1 (pt_not (pt_val (pe_callB (cr_all (by rfl)) (by rfl) T.n_all bt_all (pa_cons (pe_lc (own := [("row", 3)]) (g := (gName 3)) (tt := tYes) (te := (tCall (sp_is_row_in K) [] E0 (tCons (tVar 1) (tCons (tVar 3) tNil)))) (by rfl) S.nd (pi_tup (pv 2)) (blkOk_by (by rfl)) (fun _ _ _ _ _ => (pg_name (i := 3) S.nd rfl (by first | exact Or.inl rfl | exact Or.inr rfl))) (fun _ _ _ _ _ => pts_nil) (fun _ _ _ _ _ => (pc (E := E0) (h_is_row_in.mono (by decide)) hr hgd (by rfl) pass0 (pa_cons (pv 1) (pa_cons (pv 3) pa_nil))))) pa_nil))))))) (pss_one (ps_ret pe_bl)) pss_nil) (pss_one (ps_ret (pe_and (pc (E := E0) (h_are_ascending.mono (by decide)) hr hgd (by rfl) pass0 (pa_cons (pv 2) pa_nil)) (pe_one (pc (E := E0) (h_has_both_bits.mono (by decide)) hr hgd (by rfl) pass0 (pa_cons (pv 1) (pa_cons (pv 2) pa_nil)))))))))), ?_⟩
  rintro ⟨n, rows⟩ ⟨h1, h7, hr1, hz, ha⟩
  dsimp only at h1 h7 hr1 hz ha
  repeat walk_at "dl"
  refine c_isiP (b := true) (by decide +kernel) (is_x (br_f ?_))
  repeat walk_at "dl"
  refine is_f (by decide) (br_f ?_)
  repeat walk_at "dl"
  refine c_mk (n, 1, 7) trivial fun A e => ?_
  subst e
  refine is_t (decide_eq_true ⟨h1, h7⟩) (br_f ?_)
  repeat walk_at "dl"
  refine ss_pair (α := Nat) (β := List Row) (js := [1, 2]) ?_
  repeat walk_at "dl"
  refine is_x ?_
  repeat walk_at "dl"
  refine c_isiT (b := true) (by decide +kernel) (is_x (br_f ?_))
  repeat walk_at "dl"
  refine w_allT (fun _ : Row => true) (js := [3]) (by decide) (wx_tup ?_)
  repeat walk_at "dl"
  refine ⟨rows, Le.refl _, Nat.le_trans hz (by decide), fun r hr' => ?_, ?_⟩
  · repeat walk_at "dl"
    exact c_mk (n, r) ⟨hr1 r hr', by show n ≤ 1000; omega⟩ fun A e => Le.of_eq e
  refine is_t (List.all_eq_true.mpr fun _ _ => rfl) (br_f ?_)
  repeat walk_at "dl"
  refine c_ascT (xs := rows) (by omega) (is_t ha (br_t ?_))
  repeat walk_at "dl"
  exact c_mk (n, rows) ⟨hr1, hz, by show n ≤ 1000; omega⟩ fun A e => e
/-- a rule -/
def OkRule (r : Rule) : Prop := PreRule r ∧ both r.1 r.2 = true
def sp_require_size (K : PySem.W.Frag) : Sp := mkSp (fun n : Nat => [Is K n]) (fun n => 1 ≤ n ∧ n ≤ 7) fun _ A => A = Is K ()
theorem d_require_size (T : TF K mg) (h_is_between : Has P w K mg base CX0 2 "is_between" ["value", "low", "high"] (sp_is_between K)) : Has P w K mg base CX0 3 "require_size" ["size"] (sp_require_size K) := by
  obtain ⟨f, fd, F, hm, hb⟩ := T.d_require_size
  refine fn_facts F sc_require_size hm hb (fun _ => by first | rfl | (split <;> rfl)) fun cdv A outer s H E hr hgd => ?_
  have S := sc_require_size
  refine ⟨(tIfS (tNot (tB (tCall (sp_is_between K) [] E0 (tCons (tVar 0) (tCons (tC (.int 1)) (tCons (tC (.int 7)) tNil)))))) tNever tNext), (pss_one (ps_if (pt_not (pt_val (pc (E := E0) (h_is_between.mono (by decide)) hr hgd (by rfl) pass0 (pa_cons (pv 0) (pa_cons pe_int (pa_cons (pe_glob (by rfl) T.g_MAX_KEYS.choose_spec ⟨_, rfl⟩) pa_nil)))))) (pss_one ps_never) pss_nil)), ?_⟩
  rintro n ⟨h1, h7⟩
  repeat walk_at "dl"
  refine c_mk (n, 1, 7) trivial fun A e => ?_
  subst e
  refine is_t (decide_eq_true ⟨h1, h7⟩) (br_f ?_)
  exact ss_next rfl
def sp_require_rule (K : PySem.W.Frag) : Sp := mkSp (fun r : Rule => [Is K r]) OkRule fun _ A => A = Is K ()
theorem d_require_rule (T : TF K mg) (h_is_rule : Has P w K mg base CX0 4 "is_rule" ["value"] (sp_is_rule K)) : Has P w K mg base CX0 5 "require_rule" ["rule"] (sp_require_rule K) := by
  obtain ⟨f, fd, F, hm, hb⟩ := T.d_require_rule
  refine fn_facts F sc_require_rule hm hb (fun _ => by first | rfl | (split <;> rfl)) fun cdv A outer s H E hr hgd => ?_
  have S := sc_require_rule
  refine ⟨(tIfS (tNot (tB (tCall (sp_is_rule K) [] E0 (tCons (tVar 0) tNil)))) tNever tNext), (pss_one (ps_if (pt_not (pt_val (pc (E := E0) (h_is_rule.mono (by decide)) hr hgd (by rfl) pass0 (pa_cons (pv 0) pa_nil)))) (pss_one ps_never) pss_nil)), ?_⟩
  rintro r ⟨h1, h2⟩
  repeat walk_at "dl"
  refine c_mk r h1 fun A e => ?_
  subst e
  refine is_t h2 (br_f ?_)
  exact ss_next rfl
def sp_require_partial (K : PySem.W.Frag) : Sp := mkSp (fun t : Nat × Part => [Is K t.1, Is K t.2]) (fun t => OkPart t.1 t.2) fun _ A => A = Is K ()
theorem d_require_partial (T : TF K mg) (h_is_partial_in : Has P w K mg base CX0 4 "is_partial_in" ["size", "value"] (sp_is_partial_in K)) : Has P w K mg base CX0 5 "require_partial" ["size", "partial"] (sp_require_partial K) := by
  obtain ⟨f, fd, F, hm, hb⟩ := T.d_require_partial
  refine fn_facts F sc_require_partial hm hb (fun _ => by first | rfl | (split <;> rfl)) fun cdv A outer s H E hr hgd => ?_
  have S := sc_require_partial
  refine ⟨(tIfS (tNot (tB (tCall (sp_is_partial_in K) [] E0 (tCons (tVar 0) (tCons (tVar 1) tNil))))) tNever tNext), (pss_one (ps_if (pt_not (pt_val (pc (E := E0) (h_is_partial_in.mono (by decide)) hr hgd (by rfl) pass0 (pa_cons (pv 0) (pa_cons (pv 1) pa_nil))))) (pss_one ps_never) pss_nil)), ?_⟩
  rintro ⟨n, p⟩ h1
  repeat walk_at "dl"
  refine c_mk (n, p) h1 fun A e => ?_
  subst e
  refine is_x (br_f ?_)
  exact ss_next rfl
/-- all rows of a size -/
def rowsOf : Nat → List Row
  | 0 => [[]]
  | n + 1 => (rowsOf n).flatMap fun r => [r ++ [0], r ++ [1]]
def contains (r : Row) (p : Part) : Bool := p.all fun l => decide (r.getD l.1 0 = l.2)
def sp_contains_in (K : PySem.W.Frag) : Sp := mkSp (fun t : Row × Part => [Is K t.1, Is K t.2]) (fun t => (∀ l ∈ t.2, l.1 < t.1.length) ∧ t.2.length ≤ 1000) fun t A => A = Is K (contains t.1 t.2)
theorem d_contains_in (T : TF K mg) : Has P w K mg base CX0 1 "contains_in" ["row", "partial"] (sp_contains_in K) := by
  obtain ⟨f, fd, F, hm, hb⟩ := T.d_contains_in
  refine fn_facts F sc_contains_in hm hb (fun _ => by first | rfl | (split <;> rfl)) fun cdv A outer s H E hr hgd => ?_
  have S := sc_contains_in
  refine ⟨(tRet (tCB (rAll K) (tCons (tLc (iTup K (tVar 1)) (gTup K 2 (gCons (gName 2) (gCons (gName 3) gNil))) tYes (tOp (rEqD K) (tOp (rIx K) (tVar 0) (tVar 2)) (tVar 3)) [2, 3]) tNil))), (pss_one (ps_ret (pe_callB (cr_all (by rfl)) (by rfl) T.n_all bt_all (pa_cons (pe_lc (own := [("key", 2), ("bit", 3)]) (g := (gTup K 2 (gCons (gName 2) (gCons (gName 3) gNil)))) (tt := tYes) (te := (tOp (rEqD K) (tOp (rIx K) (tVar 0) (tVar 2)) (tVar 3))) (by rfl) S.nd (pi_tup (pv 1)) (blkOk_by (by rfl)) (fun _ _ _ _ _ => (pg_tup (by rfl) (pgs_cons (pg_name (i := 2) S.nd rfl (by first | exact Or.inl rfl | exact Or.inr rfl)) (pgs_cons (pg_name (i := 3) S.nd rfl (by first | exact Or.inl rfl | exact Or.inr rfl)) pgs_nil)))) (fun _ _ _ _ _ => pts_nil) (fun _ _ _ _ _ => (pe_cmpR (op_eqD hr.units) (pe_ix ix_seq (pv 0) (pv 2) (fun _ _ => rfl)) (pv 3) (nomark _)))) pa_nil)))), ?_⟩
  rintro ⟨r, p⟩ ⟨h1, h2⟩
  dsimp only at h1 h2
  repeat walk_at "dl"
  refine w_allT (fun l : Lit => decide (r.getD l.1 0 = l.2)) (js := [2, 3]) (by decide) (wx_tup ?_)
  repeat walk_at "dl"
  refine ⟨p, Le.refl _, Nat.le_trans h2 (by decide), fun l hl => ?_, rfl⟩
  repeat walk_at "dl"
  refine r_ixT (getD_some (h1 l hl)) ?_
  repeat walk_at "dl"
  exact Le.refl _
end
end K89
/-! K89d: the program's defs, further. -/
namespace K89
open PySem PySem.Spec PyProof.Rows L2 DL
section
variable {P : Program} {w : World} {K : PySem.W.Frag} {mg : PySem.Str → Option Value} {base : Heap}
local macro_rules | `(tactic| walk_at "dl") => `(tactic| first
  | with_reducible refine ss_ret ?_ | with_reducible refine ss_seq ?_ | with_reducible refine ss_if ?_ | with_reducible refine ss_next ?_ | with_reducible refine ss_retN ?_
  | refine w_var (by rfl) ?_ | with_reducible refine w_lit ?_ | with_reducible refine w_bl ?_ | with_reducible refine w_non ?_ | with_reducible refine w_str ?_ | with_reducible refine w_val ?_
  | with_reducible refine w_op ?_ | with_reducible refine w_cb ?_ | with_reducible refine w_call ?_ | with_reducible refine wa_cons ?_ | with_reducible refine wa_nil ?_
  | with_reducible refine wt_test ?_ | with_reducible refine wt_B ?_ | with_reducible refine wt_not ?_ | with_reducible refine wt_yes ?_ | with_reducible refine wt_and ?_ | with_reducible refine wt_or ?_
  | with_reducible refine w_andV ?_ | with_reducible refine w_orV ?_ | with_reducible refine w_notV ?_ | with_reducible refine w_if ?_ | with_reducible refine w_chain ?_
  | with_reducible refine wo_none ?_ | with_reducible refine wo_some ?_
  | with_reducible refine r_eq ?_ | with_reducible refine r_ne ?_ | with_reducible refine r_lt ?_ | with_reducible refine r_add ?_ | with_reducible refine r_and ?_ | with_reducible refine r_shr ?_ | with_reducible refine r_ltn ?_ | with_reducible refine r_gtn ?_ | with_reducible refine r_len ?_
  | with_reducible refine r_inT ?_ | with_reducible refine r_notInT ?_ | with_reducible refine r_inL ?_
  | with_reducible refine c_lenT ?_ | with_reducible refine c_lenP ?_ | with_reducible refine r_fst ?_ | with_reducible refine r_snd ?_ | with_reducible refine g_name ?_ | with_reducible refine g_pair ?_ | with_reducible refine gs_name ?_ | with_reducible refine gs_nil ?_)
theorem fm_len : ∀ n, (rowsOf n).length = 2 ^ n
  | 0 => rfl
  | n + 1 => by
    show ((rowsOf n).flatMap fun r => [r ++ [0], r ++ [1]]).length = _
    rw [List.length_flatMap]
    have : ((rowsOf n).map fun r : Row => [r ++ [0], r ++ [1]].length) = (rowsOf n).map fun _ => 2 := rfl
    rw [this, List.map_const', List.sum_replicate_nat, fm_len n, Nat.pow_succ]
theorem rows_len {n : Nat} (h : n ≤ 7) : (rowsOf n).length ≤ 128 := by
  rw [fm_len]
  exact Nat.pow_le_pow_right (by decide) h
theorem rowsOf_step (n : Nat) : ((rowsOf n).flatMap fun r => ([0, 1] : List Nat).map fun b => r ++ [b]) = rowsOf (n + 1) := rfl
theorem rowsOf_len1 : ∀ {n : Nat} {r : Row}, r ∈ rowsOf n → OkRow n r
  | 0, r, h => by
    have e : r = [] := List.mem_singleton.mp h
    subst e
    exact ⟨rfl, fun b hb => by cases hb⟩
  | n + 1, r, h => by
    obtain ⟨q, hq, h2⟩ := List.mem_flatMap.mp h
    obtain ⟨h3, h4⟩ := rowsOf_len1 hq
    have h5 : r = q ++ [0] ∨ r = q ++ [1] := by simpa using h2
    rcases h5 with e | e <;> subst e <;> refine ⟨by rw [List.length_append, h3]; rfl, fun b hb => ?_⟩
    · rcases List.mem_append.mp hb with z | z
      · exact h4 b z
      · rw [List.mem_singleton.mp z]; exact Nat.zero_le _
    · rcases List.mem_append.mp hb with z | z
      · exact h4 b z
      · rw [List.mem_singleton.mp z]; exact Nat.le_refl _
def sp_rows_of_size (K : PySem.W.Frag) : Sp := mkSp (fun n : Nat => [Is K n]) (fun n => n ≤ 7) fun n A => A = IsL K (rowsOf n)
theorem d_rows_of_size (T : TF K mg) : Has P w K mg base CX0 1 "rows_of_size" ["size"] (sp_rows_of_size K) := by
  obtain ⟨f, fd, F, hm, hb⟩ := T.d_rows_of_size
  refine fn_facts F sc_rows_of_size hm hb (fun _ => by first | rfl | (split <;> rfl)) fun cdv A outer s H E hr hgd => ?_
  have S := sc_rows_of_size
  refine ⟨(tSeq (tAsg (tLst (tCons (tTup tNil) tNil)) (gName 1)) (tSeq (tFor (iRng1 (tCons (tVar 0) tNil)) (gName 2) (tAsg (tLc2 (iList K (tVar 1)) (gName 3) tYes (iTup K (tTup (tCons (tC (.int 0)) (tCons (tC (.int 1)) tNil)))) (gName 4) tYes (tOp (rCatA K) (tVar 3) (tTup (tCons (tVar 4) tNil))) [3, 4] [4]) (gName 1))) (tRet (tVar 1)))), (pss_cons (ps_set (i := 1) S.nd rfl (by first | exact Or.inl rfl | exact Or.inr rfl) (pe_lst (pa_cons (pe_tup pa_nil) pa_nil))) (pss_cons (ps_for PassesOwn.never (by rfl) (pi_range1 (by rfl) T.n_range (pa_cons (pv 0) pa_nil)) (pg_name (i := 2) S.nd rfl (by first | exact Or.inl rfl | exact Or.inr rfl)) (pss_one (ps_setLc2 (i := 1) (own := [("row", 3), ("bit", 4)]) (vs1 := [4]) (g := (gName 3)) (tt := tYes) (wi1 := (iTup K (tTup (tCons (tC (.int 0)) (tCons (tC (.int 1)) tNil))))) (g1 := (gName 4)) (tt1 := tYes) (te := (tOp (rCatA K) (tVar 3) (tTup (tCons (tVar 4) tNil)))) (by rfl) S.nd rfl rfl (sw_true rfl rfl rfl (by rfl)) (pi_list (pv 1)) (blkOk_by (by rfl)) (by decide) (fun _ _ _ _ _ => (pg_name (i := 3) S.nd rfl (by first | exact Or.inl rfl | exact Or.inr rfl))) (fun _ _ _ _ _ => pts_nil) (fun _ _ _ _ _ => (pi_tup (pe_tup (pa_cons pe_int (pa_cons pe_int pa_nil))))) (fun _ _ _ _ _ => (pg_name (i := 4) S.nd rfl (by first | exact Or.inl rfl | exact Or.inr rfl))) (fun _ _ _ _ _ => pts_nil) (fun _ _ _ _ _ => (pe_op op_catA (pv 3) (pe_tup (pa_cons (pv 4) pa_nil))))))) (pss_one (ps_ret (pv 1))))), ?_⟩
  rintro n h7
  repeat walk_at "dl"
  refine ss_set (w_new (wn_lstL (α := Row) ?_))
  repeat walk_at "dl"
  refine w_tup0 (α := Nat) ?_
  repeat walk_at "dl"
  refine ⟨[[]], ⟨Le.refl _, trivial⟩, by decide, ?_⟩
  repeat walk_at "dl"
  refine ss_forT (js := [2]) (wx_range ?_)
  repeat walk_at "dl"
  refine ⟨_, n, rfl, Le.refl _, by have : n ≤ 7 := h7; exact Nat.le_trans this (by decide), fun pre ρ' => ∃ S2, ρ' = [.fact (Is K n), .fact (IsL K (rowsOf pre.length)), S2, .no, .no], ⟨.no, rfl⟩, fun pre x ρ' hx hp ⟨S2, e⟩ => ?_, fun ρ' ⟨S2, e⟩ => ?_⟩
  · subst e
    have hpl : pre.length + 1 ≤ n := by
      have := hp.length_le
      rw [List.length_append, List.length_range] at this
      exact this
    repeat walk_at "dl"
    refine ss_set (w_new (wn_lc2 (F1 := fun b : Nat => Is K b) (js := [3]) (js1 := [4]) (fun (r : Row) (b : Nat) => r ++ [b]) (fun _ => [0, 1]) (by decide) (by decide) (wx_list ?_)))
    repeat walk_at "dl"
    refine ⟨rowsOf pre.length, le_L _, Nat.le_trans (rows_len (by have : n ≤ 7 := h7; omega)) (by decide), ?_, fun r hr => ?_, ?_⟩
    · rw [rowsOf_step]
      exact Nat.le_trans (rows_len (by have : n ≤ 7 := h7; omega)) (by decide)
    · repeat walk_at "dl"
      refine ⟨noOwn_of (by rfl), wx_tup (w_tupL (α := Nat) ?_)⟩
      repeat walk_at "dl"
      refine ⟨[0, 1], ⟨Le.refl _, Le.refl _, trivial⟩, by decide, [0, 1], Le.refl _, by decide, rfl, fun b hb => ?_⟩
      repeat walk_at "dl"
      refine w_tupL (α := Nat) ?_
      repeat walk_at "dl"
      refine ⟨[b], ⟨Le.refl _, trivial⟩, by show 1 ≤ 1000; decide, ?_⟩
      refine r_catA ?_ (Le.refl _)
      have := (rowsOf_len1 hr).1
      rw [this]
      exact Nat.le_trans (show pre.length + 1 ≤ 7 from by have : n ≤ 7 := h7; omega) (by decide)
    · rw [rowsOf_step]
      exact ⟨_, by rw [List.length_append]; rfl⟩
  · subst e
    repeat walk_at "dl"
    rw [List.length_range]
/-- the number of a row -/
def codeOf (r : Row) : Nat := ((enumM r).map fun p => p.2 <<< p.1).sum
def sp_code_of (K : PySem.W.Frag) : Sp := mkSp (fun r : Row => [Is K r]) (fun r => r.length ≤ 1000 ∧ ∀ b ∈ r, b ≤ 1) fun r A => A = Is K (codeOf r)
theorem enumM_mem {γ : Type} {xs : List γ} {p : Nat × γ} (h : p ∈ enumM xs) : p.1 < xs.length ∧ p.2 ∈ xs := by
  unfold enumM at h
  have := List.of_mem_zip (a := p.1) (b := p.2) h
  exact ⟨List.mem_range.mp this.1, this.2⟩
theorem d_code_of (T : TF K mg) : Has P w K mg base CX0 1 "code_of" ["row"] (sp_code_of K) := by
  obtain ⟨f, fd, F, hm, hb⟩ := T.d_code_of
  refine fn_facts F sc_code_of hm hb (fun _ => by first | rfl | (split <;> rfl)) fun cdv A outer s H E hr hgd => ?_
  have S := sc_code_of
  refine ⟨(tRet (tCB (rSum K) (tCons (tLc (iEnumT K (tCons (tVar 0) tNil)) (gTup K 2 (gCons (gName 1) (gCons (gName 2) gNil))) tYes (tOp (rI CPow fun i j => .int (i * 2 ^ j.toNat)) (tVar 2) (tVar 1)) [1, 2]) tNil))), (pss_one (ps_ret (pe_callB (cr_sum (by rfl)) (by rfl) T.n_sum bt_sum (pa_cons (pe_lc (own := [("key", 1), ("bit", 2)]) (g := (gTup K 2 (gCons (gName 1) (gCons (gName 2) gNil)))) (tt := tYes) (te := (tOp (rI CPow fun i j => .int (i * 2 ^ j.toNat)) (tVar 2) (tVar 1))) (by rfl) S.nd (pi_enumT (by rfl) T.n_enumerate (pa_cons (pv 0) pa_nil)) (blkOk_by (by rfl)) (fun _ _ _ _ _ => (pg_tup (by rfl) (pgs_cons (pg_name (i := 1) S.nd rfl (by first | exact Or.inl rfl | exact Or.inr rfl)) (pgs_cons (pg_name (i := 2) S.nd rfl (by first | exact Or.inl rfl | exact Or.inr rfl)) pgs_nil)))) (fun _ _ _ _ _ => pts_nil) (fun _ _ _ _ _ => (pe_op op_shl (pv 2) (pv 1)))) pa_nil)))), ?_⟩
  rintro r ⟨h1, h2⟩
  repeat walk_at "dl"
  refine w_new (wn_mapT (fun p : Nat × Nat => p.2 <<< p.1) (js := [1, 2]) (by decide) (wx_enumT (α := Nat) ?_))
  repeat walk_at "dl"
  refine ⟨r, rfl, Nat.le_trans h1 (by decide), fun p hp => ?_, ?_⟩
  · obtain ⟨q1, q2⟩ := enumM_mem hp
    repeat walk_at "dl"
    exact r_shl (by omega) (Nat.lt_of_le_of_lt (h2 _ q2) (by decide)) (Le.refl _)
  · repeat walk_at "dl"
    exact c_sumL (le_L _) rfl
end
end K89
/-! K89e: the program's defs, further. -/
namespace K89
open PySem PySem.Spec PyProof.Rows L2 DL
section
variable {P : Program} {w : World} {K : PySem.W.Frag} {mg : PySem.Str → Option Value} {base : Heap}
local macro_rules | `(tactic| walk_at "dl") => `(tactic| first
  | with_reducible refine ss_ret ?_ | with_reducible refine ss_seq ?_ | with_reducible refine ss_if ?_ | with_reducible refine ss_next ?_ | with_reducible refine ss_retN ?_
  | refine w_var (by rfl) ?_ | with_reducible refine w_lit ?_ | with_reducible refine w_bl ?_ | with_reducible refine w_non ?_ | with_reducible refine w_str ?_ | with_reducible refine w_val ?_
  | with_reducible refine w_op ?_ | with_reducible refine w_cb ?_ | with_reducible refine w_call ?_ | with_reducible refine wa_cons ?_ | with_reducible refine wa_nil ?_
  | with_reducible refine wt_test ?_ | with_reducible refine wt_B ?_ | with_reducible refine wt_not ?_ | with_reducible refine wt_yes ?_ | with_reducible refine wt_and ?_ | with_reducible refine wt_or ?_
  | with_reducible refine w_andV ?_ | with_reducible refine w_orV ?_ | with_reducible refine w_notV ?_ | with_reducible refine w_if ?_ | with_reducible refine w_chain ?_
  | with_reducible refine wo_none ?_ | with_reducible refine wo_some ?_
  | with_reducible refine r_eq ?_ | with_reducible refine r_ne ?_ | with_reducible refine r_lt ?_ | with_reducible refine r_add ?_ | with_reducible refine r_and ?_ | with_reducible refine r_shr ?_ | with_reducible refine r_ltn ?_ | with_reducible refine r_gtn ?_ | with_reducible refine r_len ?_
  | with_reducible refine r_inT ?_ | with_reducible refine r_notInT ?_ | with_reducible refine r_inL ?_
  | with_reducible refine c_lenT ?_ | with_reducible refine c_lenP ?_ | with_reducible refine r_fst ?_ | with_reducible refine r_snd ?_ | with_reducible refine g_name ?_ | with_reducible refine g_pair ?_ | with_reducible refine gs_name ?_ | with_reducible refine gs_nil ?_)
/-- the masks and bits that are held -/
def heldS (r : Rule) (p : Nat × Nat) : Bool := r.2.any fun x => decide (p.1 < 2 ^ r.1 ∧ p.2 = codeOf x &&& p.1)
def sp_held_codes (K : PySem.W.Frag) : Sp := mkSp (fun r : Rule => [Is K r]) (fun r => r.1 ≤ 7 ∧ r.2.length ≤ 3000 ∧ ∀ x ∈ r.2, OkRow r.1 x) fun r A => A = isDT (heldS r)
theorem Eq.isx {A B : Fact} (h : A = B) : Le A B := Le.of_eq h
theorem DicIv.to {S S' : Nat × Nat → Bool} {n n' : Nat} {D : Addr} {o : HO} (z : DicIv S n D o) (hn : n ≤ n') (h : ∀ p, S p = S' p) : DicIv S' n' D o :=
  let ⟨kvs, a, b, c⟩ := z
  ⟨kvs, a, Nat.le_trans b hn, fun q => (c q).trans (h q)⟩
theorem d_held_codes (T : TF K mg) (h_code_of : Has P w K mg base CX0 1 "code_of" ["row"] (sp_code_of K)) : Has P w K mg base CX0 2 "held_codes" ["rule"] (sp_held_codes K) := by
  obtain ⟨f, fd, F, hm, hb⟩ := T.d_held_codes
  refine fn_facts F sc_held_codes hm hb (fun _ => by first | rfl | (split <;> rfl)) fun cdv A outer s H E hr hgd => ?_
  have S := sc_held_codes
  refine ⟨(tSeq (tAsg (tVar 0) (gTup K 2 (gCons (gName 1) (gCons (gName 2) gNil)))) (tSeq (tAsg (tLc (iTup K (tVar 2)) (gName 4) tYes (tCall (sp_code_of K) [] E0 (tCons (tVar 4) tNil)) [4]) (gName 3)) (tRet _))), (pss_cons (ps_asg (pv 0) (pg_tup (by rfl) (pgs_cons (pg_name (i := 1) S.nd rfl (by first | exact Or.inl rfl | exact Or.inr rfl)) (pgs_cons (pg_name (i := 2) S.nd rfl (by first | exact Or.inl rfl | exact Or.inr rfl)) pgs_nil)))) (pss_cons (ps_setLc (i := 3) (own := [("row", 4)]) (g := (gName 4)) (tt := tYes) (te := (tCall (sp_code_of K) [] E0 (tCons (tVar 4) tNil))) (by rfl) S.nd rfl rfl (sw_true rfl rfl rfl (by rfl)) (pi_tup (pv 2)) (blkOk_by (by rfl)) (fun _ _ _ _ _ => (pg_name (i := 4) S.nd rfl (by first | exact Or.inl rfl | exact Or.inr rfl))) (fun _ _ _ _ _ => pts_nil) (fun _ _ _ _ _ => (pc (E := E0) (h_code_of.mono (by decide)) hr hgd (by rfl) pass0 (pa_cons (pv 4) pa_nil)))) (pss_one (ps_ret (pe_dictT (own := [("code", 5), ("mask", 6)]) (vs1 := [6]) (g := (gName 5)) (tt := tYes) (wi1 := (iRng1 (tCons (tOp (rI CPow fun i j => .int (i * 2 ^ j.toNat)) (tC (.int 1)) (tVar 1)) tNil))) (g1 := (gName 6)) (tt1 := tYes) (tk := (tTup (tCons (tVar 6) (tCons (tOp (rI0 fun i j => .int (Builtin.bitAnd i j)) (tVar 5) (tVar 6)) tNil)))) (tv := (tC (.bl true))) (hu_of hr) (by rfl) S.nd (pi_list (pv 3)) (blkOk_by (by rfl)) (by decide) (fun _ _ _ _ _ => (pg_name (i := 5) S.nd rfl (by first | exact Or.inl rfl | exact Or.inr rfl))) (fun _ _ _ _ _ => pts_nil) (fun _ _ _ _ _ => (pi_range1 (by rfl) T.n_range (pa_cons (pe_op op_shl pe_int (pv 1)) pa_nil))) (fun _ _ _ _ _ => (pg_name (i := 6) S.nd rfl (by first | exact Or.inl rfl | exact Or.inr rfl))) (fun _ _ _ _ _ => pts_nil) (fun _ _ _ _ _ => (pe_tup (pa_cons (pv 6) (pa_cons (pe_op op_and (pv 5) (pv 6)) pa_nil)))) (fun _ _ _ _ _ => pe_bl)))))), ?_⟩
  rintro ⟨n, rows⟩ ⟨h7, hz, hr'⟩
  dsimp only at h7 hz hr'
  repeat walk_at "dl"
  refine ss_pair (α := Nat) (β := List Row) (js := [1, 2]) ?_
  repeat walk_at "dl"
  refine is_x ?_
  repeat walk_at "dl"
  refine ss_set (w_new (wn_mapT codeOf (js := [4]) (by decide) (wx_tup ?_)))
  repeat walk_at "dl"
  refine ⟨rows, Le.refl _, Nat.le_trans hz (by decide), fun x hx => ?_, ?_⟩
  · repeat walk_at "dl"
    exact c_mk x ⟨by rw [(hr' x hx).1]; omega, (hr' x hx).2⟩ fun A e => Le.of_eq e
  repeat walk_at "dl"
  have e2 : 1 <<< n = 2 ^ n := by rw [Nat.shiftLeft_eq, Nat.one_mul]
  have l2 : 2 ^ n ≤ 128 := Nat.pow_le_pow_right (by decide) h7
  refine w_gc (js := [5]) (by decide) (wx_list (α := Nat) ?_)
  repeat walk_at "dl"
  refine ⟨rows.map codeOf, le_L _, by rw [List.length_map]; exact Nat.le_trans hz (by decide), fun pre => DicIv (fun p => pre.any fun c => decide (p.1 < 2 ^ n ∧ p.2 = c &&& p.1)) (pre.length * 128), fun D => ⟨[], rfl, Nat.zero_le _, fun q => rfl⟩, fun pre c hc hl => ?_, fun D o ⟨kvs, eo, hk, hS⟩ => ?_⟩
  · rw [List.length_map] at hl
    repeat walk_at "dl"
    refine ⟨fun _ => ?_, fun z => Bool.noConfusion z⟩
    refine wl_in (noOwn_of (by rfl)) (js := [6]) (by decide) (wx_range ?_)
    repeat walk_at "dl"
    refine r_shl (by omega) (by decide) ?_
    repeat walk_at "dl"
    refine ⟨_, 1 <<< n, rfl, Le.refl _, by rw [e2]; exact Nat.le_trans l2 (by decide), fun pre1 => DicIv (fun p => (pre.any fun c => decide (p.1 < 2 ^ n ∧ p.2 = c &&& p.1)) || (decide (p.1 ∈ pre1) && decide (p.2 = c &&& p.1))) (pre.length * 128 + pre1.length), fun D o z => ?_, fun pre1 m hm hl1 => ?_, fun D o z => ?_⟩
    · exact DicIv.to z (Nat.le_add_right _ _) fun p => by simp
    · have hm' := List.mem_range.mp hm
      rw [List.length_range] at hl1
      repeat walk_at "dl"
      refine ⟨fun _ => ?_, fun z => Bool.noConfusion z⟩
      refine wl_dict (p := (m, c &&& m)) (by omega) ?_ fun D o z => ?_
      · refine w_pair ?_
        repeat walk_at "dl"
        refine ⟨m, c &&& m, rfl, Le.refl _, ?_⟩
        repeat walk_at "dl"
        trivial
      · refine DicIv.to z (by rw [List.length_append, List.length_singleton, ← Nat.add_assoc]; exact Nat.le_refl _) fun p => ?_
        rw [Bool.eq_iff_iff]
        simp only [Bool.or_eq_true, Bool.and_eq_true, decide_eq_true_eq, List.mem_append, List.mem_singleton, Prod.ext_iff]
        constructor
        · rintro ((h | h) | ⟨h1, h2⟩)
          · exact .inl h
          · exact .inr ⟨.inl h.1, h.2⟩
          · exact .inr ⟨.inr h1, by rw [h2, h1]⟩
        · rintro (h | ⟨h1 | h1, h2⟩)
          · exact .inl (.inl h)
          · exact .inl (.inr ⟨h1, h2⟩)
          · exact .inr ⟨h1, by rw [h2, h1]⟩
    · obtain ⟨kvs, eo, hk, hS⟩ := z
      refine ⟨kvs, eo, ?_, fun p => ?_⟩
      · rw [List.length_range, e2] at hk
        rw [List.length_append, List.length_singleton]
        omega
      · rw [hS]
        dsimp only
        rw [List.any_append, List.any_cons, List.any_nil, Bool.or_false]
        congr 1
        rw [Bool.eq_iff_iff]
        simp only [Bool.and_eq_true, decide_eq_true_eq, List.mem_range, e2]
  · subst eo
    refine ⟨isDT (heldS (n, rows)), rfl, fun H hH => ⟨D, kvs, rfl, hH, fun q => ?_⟩⟩
    rw [hS]
    dsimp only
    rw [List.any_map]
    rfl
end
end K89
/-! K89f: the program's defs, further. -/
namespace K89
open PySem PySem.Spec PyProof.Rows L2 DL
section
variable {P : Program} {w : World} {K : PySem.W.Frag} {mg : PySem.Str → Option Value} {base : Heap}
local macro_rules | `(tactic| walk_at "dl") => `(tactic| first
  | with_reducible refine ss_ret ?_ | with_reducible refine ss_seq ?_ | with_reducible refine ss_if ?_ | with_reducible refine ss_next ?_ | with_reducible refine ss_retN ?_
  | refine w_var (by rfl) ?_ | with_reducible refine w_lit ?_ | with_reducible refine w_bl ?_ | with_reducible refine w_non ?_ | with_reducible refine w_str ?_ | with_reducible refine w_val ?_
  | with_reducible refine w_op ?_ | with_reducible refine w_cb ?_ | with_reducible refine w_call ?_ | with_reducible refine wa_cons ?_ | with_reducible refine wa_nil ?_
  | with_reducible refine wt_test ?_ | with_reducible refine wt_B ?_ | with_reducible refine wt_not ?_ | with_reducible refine wt_yes ?_ | with_reducible refine wt_and ?_ | with_reducible refine wt_or ?_
  | with_reducible refine w_andV ?_ | with_reducible refine w_orV ?_ | with_reducible refine w_notV ?_ | with_reducible refine w_if ?_ | with_reducible refine w_chain ?_
  | with_reducible refine wo_none ?_ | with_reducible refine wo_some ?_
  | with_reducible refine r_eq ?_ | with_reducible refine r_ne ?_ | with_reducible refine r_lt ?_ | with_reducible refine r_add ?_ | with_reducible refine r_and ?_ | with_reducible refine r_shr ?_ | with_reducible refine r_ltn ?_ | with_reducible refine r_gtn ?_ | with_reducible refine r_len ?_
  | with_reducible refine r_inT ?_ | with_reducible refine r_notInT ?_ | with_reducible refine r_inL ?_
  | with_reducible refine c_lenT ?_ | with_reducible refine c_lenP ?_ | with_reducible refine r_fst ?_ | with_reducible refine r_snd ?_ | with_reducible refine g_name ?_ | with_reducible refine g_pair ?_ | with_reducible refine gs_name ?_ | with_reducible refine gs_nil ?_)
theorem and_sub_lt {b m : Nat} (h : 0 < b) : (b - 1) &&& m < b := Nat.lt_of_le_of_lt Nat.and_le_left (by omega)
/-- the lesser ones within the mask, downwards -/
def numsW (m : Nat) (b : Nat) : List Nat := if h : 0 < b then ((b - 1) &&& m) :: numsW m ((b - 1) &&& m) else []
termination_by b
decreasing_by exact and_sub_lt h
def numsM (m : Nat) : List Nat := m :: numsW m m
theorem numsW_len (m : Nat) : ∀ b, (numsW m b).length ≤ b := by
  intro b
  induction b using Nat.strongRecOn with
  | ind b ih =>
    unfold numsW
    split
    · rename_i h
      rw [List.length_cons]
      have := ih _ (and_sub_lt (m := m) h)
      have h2 := and_sub_lt (m := m) h
      omega
    · exact Nat.zero_le _
def sp_numbers_within (K : PySem.W.Frag) : Sp := mkSp (fun m : Nat => [Is K m]) (fun m => m ≤ 10000) fun m A => A = IsL K (numsM m)
theorem d_numbers_within (T : TF K mg) : Has P w K mg base CX0 1 "numbers_within" ["mask"] (sp_numbers_within K) := by
  obtain ⟨f, fd, F, hm, hb⟩ := T.d_numbers_within
  refine fn_facts F sc_numbers_within hm hb (fun _ => by first | rfl | (split <;> rfl)) fun cdv A outer s H E hr hgd => ?_
  have S := sc_numbers_within
  refine ⟨(tSeq (tPar 1 2 (tCons (tLst (tCons (tVar 0) tNil)) (tCons (tVar 0) tNil))) (tSeq (tWhile (tTest (tOp (rI0 fun i j => .bl (decide (j < i))) (tVar 2) (tC (.int 0)))) (tSeq (tAsg (tOp (rI0 fun i j => .int (Builtin.bitAnd i j)) (tOp (rI0 fun i j => .int (i - j)) (tVar 2) (tC (.int 1))) (tVar 0)) (gName 2)) (tDrop (tBM K "list" rAppend (tVar 1) (tCons (tVar 2) tNil))))) (tRet (tVar 1)))), (pss_cons (ps_par (i := 1) (j := 2) (by rfl) S.nd rfl rfl (by decide) rfl rfl (pa_cons (pe_lst (pa_cons (pv 0) pa_nil)) (pa_cons (pv 0) pa_nil)) (by rfl)) (pss_cons (ps_while PassesOwn.never (pt_cmpR op_gt (pv 2) pe_int (nomark _)) (pss_cons (ps_set (i := 2) S.nd rfl (by first | exact Or.inl rfl | exact Or.inr rfl) (pe_op op_and (pe_op op_sub (pv 2) pe_int) (pv 0))) (pss_one (ps_expr (pe_bm PySem.F.plainAttrs_list PySem.F.slot_list_append PySem.F.type_list_append mt_append (pv 1) (pa_cons (pv 2) pa_nil)))))) (pss_one (ps_ret (pv 1))))), ?_⟩
  rintro m hm
  have hm : m ≤ 10000 := hm
  repeat walk_at "dl"
  refine ss_parN (by decide) (wn_lstL (α := Nat) ?_)
  repeat walk_at "dl"
  refine ⟨[m], ⟨Le.refl _, trivial⟩, by show 1 ≤ 1000; decide, ?_⟩
  repeat walk_at "dl"
  refine ss_while (fun b ρ' => ∃ L : List Nat, L ++ numsW m b = numsM m ∧ ρ' = [.fact (Is K m), .own (L.map Enc.enc), .fact (Is K b)]) m ⟨[m], rfl, rfl⟩ fun b ρ' ⟨L, hL, e⟩ => ?_
  subst e
  have hl : L.length ≤ 10001 := by
    have h1 : (L ++ numsW m b).length = (numsM m).length := by rw [hL]
    rw [List.length_append] at h1
    have h2 := numsW_len m m
    have h3 : (numsM m).length = (numsW m m).length + 1 := rfl
    omega
  repeat walk_at "dl"
  refine is_x ⟨fun hb => ?_, fun hb => ?_⟩
  · have hb : 0 < b := of_decide_eq_true hb
    repeat walk_at "dl"
    refine ss_set ?_
    repeat walk_at "dl"
    refine r_sub hb ?_
    repeat walk_at "dl"
    refine ss_append (ds := L.map Enc.enc) rfl (by rw [List.length_map]; omega) ?_
    repeat walk_at "dl"
    refine ⟨Enc.enc ((b - 1) &&& m), Le.refl _, (b - 1) &&& m, and_sub_lt hb, L ++ [(b - 1) &&& m], ?_, ?_⟩
    · rw [← hL]
      have e : numsW m b = ((b - 1) &&& m) :: numsW m ((b - 1) &&& m) := by
        rw [numsW, dif_pos hb]
      rw [e, List.append_assoc]
      rfl
    · rw [List.map_append]
      rfl
  · have hb : ¬ 0 < b := of_decide_eq_false hb
    have e : numsW m b = [] := by rw [numsW, dif_neg hb]
    rw [e, List.append_nil] at hL
    subst hL
    refine ss_freeze (i := 1) rfl ?_
    repeat walk_at "dl"
    rfl
/-- the least of what is not held -/
def leastM (S : Nat × Nat → Bool) (n m b : Nat) : Bool := !S (m, b) && (List.range n).all fun k => decide (m &&& (1 <<< k) = 0) || S (m - (m &&& (1 <<< k)), b &&& (m - (m &&& (1 <<< k))))
def sp_is_least (K : PySem.W.Frag) : Sp := mkSp (fun t : (Nat × Nat → Bool) × Nat × Nat × Nat => [isDT t.1, Is K t.2.1, Is K t.2.2.1, Is K t.2.2.2]) (fun t => t.2.1 ≤ 100) fun t A => A = Is K (leastM t.1 t.2.1 t.2.2.1 t.2.2.2)
theorem take_all {α : Type} {f : α → Bool} {pre : List α} {x : α} : (pre ++ [x]).all f = (pre.all f && f x) := by simp
theorem d_is_least (T : TF K mg) : Has P w K mg base CX0 1 "is_least" ["held", "size", "mask", "bits"] (sp_is_least K) := by
  obtain ⟨f, fd, F, hm, hb⟩ := T.d_is_least
  refine fn_facts F sc_is_least hm hb (fun _ => by first | rfl | (split <;> rfl)) fun cdv A outer s H E hr hgd => ?_
  have S := sc_is_least
  refine ⟨(tSeq (tIfS (tTest (tOp rInDT (tTup (tCons (tVar 2) (tCons (tVar 3) tNil))) (tVar 0))) (tRet (tC (.bl false))) tNext) (tSeq (tFor (iRng1 (tCons (tVar 1) tNil)) (gName 4) (tSeq (tAsg (tOp (rI0 fun i j => .int (Builtin.bitAnd i j)) (tVar 2) (tOp (rI CPow fun i j => .int (i * 2 ^ j.toNat)) (tC (.int 1)) (tVar 4))) (gName 5)) (tIfS (tAnd (tTest (tOp (rI0 fun i j => .bl (decide (j < i))) (tVar 5) (tC (.int 0)))) (tTest (tOp rNotInDT (tTup (tCons (tOp (rI0 fun i j => .int (i - j)) (tVar 2) (tVar 5)) (tCons (tOp (rI0 fun i j => .int (Builtin.bitAnd i j)) (tVar 3) (tOp (rI0 fun i j => .int (i - j)) (tVar 2) (tVar 5))) tNil))) (tVar 0)))) (tRet (tC (.bl false))) tNext))) (tRet (tC (.bl true))))), (pss_cons (ps_if (pt_cmpR (op_inDT (hu_of hr)) (pe_tup (pa_cons (pv 2) (pa_cons (pv 3) pa_nil))) (pv 0) (by rfl)) (pss_one (ps_ret pe_bl)) pss_nil) (pss_cons (ps_for PassesOwn.never (by rfl) (pi_range1 (by rfl) T.n_range (pa_cons (pv 1) pa_nil)) (pg_name (i := 4) S.nd rfl (by first | exact Or.inl rfl | exact Or.inr rfl)) (pss_cons (ps_set (i := 5) S.nd rfl (by first | exact Or.inl rfl | exact Or.inr rfl) (pe_op op_and (pv 2) (pe_op op_shl pe_int (pv 4)))) (pss_one (ps_if (PW.pt (pw_and (pt_cmpR op_gt (pv 5) pe_int (nomark _)) (pw_and1 (pt_cmpR (op_notInDT (hu_of hr)) (pe_tup (pa_cons (pe_op op_sub (pv 2) (pv 5)) (pa_cons (pe_op op_and (pv 3) (pe_op op_sub (pv 2) (pv 5))) pa_nil))) (pv 0) (by rfl))))) (pss_one (ps_ret pe_bl)) pss_nil)))) (pss_one (ps_ret pe_bl)))), ?_⟩
  rintro ⟨S0, n, m, b⟩ hn
  have hn : n ≤ 100 := hn
  repeat walk_at "dl"
  refine w_pair ?_
  repeat walk_at "dl"
  refine ⟨m, b, rfl, ?_⟩
  repeat walk_at "dl"
  refine r_inDT (K := K) ?_
  refine is_x ⟨fun h0 => ?_, fun h0 => ?_⟩ <;> dsimp only at h0
  · repeat walk_at "dl"
    show Is K false = Is K (leastM S0 n m b)
    unfold leastM
    rw [h0]
    rfl
  repeat walk_at "dl"
  refine ss_forT (js := [4]) (wx_range ?_)
  repeat walk_at "dl"
  refine ⟨_, n, rfl, Le.refl _, Nat.le_trans hn (by decide), fun pre ρ' => (pre.all fun k => decide (m &&& (1 <<< k) = 0) || S0 (m - (m &&& (1 <<< k)), b &&& (m - (m &&& (1 <<< k))))) = true ∧ ∃ S4 S5, ρ' = [.fact (isDT S0), .fact (Is K n), .fact (Is K m), .fact (Is K b), S4, S5], ⟨rfl, .no, .no, rfl⟩, fun pre k ρ' hk hp ⟨ha, S4, S5, e⟩ => ?_, fun ρ' ⟨ha, S4, S5, e⟩ => ?_⟩
  · subst e
    have hk' := List.mem_range.mp hk
    have hall : (List.range n).all (fun k => decide (m &&& (1 <<< k) = 0) || S0 (m - (m &&& (1 <<< k)), b &&& (m - (m &&& (1 <<< k))))) = true → (decide (m &&& (1 <<< k) = 0) || S0 (m - (m &&& (1 <<< k)), b &&& (m - (m &&& (1 <<< k))))) = true := fun z => List.all_eq_true.mp z k hk
    repeat walk_at "dl"
    refine ss_set ?_
    repeat walk_at "dl"
    refine r_shl (by omega) (by decide) ?_
    repeat walk_at "dl"
    refine is_x ⟨fun h1 => ?_, fun h1 => ?_⟩
    · have h1 : 0 < m &&& (1 <<< k) := of_decide_eq_true h1
      have hne : decide (m &&& (1 <<< k) = 0) = false := decide_eq_false (by omega)
      repeat walk_at "dl"
      refine w_pair ?_
      repeat walk_at "dl"
      refine r_sub Nat.and_le_left ?_
      repeat walk_at "dl"
      refine r_sub Nat.and_le_left ?_
      repeat walk_at "dl"
      refine ⟨_, _, rfl, ?_⟩
      repeat walk_at "dl"
      refine r_notInDT (K := K) ?_
      refine is_x ⟨fun h2 => ?_, fun h2 => ?_⟩
      · repeat walk_at "dl"
        show Is K false = Is K (leastM S0 n m b)
        have h3 : leastM S0 n m b = false := by
          cases h4 : leastM S0 n m b with
          | false => rfl
          | true =>
            unfold leastM at h4
            rw [Bool.and_eq_true] at h4
            have h5 := hall h4.2
            rw [hne, Bool.false_or] at h5
            rw [h5] at h2
            cases h2
        rw [h3]
      · repeat walk_at "dl"
        refine ⟨?_, _, _, rfl⟩
        rw [take_all, ha, hne]
        cases h5 : S0 (m - (m &&& (1 <<< k)), b &&& (m - (m &&& (1 <<< k)))) with
        | true => rfl
        | false => rw [h5] at h2; cases h2
    · have h1 : ¬ 0 < m &&& (1 <<< k) := of_decide_eq_false h1
      refine ⟨fun z => Bool.noConfusion z, fun _ => ?_⟩
      repeat walk_at "dl"
      refine ⟨?_, _, _, rfl⟩
      rw [take_all, ha, decide_eq_true (show m &&& (1 <<< k) = 0 from by omega)]
      rfl
  · subst e
    repeat walk_at "dl"
    show Is K true = Is K (leastM S0 n m b)
    unfold leastM
    rw [ha, h0]
    rfl
end
end K89
/-! K89g: the program's defs, further. -/
namespace K89
open PySem PySem.Spec PyProof.Rows L2 DL
section
variable {P : Program} {w : World} {K : PySem.W.Frag} {mg : PySem.Str → Option Value} {base : Heap}
local macro_rules | `(tactic| walk_at "dl") => `(tactic| first
  | with_reducible refine ss_ret ?_ | with_reducible refine ss_seq ?_ | with_reducible refine ss_if ?_ | with_reducible refine ss_next ?_ | with_reducible refine ss_retN ?_
  | refine w_var (by rfl) ?_ | with_reducible refine w_lit ?_ | with_reducible refine w_bl ?_ | with_reducible refine w_non ?_ | with_reducible refine w_str ?_ | with_reducible refine w_val ?_
  | with_reducible refine w_op ?_ | with_reducible refine w_cb ?_ | with_reducible refine w_call ?_ | with_reducible refine wa_cons ?_ | with_reducible refine wa_nil ?_
  | with_reducible refine wt_test ?_ | with_reducible refine wt_B ?_ | with_reducible refine wt_not ?_ | with_reducible refine wt_yes ?_ | with_reducible refine wt_and ?_ | with_reducible refine wt_or ?_
  | with_reducible refine w_andV ?_ | with_reducible refine w_orV ?_ | with_reducible refine w_notV ?_ | with_reducible refine w_if ?_ | with_reducible refine w_chain ?_
  | with_reducible refine wo_none ?_ | with_reducible refine wo_some ?_
  | with_reducible refine r_eq ?_ | with_reducible refine r_ne ?_ | with_reducible refine r_lt ?_ | with_reducible refine r_add ?_ | with_reducible refine r_and ?_ | with_reducible refine r_shr ?_ | with_reducible refine r_ltn ?_ | with_reducible refine r_gtn ?_ | with_reducible refine r_len ?_
  | with_reducible refine r_inT ?_ | with_reducible refine r_notInT ?_ | with_reducible refine r_inL ?_
  | with_reducible refine c_lenT ?_ | with_reducible refine c_lenP ?_ | with_reducible refine r_fst ?_ | with_reducible refine r_snd ?_ | with_reducible refine g_name ?_ | with_reducible refine g_pair ?_ | with_reducible refine gs_name ?_ | with_reducible refine gs_nil ?_)
def partM (n m b : Nat) : Part := ((List.range n).filter fun k => decide ((m >>> k) &&& 1 = 1)).map fun k => (k, (b >>> k) &&& 1)
def sp_partial_of (K : PySem.W.Frag) : Sp := mkSp (fun t : Nat × Nat × Nat => [Is K t.1, Is K t.2.1, Is K t.2.2]) (fun t => t.1 ≤ 1000) fun t A => A = Is K (partM t.1 t.2.1 t.2.2)
theorem d_partial_of (T : TF K mg) : Has P w K mg base CX0 1 "partial_of" ["size", "mask", "bits"] (sp_partial_of K) := by
  obtain ⟨f, fd, F, hm, hb⟩ := T.d_partial_of
  refine fn_facts F sc_partial_of hm hb (fun _ => by first | rfl | (split <;> rfl)) fun cdv A outer s H E hr hgd => ?_
  have S := sc_partial_of
  refine ⟨(tRet (tCB (rTupA K) (tCons (tLc (iRng1 (tCons (tVar 0) tNil)) (gName 3) (tTest (tOp (rEqD K) (tOp (rI0 fun i j => .int (Builtin.bitAnd i j)) (tOp (rI (fun _ j => 0 ≤ j) fun i j => .int (i / 2 ^ j.toNat)) (tVar 1) (tVar 3)) (tC (.int 1))) (tC (.int 1)))) (tTup (tCons (tVar 3) (tCons (tOp (rI0 fun i j => .int (Builtin.bitAnd i j)) (tOp (rI (fun _ j => 0 ≤ j) fun i j => .int (i / 2 ^ j.toNat)) (tVar 2) (tVar 3)) (tC (.int 1))) tNil))) [3]) tNil))), (pss_one (ps_ret (pe_callTy call_tuple_of (by rfl) T.n_tuple bt_tuple (pa_cons (pe_lc (own := [("key", 3)]) (g := (gName 3)) (tt := (tTest (tOp (rEqD K) (tOp (rI0 fun i j => .int (Builtin.bitAnd i j)) (tOp (rI (fun _ j => 0 ≤ j) fun i j => .int (i / 2 ^ j.toNat)) (tVar 1) (tVar 3)) (tC (.int 1))) (tC (.int 1))))) (te := (tTup (tCons (tVar 3) (tCons (tOp (rI0 fun i j => .int (Builtin.bitAnd i j)) (tOp (rI (fun _ j => 0 ≤ j) fun i j => .int (i / 2 ^ j.toNat)) (tVar 2) (tVar 3)) (tC (.int 1))) tNil)))) (by rfl) S.nd (pi_range1 (by rfl) T.n_range (pa_cons (pv 0) pa_nil)) (blkOk_by (by rfl)) (fun _ _ _ _ _ => (pg_name (i := 3) S.nd rfl (by first | exact Or.inl rfl | exact Or.inr rfl))) (fun _ _ _ _ _ => pts_one (pt_cmpR (op_eqD hr.units) (pe_op op_and (pe_op op_shr (pv 1) (pv 3)) pe_int) pe_int (nomark _))) (fun _ _ _ _ _ => (pe_tup (pa_cons (pv 3) (pa_cons (pe_op op_and (pe_op op_shr (pv 2) (pv 3)) pe_int) pa_nil))))) pa_nil)))), ?_⟩
  rintro ⟨n, m, b⟩ hn
  have hn : n ≤ 1000 := hn
  repeat walk_at "dl"
  refine w_new (wn_comp (fun k : Nat => decide ((m >>> k) &&& 1 = 1)) (fun k => (k, (b >>> k) &&& 1)) (js := [3]) (by decide) (wx_range ?_))
  repeat walk_at "dl"
  refine ⟨_, n, rfl, Le.refl _, Nat.le_trans hn (by decide), fun k hk => ?_, ?_⟩
  · repeat walk_at "dl"
    refine is_x ⟨rfl, fun _ => ?_⟩
    refine w_tup2 (α := Nat) (β := Nat) ?_
    repeat walk_at "dl"
    exact ⟨k, _, ⟨_, _, rfl, Le.refl _, Le.refl _⟩, Le.refl _⟩
  · repeat walk_at "dl"
    exact c_tup le_l rfl
def held (rows : List Row) (p : Part) : Bool := rows.any fun r => contains r p
/-- rows and a partial row of one size -/
def Fit (n : Nat) (rows : List Row) (p : Part) : Prop := (∀ r ∈ rows, r.length = n) ∧ rows.length ≤ 3000 ∧ (∀ l ∈ p, l.1 < n) ∧ p.length ≤ 1000
def sp_is_held (K : PySem.W.Frag) : Sp := mkSp (fun t : Rule × Part => [Is K t.1, Is K t.2]) (fun t => Fit t.1.1 t.1.2 t.2) fun t A => A = Is K (held t.1.2 t.2)
theorem d_is_held (T : TF K mg) (h_contains_in : Has P w K mg base CX0 1 "contains_in" ["row", "partial"] (sp_contains_in K)) : Has P w K mg base CX0 2 "is_held" ["rule", "partial"] (sp_is_held K) := by
  obtain ⟨f, fd, F, hm, hb⟩ := T.d_is_held
  refine fn_facts F sc_is_held hm hb (fun _ => by first | rfl | (split <;> rfl)) fun cdv A outer s H E hr hgd => ?_
  have S := sc_is_held
  refine ⟨(tRet (tCB (rAny K) (tCons (tLc (iTup K (tOp (rIx K) (tVar 0) (tC (.int 1)))) (gName 2) tYes (tCall (sp_contains_in K) [] E0 (tCons (tVar 2) (tCons (tVar 1) tNil))) [2]) tNil))), (pss_one (ps_ret (pe_callB (cr_any (by rfl)) (by rfl) T.n_any bt_any (pa_cons (pe_lc (own := [("row", 2)]) (g := (gName 2)) (tt := tYes) (te := (tCall (sp_contains_in K) [] E0 (tCons (tVar 2) (tCons (tVar 1) tNil)))) (by rfl) S.nd (pi_tup (pe_ix ix_seq (pv 0) pe_int (fun _ _ => rfl))) (blkOk_by (by rfl)) (fun _ _ _ _ _ => (pg_name (i := 2) S.nd rfl (by first | exact Or.inl rfl | exact Or.inr rfl))) (fun _ _ _ _ _ => pts_nil) (fun _ _ _ _ _ => (pc (E := E0) (h_contains_in.mono (by decide)) hr hgd (by rfl) pass0 (pa_cons (pv 2) (pa_cons (pv 1) pa_nil))))) pa_nil)))), ?_⟩
  rintro ⟨⟨n, rows⟩, p⟩ ⟨h1, h2, h3, h4⟩
  dsimp only at h1 h2 h3 h4
  repeat walk_at "dl"
  refine w_anyT (fun r : Row => contains r p) (js := [2]) (by decide) (wx_tup ?_)
  repeat walk_at "dl"
  refine ⟨rows, Le.refl _, Nat.le_trans h2 (by decide), fun r hr => ?_, rfl⟩
  repeat walk_at "dl"
  exact c_mk (r, p) ⟨fun l hl => by show l.1 < r.length; rw [h1 r hr]; exact h3 l hl, h4⟩ fun A e => Le.of_eq e
/-- without the literal at i -/
def drop1 (p : Part) (i : Nat) : Part := p.take i ++ p.drop (i + 1)
theorem drop1_mem {p : Part} {i : Nat} {l : Lit} (h : l ∈ drop1 p i) : l ∈ p := by
  rcases List.mem_append.mp h with z | z
  · exact List.mem_of_mem_take z
  · exact List.mem_of_mem_drop z
theorem drop1_len (p : Part) (i : Nat) : (drop1 p i).length ≤ p.length := by
  unfold drop1
  rw [List.length_append, List.length_take, List.length_drop]
  omega
def isPat (rows : List Row) (p : Part) : Bool := !held rows p && (List.range p.length).all fun i => held rows (drop1 p i)
def sp_is_pattern_in (K : PySem.W.Frag) : Sp := mkSp (fun t : Rule × Part => [Is K t.1, Is K t.2]) (fun t => Fit t.1.1 t.1.2 t.2 ∧ OkPart t.1.1 t.2) fun t A => A = Is K (isPat t.1.2 t.2)
theorem w_drop1 {ρ : Rho} {i j : Nat} {p : Part} {k : Nat} {𝒜 : Fact → Prop} (h1 : ρ[i]? = some (Slot.fact (Is K p))) (h2 : ρ[j]? = some (Slot.fact (Is K k))) (hz : p.length ≤ 1000) (q : 𝒜 (Is K (drop1 p k))) :
    W K (tSl (rSlA K) (tVar i) tNoPart (tPart (tVar j))) ρ fun A => W K (tSl (rSlA K) (tVar i) (tPart (tOp (rI0 fun i j => .int (i + j)) (tVar j) (tC (.int 1)))) tNoPart) ρ fun B => R (rCatA K) A B 𝒜 := by
  refine (w_slT (α := Lit) (fun _ _ _ _ _ z => z) (w_var h1 (wo_none (wo_some (w_var h2 ⟨((k : Nat) : Int), Le.refl _, p, Le.refl _, ?_⟩)))))
  rw [cut_to]
  refine w_slT (α := Lit) (fun _ _ _ _ _ z => z) (w_var h1 (wo_some (w_op (w_var h2 (w_lit (n := 1) (r_add ⟨((k + 1 : Nat) : Int), Le.refl _, wo_none ⟨p, Le.refl _, ?_⟩⟩))))))
  rw [cut_from]
  refine r_catA ?_ q
  rw [List.length_take, List.length_drop]
  exact Nat.le_trans (show min k p.length + (p.length - (k + 1)) ≤ 2000 from by omega) (by decide)
theorem fit_drop {n : Nat} {rows : List Row} {p : Part} {i : Nat} (h : Fit n rows p) : Fit n rows (drop1 p i) := ⟨h.1, h.2.1, fun l hl => h.2.2.1 l (drop1_mem hl), Nat.le_trans (drop1_len p i) h.2.2.2⟩
theorem d_is_pattern_in (T : TF K mg) (h_is_held : Has P w K mg base CX0 2 "is_held" ["rule", "partial"] (sp_is_held K)) (h_is_partial_in : Has P w K mg base CX0 4 "is_partial_in" ["size", "value"] (sp_is_partial_in K)) : Has P w K mg base CX0 5 "is_pattern_in" ["rule", "value"] (sp_is_pattern_in K) := by
  obtain ⟨f, fd, F, hm, hb⟩ := T.d_is_pattern_in
  refine fn_facts F sc_is_pattern_in hm hb (fun _ => by first | rfl | (split <;> rfl)) fun cdv A outer s H E hr hgd => ?_
  have S := sc_is_pattern_in
  refine ⟨(tSeq (tIfS (tOr (tNot (tB (tCall (sp_is_partial_in K) [] E0 (tCons (tOp (rIx K) (tVar 0) (tC (.int 0))) (tCons (tVar 1) tNil))))) (tB (tCall (sp_is_held K) [] E0 (tCons (tVar 0) (tCons (tVar 1) tNil))))) (tRet (tC (.bl false))) tNext) (tRet (tCB (rAll K) (tCons (tLc (iRng1 (tCons (tCB (rLenA K) (tCons (tVar 1) tNil)) tNil)) (gName 2) tYes (tCall (sp_is_held K) [] E0 (tCons (tVar 0) (tCons (tOp (rCatA K) (tSl (rSlA K) (tVar 1) tNoPart (tPart (tVar 2))) (tSl (rSlA K) (tVar 1) (tPart (tOp (rI0 fun i j => .int (i + j)) (tVar 2) (tC (.int 1)))) tNoPart)) tNil))) [2]) tNil)))), (pss_cons (ps_if (PW.pt (pw_or (pt_not (pt_val (pc (E := E0) (h_is_partial_in.mono (by decide)) hr hgd (by rfl) pass0 (pa_cons (pe_ix ix_seq (pv 0) pe_int (fun _ _ => rfl)) (pa_cons (pv 1) pa_nil))))) (pw_or1 (pt_val (pc (E := E0) (h_is_held.mono (by decide)) hr hgd (by rfl) pass0 (pa_cons (pv 0) (pa_cons (pv 1) pa_nil))))))) (pss_one (ps_ret pe_bl)) pss_nil) (pss_one (ps_ret (pe_callB (cr_all (by rfl)) (by rfl) T.n_all bt_all (pa_cons (pe_lc (own := [("at", 2)]) (g := (gName 2)) (tt := tYes) (te := (tCall (sp_is_held K) [] E0 (tCons (tVar 0) (tCons (tOp (rCatA K) (tSl (rSlA K) (tVar 1) tNoPart (tPart (tVar 2))) (tSl (rSlA K) (tVar 1) (tPart (tOp (rI0 fun i j => .int (i + j)) (tVar 2) (tC (.int 1)))) tNoPart)) tNil)))) (by rfl) S.nd (pi_range1 (by rfl) T.n_range (pa_cons (pe_callB call_len_seq (by rfl) T.n_len bt_len (pa_cons (pv 1) pa_nil)) pa_nil)) (blkOk_by (by rfl)) (fun _ _ _ _ _ => (pg_name (i := 2) S.nd rfl (by first | exact Or.inl rfl | exact Or.inr rfl))) (fun _ _ _ _ _ => pts_nil) (fun _ _ _ _ _ => (pc (E := E0) (h_is_held.mono (by decide)) hr hgd (by rfl) pass0 (pa_cons (pv 0) (pa_cons (pe_op op_catA (pe_slice sl_tupA (pv 1) po_none (po_some (pv 2))) (pe_slice sl_tupA (pv 1) (po_some (pe_op op_add (pv 2) pe_int)) po_none)) pa_nil))))) pa_nil))))), ?_⟩
  rintro ⟨⟨n, rows⟩, p⟩ ⟨hf, ho⟩
  dsimp only at hf ho
  repeat walk_at "dl"
  refine c_mk (n, p) ho fun A e => ?_
  subst e
  refine is_x (br_f ?_)
  repeat walk_at "dl"
  refine c_mk ((n, rows), p) hf fun A e => ?_
  subst e
  refine is_x ⟨fun h0 => ?_, fun h0 => ?_⟩ <;> dsimp only at h0
  · repeat walk_at "dl"
    show Is K false = Is K (isPat rows p)
    unfold isPat
    rw [h0]
    rfl
  repeat walk_at "dl"
  refine w_allT (fun i : Nat => held rows (drop1 p i)) (js := [2]) (by decide) (wx_range ?_)
  repeat walk_at "dl"
  refine ⟨_, p.length, rfl, Le.refl _, Nat.le_trans hf.2.2.2 (by decide), fun i hi => ?_, ?_⟩
  · repeat walk_at "dl"
    refine w_drop1 (by rfl) (by rfl) hf.2.2.2 ?_
    repeat walk_at "dl"
    exact c_mk ((n, rows), drop1 p i) (fit_drop hf) fun A e => Le.of_eq e
  · show Is K _ = Is K (isPat rows p)
    unfold isPat
    rw [h0]
    rfl
def isPart (p q : Part) : Bool := p.all fun l => memB l q
def sp_is_part (K : PySem.W.Frag) : Sp := mkSp (fun t : Part × Part => [Is K t.1, Is K t.2]) (fun t => t.1.length ≤ 1000) fun t A => A = Is K (isPart t.1 t.2)
theorem d_is_part (T : TF K mg) : Has P w K mg base CX0 1 "is_part" ["partial", "other"] (sp_is_part K) := by
  obtain ⟨f, fd, F, hm, hb⟩ := T.d_is_part
  refine fn_facts F sc_is_part hm hb (fun _ => by first | rfl | (split <;> rfl)) fun cdv A outer s H E hr hgd => ?_
  have S := sc_is_part
  refine ⟨(tRet (tCB (rAll K) (tCons (tLc (iTup K (tVar 0)) (gName 2) tYes (tOp (rInT K) (tVar 2) (tVar 1)) [2]) tNil))), (pss_one (ps_ret (pe_callB (cr_all (by rfl)) (by rfl) T.n_all bt_all (pa_cons (pe_lc (own := [("literal", 2)]) (g := (gName 2)) (tt := tYes) (te := (tOp (rInT K) (tVar 2) (tVar 1))) (by rfl) S.nd (pi_tup (pv 0)) (blkOk_by (by rfl)) (fun _ _ _ _ _ => (pg_name (i := 2) S.nd rfl (by first | exact Or.inl rfl | exact Or.inr rfl))) (fun _ _ _ _ _ => pts_nil) (fun _ _ _ _ _ => (pe_cmpR (op_inT (un65 hr)) (pv 2) (pv 1) (by rfl)))) pa_nil)))), ?_⟩
  rintro ⟨p, q⟩ hp
  have hp : p.length ≤ 1000 := hp
  repeat walk_at "dl"
  refine w_allT (fun l : Lit => memB l q) (js := [2]) (by decide) (wx_tup ?_)
  repeat walk_at "dl"
  refine ⟨p, Le.refl _, Nat.le_trans hp (by decide), fun l hl => ?_, rfl⟩
  repeat walk_at "dl"
  exact Le.refl _
def sp_is_row_for (K : PySem.W.Frag) : Sp := mkSp (fun t : Rule × Row × Part × Nat => [Is K t.1, Is K t.2.1, Is K t.2.2.1, Is K t.2.2.2]) (fun t => t.1.1 ≤ 1000 ∧ OkRow t.1.1 t.2.1 ∧ Fit t.1.1 t.1.2 t.2.2.1) fun t A => A = Is K (memB t.2.1 t.1.2 && contains t.2.1 (drop1 t.2.2.1 t.2.2.2))
theorem d_is_row_for (T : TF K mg) (h_contains_in : Has P w K mg base CX0 1 "contains_in" ["row", "partial"] (sp_contains_in K)) (h_is_row_in : Has P w K mg base CX0 3 "is_row_in" ["size", "value"] (sp_is_row_in K)) : Has P w K mg base CX0 4 "is_row_for" ["rule", "row", "pattern", "at"] (sp_is_row_for K) := by
  obtain ⟨f, fd, F, hm, hb⟩ := T.d_is_row_for
  refine fn_facts F sc_is_row_for hm hb (fun _ => by first | rfl | (split <;> rfl)) fun cdv A outer s H E hr hgd => ?_
  have S := sc_is_row_for
  refine ⟨(tSeq (tIfS (tOr (tNot (tB (tCall (sp_is_row_in K) [] E0 (tCons (tOp (rIx K) (tVar 0) (tC (.int 0))) (tCons (tVar 1) tNil))))) (tTest (tOp (rNotInT K) (tVar 1) (tOp (rIx K) (tVar 0) (tC (.int 1)))))) (tRet (tC (.bl false))) tNext) (tRet (tCall (sp_contains_in K) [] E0 (tCons (tVar 1) (tCons (tOp (rCatA K) (tSl (rSlA K) (tVar 2) tNoPart (tPart (tVar 3))) (tSl (rSlA K) (tVar 2) (tPart (tOp (rI0 fun i j => .int (i + j)) (tVar 3) (tC (.int 1)))) tNoPart)) tNil))))), (pss_cons (ps_if (PW.pt (pw_or (pt_not (pt_val (pc (E := E0) (h_is_row_in.mono (by decide)) hr hgd (by rfl) pass0 (pa_cons (pe_ix ix_seq (pv 0) pe_int (fun _ _ => rfl)) (pa_cons (pv 1) pa_nil))))) (pw_or1 (pt_cmpR (op_notInT (un65 hr)) (pv 1) (pe_ix ix_seq (pv 0) pe_int (fun _ _ => rfl)) (by rfl))))) (pss_one (ps_ret pe_bl)) pss_nil) (pss_one (ps_ret (pc (E := E0) (h_contains_in.mono (by decide)) hr hgd (by rfl) pass0 (pa_cons (pv 1) (pa_cons (pe_op op_catA (pe_slice sl_tupA (pv 2) po_none (po_some (pv 3))) (pe_slice sl_tupA (pv 2) (po_some (pe_op op_add (pv 3) pe_int)) po_none)) pa_nil)))))), ?_⟩
  rintro ⟨⟨n, rows⟩, r, p, i⟩ ⟨h0, h1, h2⟩
  dsimp only at h0 h1 h2
  repeat walk_at "dl"
  refine c_mk (n, r) ⟨h1, h0⟩ fun A e => ?_
  subst e
  refine is_x (br_f ?_)
  repeat walk_at "dl"
  refine is_x ⟨fun h3 => ?_, fun h3 => ?_⟩ <;> dsimp only at h3
  · have h3 : memB r rows = false := by simpa using h3
    repeat walk_at "dl"
    show Is K false = Is K _
    dsimp only
    rw [h3]
    rfl
  · have h3 : memB r rows = true := by simpa using h3
    repeat walk_at "dl"
    refine w_drop1 (by rfl) (by rfl) h2.2.2.2 ?_
    repeat walk_at "dl"
    refine c_mk (r, drop1 p i) ⟨fun l hl => by show l.1 < r.length; rw [h1.1]; exact h2.2.2.1 l (drop1_mem hl), (fit_drop h2).2.2.2⟩ fun A e => ?_
    rw [e]
    show Is K _ = Is K _
    dsimp only
    rw [h3, Bool.true_and]
end
end K89
/-! K89h: the program's defs, further. -/
namespace K89
open PySem PySem.Spec PyProof.Rows L2 DL
section
variable {P : Program} {w : World} {K : PySem.W.Frag} {mg : PySem.Str → Option Value} {base : Heap}
local macro_rules | `(tactic| walk_at "dl") => `(tactic| first
  | with_reducible refine ss_ret ?_ | with_reducible refine ss_seq ?_ | with_reducible refine ss_if ?_ | with_reducible refine ss_next ?_ | with_reducible refine ss_retN ?_
  | refine w_var (by rfl) ?_ | with_reducible refine w_lit ?_ | with_reducible refine w_bl ?_ | with_reducible refine w_non ?_ | with_reducible refine w_str ?_ | with_reducible refine w_val ?_
  | with_reducible refine w_op ?_ | with_reducible refine w_cb ?_ | with_reducible refine w_call ?_ | with_reducible refine wa_cons ?_ | with_reducible refine wa_nil ?_
  | with_reducible refine wt_test ?_ | with_reducible refine wt_B ?_ | with_reducible refine wt_not ?_ | with_reducible refine wt_yes ?_ | with_reducible refine wt_and ?_ | with_reducible refine wt_or ?_
  | with_reducible refine w_andV ?_ | with_reducible refine w_orV ?_ | with_reducible refine w_notV ?_ | with_reducible refine w_if ?_ | with_reducible refine w_chain ?_
  | with_reducible refine wo_none ?_ | with_reducible refine wo_some ?_
  | with_reducible refine r_eq ?_ | with_reducible refine r_ne ?_ | with_reducible refine r_lt ?_ | with_reducible refine r_add ?_ | with_reducible refine r_and ?_ | with_reducible refine r_shr ?_ | with_reducible refine r_ltn ?_ | with_reducible refine r_gtn ?_ | with_reducible refine r_len ?_
  | with_reducible refine r_inT ?_ | with_reducible refine r_notInT ?_ | with_reducible refine r_inL ?_
  | with_reducible refine c_lenT ?_ | with_reducible refine c_lenP ?_ | with_reducible refine r_fst ?_ | with_reducible refine r_snd ?_ | with_reducible refine g_name ?_ | with_reducible refine g_pair ?_ | with_reducible refine gs_name ?_ | with_reducible refine gs_nil ?_)
/-- the masks with their bits -/
def pairsM (n : Nat) : List (Nat × Nat) := (List.range (1 <<< n)).flatMap fun m => (numsM m).map fun b => (m, b)
/-- what patterns_in gives -/
def patternsM (r : Rule) : List Part := sortM (((pairsM r.1).filter fun p => leastM (heldS r) r.1 p.1 p.2).map fun p => partM r.1 p.1 p.2)
/-- that patterns_in may sort -/
def SortOk (r : Rule) : Prop := ∀ p ∈ (pairsM r.1).filter fun p => leastM (heldS r) r.1 p.1 p.2, partM r.1 p.1 p.2 ≠ []
theorem numsM_len (m : Nat) : (numsM m).length ≤ m + 1 := Nat.succ_le_succ (numsW_len m m)
theorem fm_le {α β : Type} {f : α → List β} {c : Nat} : ∀ {xs : List α}, (∀ x ∈ xs, (f x).length ≤ c) → (xs.flatMap f).length ≤ xs.length * c
  | [], _ => Nat.zero_le _
  | x :: xs, h => by
    rw [List.flatMap_cons, List.length_append, List.length_cons, Nat.succ_mul, Nat.add_comm]
    exact Nat.add_le_add (fm_le fun y hy => h y (List.mem_cons_of_mem _ hy)) (h x List.mem_cons_self)
theorem pairsM_len {n : Nat} (h : n ≤ 7) : (pairsM n).length ≤ 16384 := by
  have e2 : 1 <<< n = 2 ^ n := by rw [Nat.shiftLeft_eq, Nat.one_mul]
  have l2 : 2 ^ n ≤ 128 := Nat.pow_le_pow_right (by decide) h
  refine Nat.le_trans (fm_le (c := 128) fun m hm => ?_) ?_
  · rw [List.length_map]
    have := List.mem_range.mp hm
    have := numsM_len m
    omega
  · rw [List.length_range, e2]
    omega
theorem numsW_lt (m : Nat) : ∀ b c, c ∈ numsW m b → c < b := by
  intro b
  induction b using Nat.strongRecOn with
  | ind b ih =>
    intro c hc
    unfold numsW at hc
    split at hc
    · rename_i h
      have h2 := and_sub_lt (m := m) h
      rcases List.mem_cons.mp hc with e | hc
      · rw [e]; exact h2
      · exact Nat.lt_trans (ih _ h2 c hc) h2
    · cases hc
def sp_patterns_in (K : PySem.W.Frag) : Sp := mkSp (fun r : Rule => [Is K r]) (fun r => r.1 ≤ 7 ∧ r.2.length ≤ 3000 ∧ (∀ x ∈ r.2, OkRow r.1 x) ∧ SortOk r) fun r A => A = Is K (patternsM r)
theorem d_patterns_in (T : TF K mg) (h_held_codes : Has P w K mg base CX0 2 "held_codes" ["rule"] (sp_held_codes K)) (h_is_least : Has P w K mg base CX0 1 "is_least" ["held", "size", "mask", "bits"] (sp_is_least K)) (h_numbers_within : Has P w K mg base CX0 1 "numbers_within" ["mask"] (sp_numbers_within K)) (h_partial_of : Has P w K mg base CX0 1 "partial_of" ["size", "mask", "bits"] (sp_partial_of K)) : Has P w K mg base CX0 3 "patterns_in" ["rule"] (sp_patterns_in K) := by
  obtain ⟨f, fd, F, hm, hb⟩ := T.d_patterns_in
  refine fn_facts F sc_patterns_in hm hb (fun _ => by first | rfl | (split <;> rfl)) fun cdv A outer s H E hr hgd => ?_
  have S := sc_patterns_in
  refine ⟨(tSeq (tAsg (tTup (tCons (tCall (sp_held_codes K) [] E0 (tCons (tVar 0) tNil)) (tCons (tOp (rIx K) (tVar 0) (tC (.int 0))) tNil))) (gTup K 2 (gCons (gName 1) (gCons (gName 2) gNil)))) (tSeq (tAsg (tLc2 (iRng1 (tCons (tOp (rI CPow fun i j => .int (i * 2 ^ j.toNat)) (tC (.int 1)) (tVar 2)) tNil)) (gName 4) tYes (iList K (tCall (sp_numbers_within K) [] E0 (tCons (tVar 4) tNil))) (gName 5) tYes (tTup (tCons (tVar 4) (tCons (tVar 5) tNil))) [4, 5] [5]) (gName 3)) (tRet (tCB (rTupA K) (tCons (tCB (rSortD K) (tCons (tLc (iList K (tVar 3)) (gTup K 2 (gCons (gName 4) (gCons (gName 5) gNil))) (tB (tCall (sp_is_least K) [] E0 (tCons (tVar 1) (tCons (tVar 2) (tCons (tVar 4) (tCons (tVar 5) tNil)))))) (tCall (sp_partial_of K) [] E0 (tCons (tVar 2) (tCons (tVar 4) (tCons (tVar 5) tNil)))) [4, 5]) tNil)) tNil))))), (pss_cons (ps_asg (pe_tup (pa_cons (pc (E := E0) (h_held_codes.mono (by decide)) hr hgd (by rfl) pass0 (pa_cons (pv 0) pa_nil)) (pa_cons (pe_ix ix_seq (pv 0) pe_int (fun _ _ => rfl)) pa_nil))) (pg_tup (by rfl) (pgs_cons (pg_name (i := 1) S.nd rfl (by first | exact Or.inl rfl | exact Or.inr rfl)) (pgs_cons (pg_name (i := 2) S.nd rfl (by first | exact Or.inl rfl | exact Or.inr rfl)) pgs_nil)))) (pss_cons (ps_setLc2 (i := 3) (own := [("mask", 4), ("bits", 5)]) (vs1 := [5]) (g := (gName 4)) (tt := tYes) (wi1 := (iList K (tCall (sp_numbers_within K) [] E0 (tCons (tVar 4) tNil)))) (g1 := (gName 5)) (tt1 := tYes) (te := (tTup (tCons (tVar 4) (tCons (tVar 5) tNil)))) (by rfl) S.nd rfl rfl (sw_true rfl rfl rfl (by rfl)) (pi_range1 (by rfl) T.n_range (pa_cons (pe_op op_shl pe_int (pv 2)) pa_nil)) (blkOk_by (by rfl)) (by decide) (fun _ _ _ _ _ => (pg_name (i := 4) S.nd rfl (by first | exact Or.inl rfl | exact Or.inr rfl))) (fun _ _ _ _ _ => pts_nil) (fun _ _ _ _ _ => (pi_list (pc (E := E0) (h_numbers_within.mono (by decide)) hr hgd (by rfl) pass0 (pa_cons (pv 4) pa_nil)))) (fun _ _ _ _ _ => (pg_name (i := 5) S.nd rfl (by first | exact Or.inl rfl | exact Or.inr rfl))) (fun _ _ _ _ _ => pts_nil) (fun _ _ _ _ _ => (pe_tup (pa_cons (pv 4) (pa_cons (pv 5) pa_nil))))) (pss_one (ps_ret (pe_callTy call_tuple_of (by rfl) T.n_tuple bt_tuple (pa_cons (pe_callB (cr_sortD hr.units) (by rfl) T.n_sorted bt_sorted (pa_cons (pe_lc (own := [("mask", 4), ("bits", 5)]) (g := (gTup K 2 (gCons (gName 4) (gCons (gName 5) gNil)))) (tt := (tB (tCall (sp_is_least K) [] E0 (tCons (tVar 1) (tCons (tVar 2) (tCons (tVar 4) (tCons (tVar 5) tNil))))))) (te := (tCall (sp_partial_of K) [] E0 (tCons (tVar 2) (tCons (tVar 4) (tCons (tVar 5) tNil))))) (by rfl) S.nd (pi_list (pv 3)) (blkOk_by (by rfl)) (fun _ _ _ _ _ => (pg_tup (by rfl) (pgs_cons (pg_name (i := 4) S.nd rfl (by first | exact Or.inl rfl | exact Or.inr rfl)) (pgs_cons (pg_name (i := 5) S.nd rfl (by first | exact Or.inl rfl | exact Or.inr rfl)) pgs_nil)))) (fun _ _ _ _ _ => pts_one (pt_val (pc (E := E0) (h_is_least.mono (by decide)) hr hgd (by rfl) pass0 (pa_cons (pv 1) (pa_cons (pv 2) (pa_cons (pv 4) (pa_cons (pv 5) pa_nil))))))) (fun _ _ _ _ _ => (pc (E := E0) (h_partial_of.mono (by decide)) hr hgd (by rfl) pass0 (pa_cons (pv 2) (pa_cons (pv 4) (pa_cons (pv 5) pa_nil)))))) pa_nil)) pa_nil)))))), ?_⟩
  rintro ⟨n, rows⟩ ⟨h7, hz, hr', hs⟩
  dsimp only at h7 hz hr'
  have e2 : 1 <<< n = 2 ^ n := by rw [Nat.shiftLeft_eq, Nat.one_mul]
  have l2 : 2 ^ n ≤ 128 := Nat.pow_le_pow_right (by decide) h7
  repeat walk_at "dl"
  refine ss_asg (js := [1, 2]) (w_tupF ?_)
  repeat walk_at "dl"
  refine c_mk (n, rows) ⟨h7, hz, hr'⟩ fun A e => ?_
  subst e
  repeat walk_at "dl"
  refine ⟨by show 2 ≤ 1000; decide, g_tupF rfl ?_⟩
  repeat walk_at "dl"
  refine ss_set (w_new (wn_lc2 (F1 := fun b : Nat => Is K b) (js := [4]) (js1 := [5]) (fun (m b : Nat) => (m, b)) numsM (by decide) (by decide) (wx_range ?_)))
  repeat walk_at "dl"
  refine r_shl (by omega) (by decide) ?_
  repeat walk_at "dl"
  refine ⟨_, 1 <<< n, rfl, Le.refl _, by rw [e2]; exact Nat.le_trans l2 (by decide), Nat.le_trans (pairsM_len h7) (by decide), fun m hm => ?_, ?_⟩
  · have hm' := List.mem_range.mp hm
    repeat walk_at "dl"
    refine ⟨noOwn_of (by rfl), wx_list (α := Nat) ?_⟩
    repeat walk_at "dl"
    refine c_mk m (by show m ≤ 10000; omega) fun A e => ?_
    subst e
    refine ⟨numsM m, le_L _, ?_, rfl, fun b hb => ?_⟩
    · have := numsM_len m
      exact Nat.le_trans (show (numsM m).length ≤ 129 from by omega) (by decide)
    · repeat walk_at "dl"
      refine w_tup2 (α := Nat) (β := Nat) ?_
      repeat walk_at "dl"
      exact ⟨m, b, ⟨_, _, rfl, Le.refl _, Le.refl _⟩, Le.refl _⟩
  repeat walk_at "dl"
  refine w_new (wn_comp (fun p : Nat × Nat => leastM (heldS (n, rows)) n p.1 p.2) (fun p => partM n p.1 p.2) (js := [4, 5]) (by decide) (wx_list ?_))
  repeat walk_at "dl"
  refine ⟨pairsM n, le_L _, Nat.le_trans (pairsM_len h7) (by decide), fun p hp => ?_, ?_⟩
  · repeat walk_at "dl"
    refine c_mk (heldS (n, rows), n, p.1, p.2) (by show n ≤ 100; omega) fun A e => ?_
    subst e
    refine is_x ⟨rfl, fun _ => ?_⟩
    repeat walk_at "dl"
    exact c_mk (n, p.1, p.2) (by show n ≤ 1000; omega) fun A e => Le.of_eq e
  repeat walk_at "dl"
  refine c_new (cn_sort (α := Part) (le_L _) (.inl (.inl ?_)) ?_)
  · intro d hd
    obtain ⟨p, hp, rfl⟩ := List.mem_map.mp hd
    obtain ⟨q, hq, rfl⟩ := List.mem_map.mp hp
    have hne := hs q hq
    dsimp only at hne
    cases e : partM n q.1 q.2 with
    | nil => exact absurd e hne
    | cons x l => exact ⟨Enc.enc x, l.map Enc.enc, rfl⟩
  repeat walk_at "dl"
  exact c_tup le_l rfl
def rowsWithout (n : Nat) (ps : List Part) : List Row := (rowsOf n).filter fun r => !(ps.any fun p => contains r p)
def FitPs (n : Nat) (ps : List Part) : Prop := n ≤ 7 ∧ (∀ p ∈ ps, OkPart n p) ∧ ps.length ≤ 10000
def sp_rows_without (K : PySem.W.Frag) : Sp := mkSp (fun t : Nat × List Part => [Is K t.1, Is K t.2]) (fun t => FitPs t.1 t.2) fun t A => A = Is K (rowsWithout t.1 t.2)
theorem le128 {n : Nat} (h : n ≤ 7) : (rowsOf n).length ≤ sizeLine := Nat.le_trans (rows_len h) (by decide)
theorem d_rows_without (T : TF K mg) (h_contains_in : Has P w K mg base CX0 1 "contains_in" ["row", "partial"] (sp_contains_in K)) (h_rows_of_size : Has P w K mg base CX0 1 "rows_of_size" ["size"] (sp_rows_of_size K)) : Has P w K mg base CX0 2 "rows_without" ["size", "partials"] (sp_rows_without K) := by
  obtain ⟨f, fd, F, hm, hb⟩ := T.d_rows_without
  refine fn_facts F sc_rows_without hm hb (fun _ => by first | rfl | (split <;> rfl)) fun cdv A outer s H E hr hgd => ?_
  have S := sc_rows_without
  refine ⟨(tRet (tCB (rTupA K) (tCons (tLc (iList K (tCall (sp_rows_of_size K) [] E0 (tCons (tVar 0) tNil))) (gName 2) (tNot (tB (tCB (rAny K) (tCons (tLc (iTup K (tVar 1)) (gName 3) tYes (tCall (sp_contains_in K) [] E0 (tCons (tVar 2) (tCons (tVar 3) tNil))) [3]) tNil)))) (tVar 2) [2]) tNil))), (pss_one (ps_ret (pe_callTy call_tuple_of (by rfl) T.n_tuple bt_tuple (pa_cons (pe_lc (own := [("row", 2)]) (g := (gName 2)) (tt := (tNot (tB (tCB (rAny K) (tCons (tLc (iTup K (tVar 1)) (gName 3) tYes (tCall (sp_contains_in K) [] E0 (tCons (tVar 2) (tCons (tVar 3) tNil))) [3]) tNil))))) (te := (tVar 2)) (by rfl) S.nd (pi_list (pc (E := E0) (h_rows_of_size.mono (by decide)) hr hgd (by rfl) pass0 (pa_cons (pv 0) pa_nil))) (blkOk_by (by rfl)) (fun _ _ _ _ _ => (pg_name (i := 2) S.nd rfl (by first | exact Or.inl rfl | exact Or.inr rfl))) (fun _ _ _ _ _ => pts_one (pt_not (pt_val (pe_callB (cr_any (by rfl)) (by rfl) T.n_any bt_any (pa_cons (pe_lc (own := [("partial", 3)]) (g := (gName 3)) (tt := tYes) (te := (tCall (sp_contains_in K) [] E0 (tCons (tVar 2) (tCons (tVar 3) tNil)))) (by rfl) S.nd (pi_tup (pv 1)) (blkOk_by (by rfl)) (fun _ _ _ _ _ => (pg_name (i := 3) S.nd rfl (by first | exact Or.inl rfl | exact Or.inr rfl))) (fun _ _ _ _ _ => pts_nil) (fun _ _ _ _ _ => (pc (E := E0) (h_contains_in.mono (by decide)) hr hgd (by rfl) pass0 (pa_cons (pv 2) (pa_cons (pv 3) pa_nil))))) pa_nil))))) (fun _ _ _ _ _ => (pv 2))) pa_nil)))), ?_⟩
  rintro ⟨n, ps⟩ ⟨h7, h1, h2⟩
  dsimp only at h7 h1 h2
  repeat walk_at "dl"
  refine w_new (wn_comp (fun r : Row => !(ps.any fun p => contains r p)) (fun r => r) (js := [2]) (by decide) (wx_list ?_))
  repeat walk_at "dl"
  refine c_mk n h7 fun A e => ?_
  subst e
  refine ⟨rowsOf n, le_L _, le128 h7, fun r hr => ?_, ?_⟩
  · repeat walk_at "dl"
    refine w_anyT (fun p : Part => contains r p) (js := [3]) (by decide) (wx_tup ?_)
    repeat walk_at "dl"
    refine ⟨ps, Le.refl _, Nat.le_trans h2 (by decide), fun p hp => ?_, ?_⟩
    · repeat walk_at "dl"
      exact c_mk (r, p) ⟨fun l hl => by show l.1 < r.length; rw [(rowsOf_len1 hr).1]; exact ((h1 p hp).1 l hl).1, (h1 p hp).2.2⟩ fun A e => Le.of_eq e
    · refine is_x ⟨rfl, fun _ => ?_⟩
      repeat walk_at "dl"
      exact Le.refl _
  · repeat walk_at "dl"
    exact c_tup le_l (by rw [List.map_id']; rfl)
def sp_require_partials (K : PySem.W.Frag) : Sp := mkSp (fun t : Nat × List Part => [Is K t.1, Is K t.2]) (fun t => FitPs t.1 t.2) fun _ A => A = Is K ()
theorem d_require_partials (T : TF K mg) (h_require_partial : Has P w K mg base CX0 5 "require_partial" ["size", "partial"] (sp_require_partial K)) : Has P w K mg base CX0 6 "require_partials" ["size", "partials"] (sp_require_partials K) := by
  obtain ⟨f, fd, F, hm, hb⟩ := T.d_require_partials
  refine fn_facts F sc_require_partials hm hb (fun _ => by first | rfl | (split <;> rfl)) fun cdv A outer s H E hr hgd => ?_
  have S := sc_require_partials
  refine ⟨(tSeq (tIfS (tNot (tB (tCB (rIsi K) (tCons (tVar 1) (tCons (tC (.ty "tuple")) tNil))))) tNever tNext) (tFor (iTup K (tVar 1)) (gName 2) (tDrop (tCall (sp_require_partial K) [] E0 (tCons (tVar 0) (tCons (tVar 2) tNil)))))), (pss_cons (ps_if (pt_not (pt_val (pe_callB call_isi (by rfl) T.n_isinstance bt_isinstance (pa_cons (pv 1) (pa_cons (pe_bltn (v := .ty "tuple") (by rfl) T.n_tuple bt_tuple rfl) pa_nil))))) (pss_one ps_never) pss_nil) (pss_one (ps_for PassesOwn.never (by rfl) (pi_tup (pv 1)) (pg_name (i := 2) S.nd rfl (by first | exact Or.inl rfl | exact Or.inr rfl)) (pss_one (ps_expr (pc (E := E0) (h_require_partial.mono (by decide)) hr hgd (by rfl) pass0 (pa_cons (pv 0) (pa_cons (pv 2) pa_nil)))))))), ?_⟩
  rintro ⟨n, ps⟩ ⟨h7, h1, h2⟩
  dsimp only at h7 h1 h2
  repeat walk_at "dl"
  refine c_isiT (b := true) (by decide +kernel) (is_x (br_f ?_))
  repeat walk_at "dl"
  refine ss_forT (js := [2]) (wx_tup (α := Part) ?_)
  repeat walk_at "dl"
  refine ⟨ps, Le.refl _, Nat.le_trans h2 (by decide), fun pre ρ' => ∃ S2, ρ' = [.fact (Is K n), .fact (Is K ps), S2], ⟨.no, rfl⟩, fun pre p ρ' hp _ ⟨S2, e⟩ => ?_, fun ρ' _ => rfl⟩
  subst e
  repeat walk_at "dl"
  refine ss_drop ?_
  repeat walk_at "dl"
  exact c_mk (n, p) (h1 p hp) fun A e => ⟨_, rfl⟩
def sp_patterns (K : PySem.W.Frag) : Sp := mkSp (fun r : Rule => [Is K r]) (fun r => OkRule r ∧ SortOk r) fun r A => A = Is K (patternsM r)
theorem d_patterns (T : TF K mg) (h_patterns_in : Has P w K mg base CX0 3 "patterns_in" ["rule"] (sp_patterns_in K)) (h_require_rule : Has P w K mg base CX0 5 "require_rule" ["rule"] (sp_require_rule K)) : Has P w K mg base CX0 6 "patterns" ["rule"] (sp_patterns K) := by
  obtain ⟨f, fd, F, hm, hb⟩ := T.d_patterns
  refine fn_facts F sc_patterns hm hb (fun _ => by first | rfl | (split <;> rfl)) fun cdv A outer s H E hr hgd => ?_
  have S := sc_patterns
  refine ⟨(tSeq (tDrop (tCall (sp_require_rule K) [] E0 (tCons (tVar 0) tNil))) (tRet (tCall (sp_patterns_in K) [] E0 (tCons (tVar 0) tNil)))), (pss_cons (ps_expr (pc (E := E0) (h_require_rule.mono (by decide)) hr hgd (by rfl) pass0 (pa_cons (pv 0) pa_nil))) (pss_one (ps_ret (pc (E := E0) (h_patterns_in.mono (by decide)) hr hgd (by rfl) pass0 (pa_cons (pv 0) pa_nil))))), ?_⟩
  rintro r ⟨h1, h2⟩
  repeat walk_at "dl"
  refine ss_drop ?_
  repeat walk_at "dl"
  refine c_mk r h1 fun A e => ?_
  repeat walk_at "dl"
  exact c_mk r ⟨h1.1.2.1, h1.1.2.2.2.1, h1.1.2.2.1, h2⟩ fun A e => e
theorem okRule_fit {r : Rule} {p : Part} (h : OkRule r) (hp : OkPart r.1 p) : Fit r.1 r.2 p := ⟨fun x hx => (h.1.2.2.1 x hx).1, h.1.2.2.2.1, fun l hl => (hp.1 l hl).1, hp.2.2⟩
def sp_is_pattern (K : PySem.W.Frag) : Sp := mkSp (fun t : Rule × Part => [Is K t.1, Is K t.2]) (fun t => OkRule t.1 ∧ OkPart t.1.1 t.2) fun t A => A = Is K (isPat t.1.2 t.2)
theorem d_is_pattern (T : TF K mg) (h_is_pattern_in : Has P w K mg base CX0 5 "is_pattern_in" ["rule", "value"] (sp_is_pattern_in K)) (h_require_rule : Has P w K mg base CX0 5 "require_rule" ["rule"] (sp_require_rule K)) : Has P w K mg base CX0 6 "is_pattern" ["rule", "value"] (sp_is_pattern K) := by
  obtain ⟨f, fd, F, hm, hb⟩ := T.d_is_pattern
  refine fn_facts F sc_is_pattern hm hb (fun _ => by first | rfl | (split <;> rfl)) fun cdv A outer s H E hr hgd => ?_
  have S := sc_is_pattern
  refine ⟨(tSeq (tDrop (tCall (sp_require_rule K) [] E0 (tCons (tVar 0) tNil))) (tRet (tCall (sp_is_pattern_in K) [] E0 (tCons (tVar 0) (tCons (tVar 1) tNil))))), (pss_cons (ps_expr (pc (E := E0) (h_require_rule.mono (by decide)) hr hgd (by rfl) pass0 (pa_cons (pv 0) pa_nil))) (pss_one (ps_ret (pc (E := E0) (h_is_pattern_in.mono (by decide)) hr hgd (by rfl) pass0 (pa_cons (pv 0) (pa_cons (pv 1) pa_nil)))))), ?_⟩
  rintro ⟨r, p⟩ ⟨h1, h2⟩
  dsimp only at h1 h2
  repeat walk_at "dl"
  refine ss_drop ?_
  repeat walk_at "dl"
  refine c_mk r h1 fun A e => ?_
  repeat walk_at "dl"
  exact c_mk (r, p) ⟨okRule_fit h1 h2, h2⟩ fun A e => e
def sp_gives (K : PySem.W.Frag) : Sp := mkSp (fun t : Rule × List Part => [Is K t.1, Is K t.2]) (fun t => OkRule t.1 ∧ FitPs t.1.1 t.2) fun t A => A = Is K (decide (rowsWithout t.1.1 t.2 = t.1.2))
theorem d_gives (T : TF K mg) (h_require_partials : Has P w K mg base CX0 6 "require_partials" ["size", "partials"] (sp_require_partials K)) (h_require_rule : Has P w K mg base CX0 5 "require_rule" ["rule"] (sp_require_rule K)) (h_rows_without : Has P w K mg base CX0 2 "rows_without" ["size", "partials"] (sp_rows_without K)) : Has P w K mg base CX0 7 "gives" ["rule", "partials"] (sp_gives K) := by
  obtain ⟨f, fd, F, hm, hb⟩ := T.d_gives
  refine fn_facts F sc_gives hm hb (fun _ => by first | rfl | (split <;> rfl)) fun cdv A outer s H E hr hgd => ?_
  have S := sc_gives
  refine ⟨(tSeq (tDrop (tCall (sp_require_rule K) [] E0 (tCons (tVar 0) tNil))) (tSeq (tDrop (tCall (sp_require_partials K) [] E0 (tCons (tOp (rIx K) (tVar 0) (tC (.int 0))) (tCons (tVar 1) tNil)))) (tRet (tOp (rEqD K) (tCall (sp_rows_without K) [] E0 (tCons (tOp (rIx K) (tVar 0) (tC (.int 0))) (tCons (tVar 1) tNil))) (tOp (rIx K) (tVar 0) (tC (.int 1))))))), (pss_cons (ps_expr (pc (E := E0) (h_require_rule.mono (by decide)) hr hgd (by rfl) pass0 (pa_cons (pv 0) pa_nil))) (pss_cons (ps_expr (pc (E := E0) (h_require_partials.mono (by decide)) hr hgd (by rfl) pass0 (pa_cons (pe_ix ix_seq (pv 0) pe_int (fun _ _ => rfl)) (pa_cons (pv 1) pa_nil)))) (pss_one (ps_ret (pe_cmpR (op_eqD hr.units) (pc (E := E0) (h_rows_without.mono (by decide)) hr hgd (by rfl) pass0 (pa_cons (pe_ix ix_seq (pv 0) pe_int (fun _ _ => rfl)) (pa_cons (pv 1) pa_nil))) (pe_ix ix_seq (pv 0) pe_int (fun _ _ => rfl)) (nomark _)))))), ?_⟩
  rintro ⟨r, ps⟩ ⟨h1, h2⟩
  dsimp only at h1 h2
  repeat walk_at "dl"
  refine ss_drop ?_
  repeat walk_at "dl"
  refine c_mk r h1 fun A e => ?_
  repeat walk_at "dl"
  refine ss_drop ?_
  repeat walk_at "dl"
  refine c_mk (r.1, ps) h2 fun A e => ?_
  repeat walk_at "dl"
  refine c_mk (r.1, ps) h2 fun A e => ?_
  subst e
  repeat walk_at "dl"
  rfl
end
end K89
/-! K89i: the program's defs, further. -/
namespace K89
open PySem PySem.Spec PyProof.Rows L2 DL
section
variable {P : Program} {w : World} {K : PySem.W.Frag} {mg : PySem.Str → Option Value} {base : Heap}
local macro_rules | `(tactic| walk_at "dl") => `(tactic| first
  | with_reducible refine ss_ret ?_ | with_reducible refine ss_seq ?_ | with_reducible refine ss_if ?_ | with_reducible refine ss_next ?_ | with_reducible refine ss_retN ?_
  | refine w_var (by rfl) ?_ | with_reducible refine w_lit ?_ | with_reducible refine w_bl ?_ | with_reducible refine w_non ?_ | with_reducible refine w_str ?_ | with_reducible refine w_val ?_
  | with_reducible refine w_op ?_ | with_reducible refine w_cb ?_ | with_reducible refine w_call ?_ | with_reducible refine wa_cons ?_ | with_reducible refine wa_nil ?_
  | with_reducible refine wt_test ?_ | with_reducible refine wt_B ?_ | with_reducible refine wt_not ?_ | with_reducible refine wt_yes ?_ | with_reducible refine wt_and ?_ | with_reducible refine wt_or ?_
  | with_reducible refine w_andV ?_ | with_reducible refine w_orV ?_ | with_reducible refine w_notV ?_ | with_reducible refine w_if ?_ | with_reducible refine w_chain ?_
  | with_reducible refine wo_none ?_ | with_reducible refine wo_some ?_
  | with_reducible refine r_eq ?_ | with_reducible refine r_ne ?_ | with_reducible refine r_lt ?_ | with_reducible refine r_add ?_ | with_reducible refine r_and ?_ | with_reducible refine r_shr ?_ | with_reducible refine r_ltn ?_ | with_reducible refine r_gtn ?_ | with_reducible refine r_len ?_
  | with_reducible refine r_inT ?_ | with_reducible refine r_notInT ?_ | with_reducible refine r_inL ?_
  | with_reducible refine c_lenT ?_ | with_reducible refine c_lenP ?_ | with_reducible refine r_fst ?_ | with_reducible refine r_snd ?_ | with_reducible refine g_name ?_ | with_reducible refine g_pair ?_ | with_reducible refine gs_name ?_ | with_reducible refine gs_nil ?_)
/-- the rows that would be told for a pattern -/
def rowsFor (rows : List Row) (p : Part) : List Row := (List.range p.length).map fun i => (rows.filter fun x => contains x (drop1 p i)).headD []
def sp_pattern_rows (K : PySem.W.Frag) : Sp := mkSp (fun t : Rule × Part => [Is K t.1, Is K t.2]) (fun t => OkRule t.1 ∧ OkPart t.1.1 t.2 ∧ isPat t.1.2 t.2 = true) fun t A => A = Is K (rowsFor t.1.2 t.2)
theorem isPat_held {rows : List Row} {p : Part} (h : isPat rows p = true) {i : Nat} (hi : i < p.length) : ∃ x xs, (rows.filter fun x => contains x (drop1 p i)) = x :: xs := by
  unfold isPat at h
  rw [Bool.and_eq_true] at h
  have h2 : held rows (drop1 p i) = true := List.all_eq_true.mp h.2 i (List.mem_range.mpr hi)
  unfold held at h2
  obtain ⟨x, hx, hc⟩ := List.any_eq_true.mp h2
  cases e : rows.filter fun x => contains x (drop1 p i) with
  | nil =>
    have := List.mem_filter (p := fun x => contains x (drop1 p i)).mpr ⟨hx, hc⟩
    rw [e] at this
    cases this
  | cons y ys => exact ⟨y, ys, rfl⟩
theorem d_pattern_rows (T : TF K mg) (h_contains_in : Has P w K mg base CX0 1 "contains_in" ["row", "partial"] (sp_contains_in K)) (h_is_pattern_in : Has P w K mg base CX0 5 "is_pattern_in" ["rule", "value"] (sp_is_pattern_in K)) (h_require_rule : Has P w K mg base CX0 5 "require_rule" ["rule"] (sp_require_rule K)) : Has P w K mg base CX0 6 "pattern_rows" ["rule", "pattern"] (sp_pattern_rows K) := by
  obtain ⟨f, fd, F, hm, hb⟩ := T.d_pattern_rows
  refine fn_facts F sc_pattern_rows hm hb (fun _ => by first | rfl | (split <;> rfl)) fun cdv A outer s H E hr hgd => ?_
  have S := sc_pattern_rows
  refine ⟨(tSeq (tDrop (tCall (sp_require_rule K) [] E0 (tCons (tVar 0) tNil))) (tSeq (tIfS (tNot (tB (tCall (sp_is_pattern_in K) [] E0 (tCons (tVar 0) (tCons (tVar 1) tNil))))) tNever tNext) (tSeq (tAsg (tLst tNil) (gName 2)) (tSeq (tFor (iRng1 (tCons (tCB (rLenA K) (tCons (tVar 1) tNil)) tNil)) (gName 3) (tSeq (tAsg (tOp (rCatA K) (tSl (rSlA K) (tVar 1) tNoPart (tPart (tVar 3))) (tSl (rSlA K) (tVar 1) (tPart (tOp (rI0 fun i j => .int (i + j)) (tVar 3) (tC (.int 1)))) tNoPart)) (gName 4)) (tDrop (tBM K "list" rAppend (tVar 2) (tCons (tOp (rIx K) (tLc (iTup K (tOp (rIx K) (tVar 0) (tC (.int 1)))) (gName 5) (tB (tCall (sp_contains_in K) [] E0 (tCons (tVar 5) (tCons (tVar 4) tNil)))) (tVar 5) [5]) (tC (.int 0))) tNil))))) (tRet (tCB (rTupA K) (tCons (tVar 2) tNil))))))), (pss_cons (ps_expr (pc (E := E0) (h_require_rule.mono (by decide)) hr hgd (by rfl) pass0 (pa_cons (pv 0) pa_nil))) (pss_cons (ps_if (pt_not (pt_val (pc (E := E0) (h_is_pattern_in.mono (by decide)) hr hgd (by rfl) pass0 (pa_cons (pv 0) (pa_cons (pv 1) pa_nil))))) (pss_one ps_never) pss_nil) (pss_cons (ps_set (i := 2) S.nd rfl (by first | exact Or.inl rfl | exact Or.inr rfl) (pe_lst pa_nil)) (pss_cons (ps_for PassesOwn.never (by rfl) (pi_range1 (by rfl) T.n_range (pa_cons (pe_callB call_len_seq (by rfl) T.n_len bt_len (pa_cons (pv 1) pa_nil)) pa_nil)) (pg_name (i := 3) S.nd rfl (by first | exact Or.inl rfl | exact Or.inr rfl)) (pss_cons (ps_set (i := 4) S.nd rfl (by first | exact Or.inl rfl | exact Or.inr rfl) (pe_op op_catA (pe_slice sl_tupA (pv 1) po_none (po_some (pv 3))) (pe_slice sl_tupA (pv 1) (po_some (pe_op op_add (pv 3) pe_int)) po_none))) (pss_one (ps_expr (pe_bm PySem.F.plainAttrs_list PySem.F.slot_list_append PySem.F.type_list_append mt_append (pv 2) (pa_cons (pe_ix ix_seq (pe_lc (own := [("row", 5)]) (g := (gName 5)) (tt := (tB (tCall (sp_contains_in K) [] E0 (tCons (tVar 5) (tCons (tVar 4) tNil))))) (te := (tVar 5)) (by rfl) S.nd (pi_tup (pe_ix ix_seq (pv 0) pe_int (fun _ _ => rfl))) (blkOk_by (by rfl)) (fun _ _ _ _ _ => (pg_name (i := 5) S.nd rfl (by first | exact Or.inl rfl | exact Or.inr rfl))) (fun _ _ _ _ _ => pts_one (pt_val (pc (E := E0) (h_contains_in.mono (by decide)) hr hgd (by rfl) pass0 (pa_cons (pv 5) (pa_cons (pv 4) pa_nil))))) (fun _ _ _ _ _ => (pv 5))) pe_int (fun _ _ => rfl)) pa_nil)))))) (pss_one (ps_ret (pe_callTy call_tuple_of (by rfl) T.n_tuple bt_tuple (pa_cons (pv 2) pa_nil)))))))), ?_⟩
  rintro ⟨⟨n, rows⟩, p⟩ ⟨h1, h2, h3⟩
  dsimp only at h2 h3
  repeat walk_at "dl"
  refine ss_drop ?_
  repeat walk_at "dl"
  refine c_mk (n, rows) h1 fun A e => ?_
  repeat walk_at "dl"
  refine c_mk ((n, rows), p) ⟨okRule_fit h1 h2, h2⟩ fun A e => ?_
  subst e
  refine is_t h3 (br_f ?_)
  repeat walk_at "dl"
  refine ss_own (wn_lst (wa_nil ⟨[], trivial, Nat.zero_le _, ?_⟩))
  repeat walk_at "dl"
  refine ss_forT (js := [3]) (wx_range ?_)
  repeat walk_at "dl"
  refine ⟨_, p.length, rfl, Le.refl _, Nat.le_trans h2.2.2 (by decide), fun pre ρ' => ∃ S3 S4, ρ' = [.fact (Is K (n, rows)), .fact (Is K p), .own ((pre.map fun i => (rows.filter fun x => contains x (drop1 p i)).headD []).map Enc.enc), S3, S4, .no], ⟨.no, .no, rfl⟩, fun pre i ρ' hi hp ⟨S3, S4, e⟩ => ?_, fun ρ' ⟨S3, S4, e⟩ => ?_⟩
  · subst e
    have hi' := List.mem_range.mp hi
    have hpl : pre.length + 1 ≤ p.length := by
      have := hp.length_le
      rw [List.length_append, List.length_range] at this
      exact this
    have hfit := okRule_fit h1 h2
    repeat walk_at "dl"
    refine ss_set ?_
    repeat walk_at "dl"
    refine w_drop1 (by rfl) (by rfl) h2.2.2 ?_
    refine ss_append (ds := (pre.map fun i => (rows.filter fun x => contains x (drop1 p i)).headD []).map Enc.enc) rfl (by rw [List.length_map, List.length_map]; have := h2.2.2; omega) ?_
    repeat walk_at "dl"
    refine w_new (wn_comp (fun x : Row => contains x (drop1 p i)) (fun x => x) (js := [5]) (by decide) (wx_tup (α := Row) ?_))
    repeat walk_at "dl"
    refine ⟨rows, Le.refl _, Nat.le_trans h1.1.2.2.2.1 (by decide), fun x hx => ?_, ?_⟩
    · repeat walk_at "dl"
      refine c_mk (x, drop1 p i) ⟨fun l hl => by show l.1 < x.length; rw [hfit.1 x hx]; exact hfit.2.2.1 l (drop1_mem hl), (fit_drop hfit).2.2.2⟩ fun A e => ?_
      subst e
      refine is_x ⟨rfl, fun _ => ?_⟩
      repeat walk_at "dl"
      exact Le.refl _
    repeat walk_at "dl"
    obtain ⟨x, xs, ex⟩ := isPat_held h3 hi'
    refine r_ixL (i := 0) (x := x) (le_L _) (by rw [List.map_id', ex]; rfl) ⟨Enc.enc x, Le.refl _, .fact (Is K i), .fact (Is K (drop1 p i)), ?_⟩
    have e9 : ((pre ++ [i]).map fun i => (rows.filter fun x => contains x (drop1 p i)).headD []).map Enc.enc = ((pre.map fun i => (rows.filter fun x => contains x (drop1 p i)).headD []).map Enc.enc) ++ [Enc.enc x] := by
      rw [List.map_append, List.map_append]
      show _ ++ [Enc.enc ((rows.filter fun x => contains x (drop1 p i)).headD [])] = _
      rw [ex]
      rfl
    rw [e9]
    rfl
  · subst e
    refine ss_freeze (i := 2) rfl ?_
    repeat walk_at "dl"
    exact c_tup le_l rfl
def paperM (r : Rule) (p : Part) (xs : List Row) : Bool := !held r.2 p && decide (xs.length = p.length) && (enumM xs).all fun q => memB q.2 r.2 && contains q.2 (drop1 p q.1)
def sp_is_pattern_paper (K : PySem.W.Frag) : Sp := mkSp (fun t : Rule × Part × List Row => [Is K t.1, Is K t.2]) (fun t => OkRule t.1 ∧ OkPart t.1.1 t.2.1 ∧ (∀ x ∈ t.2.2, OkRow t.1.1 x) ∧ t.2.2.length ≤ 1000) fun t A => A = Is K (paperM t.1 t.2.1 t.2.2)
theorem d_is_pattern_paper (T : TF K mg) (h_is_held : Has P w K mg base CX0 2 "is_held" ["rule", "partial"] (sp_is_held K)) (h_is_partial_in : Has P w K mg base CX0 4 "is_partial_in" ["size", "value"] (sp_is_partial_in K)) (h_is_row_for : Has P w K mg base CX0 4 "is_row_for" ["rule", "row", "pattern", "at"] (sp_is_row_for K)) (h_require_rule : Has P w K mg base CX0 5 "require_rule" ["rule"] (sp_require_rule K)) : Has P w K mg base CX0 6 "is_pattern_paper" ["rule", "value"] (sp_is_pattern_paper K) := by
  obtain ⟨f, fd, F, hm, hb⟩ := T.d_is_pattern_paper
  refine fn_facts F sc_is_pattern_paper hm hb (fun _ => by first | rfl | (split <;> rfl)) fun cdv A outer s H E hr hgd => ?_
  have S := sc_is_pattern_paper
  refine ⟨(tSeq (tDrop (tCall (sp_require_rule K) [] E0 (tCons (tVar 0) tNil))) (tSeq (tIfS (tOr (tNot (tB (tCB (rIsi K) (tCons (tVar 1) (tCons (tC (.ty "tuple")) tNil))))) (tTest (tOp (rNeD K) (tCB (rLenA K) (tCons (tVar 1) tNil)) (tC (.int 2))))) (tRet (tC (.bl false))) tNext) (tSeq (tAsg (tVar 1) (gTup K 2 (gCons (gName 2) (gCons (gName 3) gNil)))) (tSeq (tIfS (tOr (tNot (tB (tCall (sp_is_partial_in K) [] E0 (tCons (tOp (rIx K) (tVar 0) (tC (.int 0))) (tCons (tVar 2) tNil))))) (tB (tCall (sp_is_held K) [] E0 (tCons (tVar 0) (tCons (tVar 2) tNil))))) (tRet (tC (.bl false))) tNext) (tSeq (tIfS (tOr (tNot (tB (tCB (rIsi K) (tCons (tVar 3) (tCons (tC (.ty "tuple")) tNil))))) (tTest (tOp (rNeD K) (tCB (rLenA K) (tCons (tVar 3) tNil)) (tCB (rLenA K) (tCons (tVar 2) tNil))))) (tRet (tC (.bl false))) tNext) (tRet (tCB (rAll K) (tCons (tLc (iEnumT K (tCons (tVar 3) tNil)) (gTup K 2 (gCons (gName 4) (gCons (gName 5) gNil))) tYes (tCall (sp_is_row_for K) [] E0 (tCons (tVar 0) (tCons (tVar 5) (tCons (tVar 2) (tCons (tVar 4) tNil))))) [4, 5]) tNil)))))))), (pss_cons (ps_expr (pc (E := E0) (h_require_rule.mono (by decide)) hr hgd (by rfl) pass0 (pa_cons (pv 0) pa_nil))) (pss_cons (ps_if (PW.pt (pw_or (pt_not (pt_val (pe_callB call_isi (by rfl) T.n_isinstance bt_isinstance (pa_cons (pv 1) (pa_cons (pe_bltn (v := .ty "tuple") (by rfl) T.n_tuple bt_tuple rfl) pa_nil))))) (pw_or1 (pt_cmpR (op_neD hr.units) (pe_callB call_len_seq (by rfl) T.n_len bt_len (pa_cons (pv 1) pa_nil)) pe_int (nomark _))))) (pss_one (ps_ret pe_bl)) pss_nil) (pss_cons (ps_asg (pv 1) (pg_tup (by rfl) (pgs_cons (pg_name (i := 2) S.nd rfl (by first | exact Or.inl rfl | exact Or.inr rfl)) (pgs_cons (pg_name (i := 3) S.nd rfl (by first | exact Or.inl rfl | exact Or.inr rfl)) pgs_nil)))) (pss_cons (ps_if (PW.pt (pw_or (pt_not (pt_val (pc (E := E0) (h_is_partial_in.mono (by decide)) hr hgd (by rfl) pass0 (pa_cons (pe_ix ix_seq (pv 0) pe_int (fun _ _ => rfl)) (pa_cons (pv 2) pa_nil))))) (pw_or1 (pt_val (pc (E := E0) (h_is_held.mono (by decide)) hr hgd (by rfl) pass0 (pa_cons (pv 0) (pa_cons (pv 2) pa_nil))))))) (pss_one (ps_ret pe_bl)) pss_nil) (pss_cons (ps_if (PW.pt (pw_or (pt_not (pt_val (pe_callB call_isi (by rfl) T.n_isinstance bt_isinstance (pa_cons (pv 3) (pa_cons (pe_bltn (v := .ty "tuple") (by rfl) T.n_tuple bt_tuple rfl) pa_nil))))) (pw_or1 (pt_cmpR (op_neD hr.units) (pe_callB call_len_seq (by rfl) T.n_len bt_len (pa_cons (pv 3) pa_nil)) (pe_callB call_len_seq (by rfl) T.n_len bt_len (pa_cons (pv 2) pa_nil)) (nomark _))))) (pss_one (ps_ret pe_bl)) pss_nil) (pss_one (ps_ret (pe_callB (cr_all (by rfl)) (by rfl) T.n_all bt_all (pa_cons (pe_lc (own := [("at", 4), ("row", 5)]) (g := (gTup K 2 (gCons (gName 4) (gCons (gName 5) gNil)))) (tt := tYes) (te := (tCall (sp_is_row_for K) [] E0 (tCons (tVar 0) (tCons (tVar 5) (tCons (tVar 2) (tCons (tVar 4) tNil)))))) (by rfl) S.nd (pi_enumT (by rfl) T.n_enumerate (pa_cons (pv 3) pa_nil)) (blkOk_by (by rfl)) (fun _ _ _ _ _ => (pg_tup (by rfl) (pgs_cons (pg_name (i := 4) S.nd rfl (by first | exact Or.inl rfl | exact Or.inr rfl)) (pgs_cons (pg_name (i := 5) S.nd rfl (by first | exact Or.inl rfl | exact Or.inr rfl)) pgs_nil)))) (fun _ _ _ _ _ => pts_nil) (fun _ _ _ _ _ => (pc (E := E0) (h_is_row_for.mono (by decide)) hr hgd (by rfl) pass0 (pa_cons (pv 0) (pa_cons (pv 5) (pa_cons (pv 2) (pa_cons (pv 4) pa_nil))))))) pa_nil))))))))), ?_⟩
  rintro ⟨r, p, xs⟩ ⟨h1, h2, h3, h4⟩
  dsimp only at h1 h2 h3 h4
  have hn := h1.1.2.1
  repeat walk_at "dl"
  refine ss_drop ?_
  repeat walk_at "dl"
  refine c_mk r h1 fun A e => ?_
  repeat walk_at "dl"
  refine c_isiP (b := true) (by decide +kernel) (is_x (br_f ?_))
  repeat walk_at "dl"
  refine is_f (by decide) (br_f ?_)
  repeat walk_at "dl"
  refine ss_pair (α := Part) (β := List Row) (js := [2, 3]) ?_
  repeat walk_at "dl"
  refine is_x ?_
  repeat walk_at "dl"
  refine c_mk (r.1, p) h2 fun A e => ?_
  subst e
  refine is_x (br_f ?_)
  repeat walk_at "dl"
  refine c_mk (r, p) (okRule_fit h1 h2) fun A e => ?_
  subst e
  refine is_x ⟨fun h0 => ?_, fun h0 => ?_⟩ <;> dsimp only at h0
  · repeat walk_at "dl"
    show Is K false = Is K (paperM r p xs)
    unfold paperM
    rw [h0]
    rfl
  repeat walk_at "dl"
  refine c_isiT (b := true) (by decide +kernel) (is_x (br_f ?_))
  repeat walk_at "dl"
  refine is_x ⟨fun h5 => ?_, fun h5 => ?_⟩ <;> dsimp only at h5
  · repeat walk_at "dl"
    show Is K false = Is K (paperM r p xs)
    unfold paperM
    rw [decide_eq_false (of_decide_eq_true h5), Bool.and_false]
    rfl
  have h5 : xs.length = p.length := Decidable.not_not.mp (of_decide_eq_false h5)
  repeat walk_at "dl"
  refine w_allT (fun q : Nat × Row => memB q.2 r.2 && contains q.2 (drop1 p q.1)) (js := [4, 5]) (by decide) (wx_enumT (α := Row) ?_)
  repeat walk_at "dl"
  refine ⟨xs, rfl, Nat.le_trans h4 (by decide), fun q hq => ?_, ?_⟩
  · obtain ⟨q1, q2⟩ := enumM_mem hq
    repeat walk_at "dl"
    exact c_mk (r, q.2, p, q.1) ⟨by show r.1 ≤ 1000; omega, h3 _ q2, okRule_fit h1 h2⟩ fun A e => Le.of_eq e
  · show Is K _ = Is K (paperM r p xs)
    unfold paperM
    rw [h0, decide_eq_true h5]
    rfl
end
end K89
/-! K89j: the program's defs, further. -/
namespace K89
open PySem PySem.Spec PyProof.Rows L2 DL
section
variable {P : Program} {w : World} {K : PySem.W.Frag} {mg : PySem.Str → Option Value} {base : Heap}
local macro_rules | `(tactic| walk_at "dl") => `(tactic| first
  | with_reducible refine ss_ret ?_ | with_reducible refine ss_seq ?_ | with_reducible refine ss_if ?_ | with_reducible refine ss_next ?_ | with_reducible refine ss_retN ?_
  | refine w_var (by rfl) ?_ | with_reducible refine w_lit ?_ | with_reducible refine w_bl ?_ | with_reducible refine w_non ?_ | with_reducible refine w_str ?_ | with_reducible refine w_val ?_
  | with_reducible refine w_op ?_ | with_reducible refine w_cb ?_ | with_reducible refine w_call ?_ | with_reducible refine wa_cons ?_ | with_reducible refine wa_nil ?_
  | with_reducible refine wt_test ?_ | with_reducible refine wt_B ?_ | with_reducible refine wt_not ?_ | with_reducible refine wt_yes ?_ | with_reducible refine wt_and ?_ | with_reducible refine wt_or ?_
  | with_reducible refine w_andV ?_ | with_reducible refine w_orV ?_ | with_reducible refine w_notV ?_ | with_reducible refine w_if ?_ | with_reducible refine w_chain ?_
  | with_reducible refine wo_none ?_ | with_reducible refine wo_some ?_
  | with_reducible refine r_eq ?_ | with_reducible refine r_ne ?_ | with_reducible refine r_lt ?_ | with_reducible refine r_add ?_ | with_reducible refine r_and ?_ | with_reducible refine r_shr ?_ | with_reducible refine r_ltn ?_ | with_reducible refine r_gtn ?_ | with_reducible refine r_len ?_
  | with_reducible refine r_inT ?_ | with_reducible refine r_notInT ?_ | with_reducible refine r_inL ?_
  | with_reducible refine c_lenT ?_ | with_reducible refine c_lenP ?_ | with_reducible refine r_fst ?_ | with_reducible refine r_snd ?_ | with_reducible refine g_name ?_ | with_reducible refine g_pair ?_ | with_reducible refine gs_name ?_ | with_reducible refine gs_nil ?_)
def sp__law_rows (K : PySem.W.Frag) : Sp := mkSp (fun n : Nat => [Is K n]) (fun n => n ≤ 7) fun n A => A = IsL K (rowsOf n)
theorem d__law_rows (T : TF K mg) : Has P w K mg base CX0 1 "_law_rows" ["size"] (sp__law_rows K) := by
  obtain ⟨f, fd, F, hm, hb⟩ := T.d__law_rows
  refine fn_facts F sc__law_rows hm hb (fun _ => by first | rfl | (split <;> rfl)) fun cdv A outer s H E hr hgd => ?_
  have S := sc__law_rows
  refine ⟨(tSeq (tAsg (tLst (tCons (tTup tNil) tNil)) (gName 1)) (tSeq (tFor (iRng1 (tCons (tVar 0) tNil)) (gName 2) (tSeq (tAsg (tLst tNil) (gName 3)) (tSeq (tFor (iList K (tVar 1)) (gName 4) (tDrop (tBM K "list" rExtend (tVar 3) (tCons (tLst (tCons (tOp (rCatA K) (tVar 4) (tTup (tCons (tC (.int 0)) tNil))) (tCons (tOp (rCatA K) (tVar 4) (tTup (tCons (tC (.int 1)) tNil))) tNil))) tNil)))) (tAsg (tVar 3) (gName 1))))) (tRet (tVar 1)))), (pss_cons (ps_set (i := 1) S.nd rfl (by first | exact Or.inl rfl | exact Or.inr rfl) (pe_lst (pa_cons (pe_tup pa_nil) pa_nil))) (pss_cons (ps_for PassesOwn.never (by rfl) (pi_range1 (by rfl) T.n_range (pa_cons (pv 0) pa_nil)) (pg_name (i := 2) S.nd rfl (by first | exact Or.inl rfl | exact Or.inr rfl)) (pss_cons (ps_set (i := 3) S.nd rfl (by first | exact Or.inl rfl | exact Or.inr rfl) (pe_lst pa_nil)) (pss_cons (ps_for PassesOwn.never (by rfl) (pi_list (pv 1)) (pg_name (i := 4) S.nd rfl (by first | exact Or.inl rfl | exact Or.inr rfl)) (pss_one (ps_expr (pe_bm PySem.F.plainAttrs_list PySem.F.slot_list_extend PySem.F.type_list_extend mt_extend (pv 3) (pa_cons (pe_lst (pa_cons (pe_op op_catA (pv 4) (pe_tup (pa_cons pe_int pa_nil))) (pa_cons (pe_op op_catA (pv 4) (pe_tup (pa_cons pe_int pa_nil))) pa_nil))) pa_nil))))) (pss_one (ps_set (i := 1) S.nd rfl (by first | exact Or.inl rfl | exact Or.inr rfl) (pv 3)))))) (pss_one (ps_ret (pv 1))))), ?_⟩
  rintro n h7
  have h7 : n ≤ 7 := h7
  repeat walk_at "dl"
  refine ss_set (w_new (wn_lstL (α := Row) ?_))
  repeat walk_at "dl"
  refine w_tup0 (α := Nat) ?_
  repeat walk_at "dl"
  refine ⟨[[]], ⟨Le.refl _, trivial⟩, by decide, ?_⟩
  repeat walk_at "dl"
  refine ss_forT (js := [2]) (wx_range ?_)
  repeat walk_at "dl"
  refine ⟨_, n, rfl, Le.refl _, Nat.le_trans h7 (by decide), fun pre ρ' => ∃ S2 S3 S4, ρ' = [.fact (Is K n), .fact (IsL K (rowsOf pre.length)), S2, S3, S4], ⟨.no, .no, .no, rfl⟩, fun pre x ρ' hx hp ⟨S2, S3, S4, e⟩ => ?_, fun ρ' ⟨S2, S3, S4, e⟩ => ?_⟩
  · subst e
    have hpl : pre.length + 1 ≤ n := by
      have := hp.length_le
      rw [List.length_append, List.length_range] at this
      exact this
    have hzl : (rowsOf pre.length).length ≤ 128 := rows_len (by omega)
    repeat walk_at "dl"
    refine ss_own (wn_lst (wa_nil ⟨[], trivial, Nat.zero_le _, ?_⟩))
    repeat walk_at "dl"
    refine ss_forT (js := [4]) (wx_list (α := Row) ?_)
    repeat walk_at "dl"
    refine ⟨rowsOf pre.length, le_L _, Nat.le_trans hzl (by decide), fun done ρ' => ∃ S4, ρ' = [.fact (Is K n), .fact (IsL K (rowsOf pre.length)), .fact (Is K x), .own ((done.flatMap fun r => [r ++ [0], r ++ [1]]).map Enc.enc), S4], ⟨S4, rfl⟩, fun done r ρ' hr hpr ⟨S5, e⟩ => ?_, fun ρ' ⟨S5, e⟩ => ?_⟩
    · subst e
      have hlr : r.length ≤ 7 := by rw [(rowsOf_len1 hr).1]; omega
      have hdl : (done.flatMap fun r : Row => [r ++ [0], r ++ [1]]).length ≤ done.length * 2 := fm_le fun _ _ => Nat.le_refl _
      have hdn : done.length ≤ 128 := Nat.le_trans (Nat.le_trans (Nat.le_add_right _ _) (by have := hpr.length_le; rw [List.length_append] at this; exact this)) hzl
      repeat walk_at "dl"
      refine ss_extend (ds := (done.flatMap fun r : Row => [r ++ [0], r ++ [1]]).map Enc.enc) rfl (wn_lstL (α := Row) ?_)
      repeat walk_at "dl"
      refine w_tupL (α := Nat) ?_
      repeat walk_at "dl"
      refine ⟨[0], ⟨Le.refl _, trivial⟩, by decide, ?_⟩
      refine r_catA (Nat.le_trans (show r.length + 1 ≤ 8 from by omega) (by decide)) ?_
      repeat walk_at "dl"
      refine w_tupL (α := Nat) ?_
      repeat walk_at "dl"
      refine ⟨[1], ⟨Le.refl _, trivial⟩, by decide, ?_⟩
      refine r_catA (Nat.le_trans (show r.length + 1 ≤ 8 from by omega) (by decide)) ?_
      repeat walk_at "dl"
      refine ⟨[r ++ [0], r ++ [1]], ⟨Le.refl _, Le.refl _, trivial⟩, by show 2 ≤ 1000; decide, ?_, .fact (Is K r), ?_⟩
      · rw [List.length_map]
        show _ + 2 ≤ _
        omega
      · rw [List.flatMap_append, List.map_append]
        rfl
    · subst e
      refine ss_freeze (i := 3) rfl ?_
      refine ss_set ?_
      repeat walk_at "dl"
      refine ⟨.fact (Is K x), .fact (IsL K (rowsOf (pre.length + 1))), S5, ?_⟩
      rw [List.length_append]
      rfl
  · subst e
    repeat walk_at "dl"
    rw [List.length_range]
/-- all partial rows of a size -/
def partsOf : Nat → List Part
  | 0 => [[]]
  | n + 1 => (partsOf n).flatMap fun p => [p, p ++ [(n, 0)], p ++ [(n, 1)]]
theorem parts_len : ∀ n, (partsOf n).length = 3 ^ n
  | 0 => rfl
  | n + 1 => by
    show ((partsOf n).flatMap fun p => [p, p ++ [(n, 0)], p ++ [(n, 1)]]).length = _
    rw [List.length_flatMap]
    have : ((partsOf n).map fun p : Part => [p, p ++ [(n, 0)], p ++ [(n, 1)]].length) = (partsOf n).map fun _ => 3 := rfl
    rw [this, List.map_const', List.sum_replicate_nat, parts_len n, Nat.pow_succ]
theorem parts_le {n : Nat} (h : n ≤ 7) : (partsOf n).length ≤ 2187 := by
  rw [parts_len]
  exact Nat.pow_le_pow_right (by decide) h
theorem parts_plen : ∀ {n : Nat} {p : Part}, p ∈ partsOf n → p.length ≤ n
  | 0, p, h => by rw [List.mem_singleton.mp h]; exact Nat.le_refl _
  | n + 1, p, h => by
    obtain ⟨q, hq, h2⟩ := List.mem_flatMap.mp h
    have h3 := parts_plen hq
    have h5 : p = q ∨ p = q ++ [(n, 0)] ∨ p = q ++ [(n, 1)] := by simpa using h2
    rcases h5 with e | e | e <;> subst e <;> simp <;> omega
theorem parts_head : ∀ n, ∃ l, partsOf n = [] :: l
  | 0 => ⟨[], rfl⟩
  | n + 1 => by
    obtain ⟨l, h⟩ := parts_head n
    show ∃ l', ((partsOf n).flatMap fun p => [p, p ++ [(n, 0)], p ++ [(n, 1)]]) = [] :: l'
    rw [h, List.flatMap_cons]
    exact ⟨_, rfl⟩
def sp__law_partials (K : PySem.W.Frag) : Sp := mkSp (fun n : Nat => [Is K n]) (fun n => n ≤ 7) fun n A => A = IsL K (sortM (partsOf n))
theorem d__law_partials (T : TF K mg) : Has P w K mg base CX0 1 "_law_partials" ["size"] (sp__law_partials K) := by
  obtain ⟨f, fd, F, hm, hb⟩ := T.d__law_partials
  refine fn_facts F sc__law_partials hm hb (fun _ => by first | rfl | (split <;> rfl)) fun cdv A outer s H E hr hgd => ?_
  have S := sc__law_partials
  refine ⟨(tSeq (tAsg (tLst (tCons (tTup tNil) tNil)) (gName 1)) (tSeq (tFor (iRng1 (tCons (tVar 0) tNil)) (gName 2) (tSeq (tAsg (tLst tNil) (gName 3)) (tSeq (tFor (iList K (tVar 1)) (gName 4) (tDrop (tBM K "list" rExtend (tVar 3) (tCons (tLst (tCons (tVar 4) (tCons (tOp (rCatA K) (tVar 4) (tTup (tCons (tTup (tCons (tVar 2) (tCons (tC (.int 0)) tNil))) tNil))) (tCons (tOp (rCatA K) (tVar 4) (tTup (tCons (tTup (tCons (tVar 2) (tCons (tC (.int 1)) tNil))) tNil))) tNil)))) tNil)))) (tAsg (tVar 3) (gName 1))))) (tRet (tCB (rSortD K) (tCons (tVar 1) tNil))))), (pss_cons (ps_set (i := 1) S.nd rfl (by first | exact Or.inl rfl | exact Or.inr rfl) (pe_lst (pa_cons (pe_tup pa_nil) pa_nil))) (pss_cons (ps_for PassesOwn.never (by rfl) (pi_range1 (by rfl) T.n_range (pa_cons (pv 0) pa_nil)) (pg_name (i := 2) S.nd rfl (by first | exact Or.inl rfl | exact Or.inr rfl)) (pss_cons (ps_set (i := 3) S.nd rfl (by first | exact Or.inl rfl | exact Or.inr rfl) (pe_lst pa_nil)) (pss_cons (ps_for PassesOwn.never (by rfl) (pi_list (pv 1)) (pg_name (i := 4) S.nd rfl (by first | exact Or.inl rfl | exact Or.inr rfl)) (pss_one (ps_expr (pe_bm PySem.F.plainAttrs_list PySem.F.slot_list_extend PySem.F.type_list_extend mt_extend (pv 3) (pa_cons (pe_lst (pa_cons (pv 4) (pa_cons (pe_op op_catA (pv 4) (pe_tup (pa_cons (pe_tup (pa_cons (pv 2) (pa_cons pe_int pa_nil))) pa_nil))) (pa_cons (pe_op op_catA (pv 4) (pe_tup (pa_cons (pe_tup (pa_cons (pv 2) (pa_cons pe_int pa_nil))) pa_nil))) pa_nil)))) pa_nil))))) (pss_one (ps_set (i := 1) S.nd rfl (by first | exact Or.inl rfl | exact Or.inr rfl) (pv 3)))))) (pss_one (ps_ret (pe_callB (cr_sortD hr.units) (by rfl) T.n_sorted bt_sorted (pa_cons (pv 1) pa_nil)))))), ?_⟩
  rintro n h7
  have h7 : n ≤ 7 := h7
  repeat walk_at "dl"
  refine ss_set (w_new (wn_lstL (α := Part) ?_))
  repeat walk_at "dl"
  refine w_tup0 (α := Lit) ?_
  repeat walk_at "dl"
  refine ⟨[[]], ⟨Le.refl _, trivial⟩, by decide, ?_⟩
  repeat walk_at "dl"
  refine ss_forT (js := [2]) (wx_range ?_)
  repeat walk_at "dl"
  refine ⟨_, n, rfl, Le.refl _, Nat.le_trans h7 (by decide), fun pre ρ' => pre = List.range pre.length ∧ ∃ S2 S3 S4, ρ' = [.fact (Is K n), .fact (IsL K (partsOf pre.length)), S2, S3, S4], ⟨rfl, .no, .no, .no, rfl⟩, fun pre x ρ' hx hp ⟨er, S2, S3, S4, e⟩ => ?_, fun ρ' ⟨_, S2, S3, S4, e⟩ => ?_⟩
  · subst e
    have hpl : pre.length + 1 ≤ n := by
      have := hp.length_le
      rw [List.length_append, List.length_range] at this
      exact this
    have ex : x = pre.length := by
      have h1 := List.IsPrefix.getElem hp (i := pre.length) (by rw [List.length_append]; exact Nat.lt_succ_self _)
      rw [List.getElem_range, List.getElem_append_right (Nat.le_refl _)] at h1
      simpa using h1
    have hzl : (partsOf pre.length).length ≤ 2187 := parts_le (by omega)
    repeat walk_at "dl"
    refine ss_own (wn_lst (wa_nil ⟨[], trivial, Nat.zero_le _, ?_⟩))
    repeat walk_at "dl"
    refine ss_forT (js := [4]) (wx_list (α := Part) ?_)
    repeat walk_at "dl"
    refine ⟨partsOf pre.length, le_L _, Nat.le_trans hzl (by decide), fun done ρ' => ∃ S4, ρ' = [.fact (Is K n), .fact (IsL K (partsOf pre.length)), .fact (Is K x), .own ((done.flatMap fun p => [p, p ++ [(x, 0)], p ++ [(x, 1)]]).map Enc.enc), S4], ⟨S4, rfl⟩, fun done p ρ' hpm hpr ⟨S5, e⟩ => ?_, fun ρ' ⟨S5, e⟩ => ?_⟩
    · subst e
      have hlr : p.length ≤ 7 := by have := parts_plen hpm; omega
      have hdl : (done.flatMap fun p : Part => [p, p ++ [(x, 0)], p ++ [(x, 1)]]).length ≤ done.length * 3 := fm_le fun _ _ => Nat.le_refl _
      have hdn : done.length ≤ 2187 := Nat.le_trans (Nat.le_trans (Nat.le_add_right _ _) (by have := hpr.length_le; rw [List.length_append] at this; exact this)) hzl
      repeat walk_at "dl"
      refine ss_extend (ds := (done.flatMap fun p : Part => [p, p ++ [(x, 0)], p ++ [(x, 1)]]).map Enc.enc) rfl (wn_lstL (α := Part) ?_)
      repeat walk_at "dl"
      refine w_tup1 (α := Lit) ?_
      repeat walk_at "dl"
      refine w_tup2 (α := Nat) (β := Nat) ?_
      repeat walk_at "dl"
      refine ⟨x, 0, ⟨_, _, rfl, Le.refl _, Le.refl _⟩, ?_⟩
      repeat walk_at "dl"
      refine ⟨(x, 0), ⟨_, rfl, Le.refl _⟩, ?_⟩
      refine r_catA (Nat.le_trans (show p.length + 1 ≤ 8 from by omega) (by decide)) ?_
      repeat walk_at "dl"
      refine w_tup1 (α := Lit) ?_
      repeat walk_at "dl"
      refine w_tup2 (α := Nat) (β := Nat) ?_
      repeat walk_at "dl"
      refine ⟨x, 1, ⟨_, _, rfl, Le.refl _, Le.refl _⟩, ?_⟩
      repeat walk_at "dl"
      refine ⟨(x, 1), ⟨_, rfl, Le.refl _⟩, ?_⟩
      refine r_catA (Nat.le_trans (show p.length + 1 ≤ 8 from by omega) (by decide)) ?_
      repeat walk_at "dl"
      refine ⟨[p, p ++ [(x, 0)], p ++ [(x, 1)]], ⟨Le.refl _, Le.refl _, Le.refl _, trivial⟩, by show 3 ≤ 1000; decide, ?_, .fact (Is K p), ?_⟩
      · rw [List.length_map]
        show _ + 3 ≤ _
        omega
      · rw [List.flatMap_append, List.map_append]
        rfl
    · subst e
      refine ss_freeze (i := 3) rfl ?_
      refine ss_set ?_
      repeat walk_at "dl"
      refine ⟨?_, .fact (Is K x), .fact (IsL K (partsOf (pre.length + 1))), S5, ?_⟩
      · rw [List.length_append, List.length_singleton, List.range_succ, ← er, ex]
      · rw [List.length_append]
        subst ex
        rfl
  · subst e
    rw [List.length_range]
    repeat walk_at "dl"
    obtain ⟨l, hl⟩ := parts_head n
    refine c_new (cn_sort (α := Part) (le_L _) (.inr ⟨fun d hd => ?_, ?_⟩) rfl)
    · obtain ⟨p, _, rfl⟩ := List.mem_map.mp hd
      exact ⟨_, rfl⟩
    · rw [hl]
      exact ⟨_, rfl⟩
end
end K89
/-! DLp: set(l), l a list of ints; sorted of it (turned from the worked case of a tuple of ints). -/
namespace DL
open PySem PySem.Spec PyProof.Rows L2
abbrev setOb (led : Bool) : Obj := { cls := .type "set", dict := none, data := .set #[] 0 (.fresh 0 0 led) }
section
variable {P : Program} {w : World} {A : Around} {E : Value → Shared → Prop} {s : Shared}
theorem set_ofW {l : Addr} {items : Array Value} (ns : List Int) {fp : Addr → List Addr} {St : Addr → Nat → Heap → Prop} {Q : Value → Shared → Prop} (hW : ∀ I : Addr, l ≠ I → s.heap.objs.size < I → Walks P w A.in1.in1.in1 I (fp I) [I] items.size (fun i v => items[i]? = some v) (St I))
    (hfp : ∀ I : Addr, s.heap.objs.size < I → s.heap.objs.size ∉ fp I) (hst : ∀ (I : Addr) (h' : Heap), h'.IsListIter I l 0 → h'.IsList l items → (∀ b o, s.heap.get? b = some o → h'.get? b = some o) → St I 0 h') (hl : s.heap.IsList l items) (hit : IntsAre items.toList ns) (hb : ns.length + 1 < scanBound)
    (h : ∀ (h' : Heap) (tk c : Nat), SetR w h' s.heap.objs.size (fun j => decide (j ∈ ns)) c → c ≤ ns.length → (∀ b o, s.heap.get? b = some o → h'.get? b = some o) → Q (.ref s.heap.objs.size) { s with heap := h', toks := tk }) :
    wpAny (model P w) A (call (.type "set") [.ref l]) Q E s := by
  have hisz : items.size = ns.length := by
    rw [← IntsAre.length hit, Array.length_toList]
  have hlS : l < s.heap.objs.size := by obtain ⟨_, e, _⟩ := hl; exact Heap.lt_size e
  obtain ⟨c, tl, hmro⟩ := F.called_set.mro
  have hmade := F.called_set.made
  have hsub := F.called_set.sub
  refine wpAny_call (codeAny_of_tree ?_)
  show wpAny _ _ (callAny (.type "set") _) _ _ _
  refine wpAny_pure ⟨Code.quiet_builtin _ (by decide +kernel), codeAny_builtin F.entry_type_call ?_⟩
  rw [Around.under_plain (weight_type_call_type "set" [.ref l] []) rfl]
  have h1 := F.called_set.notType
  have h2 := F.called_set.canCreate
  have hct := F.typeCall_set_1 (.ref l)
  repeat (any_goals (first | assumption | wp_step))
  generalize hled : (!w.params.followText "set-order") = led
  refine codeAny_mono (code_set_led1 (.ref l) (E := E) (Q₁ := fun obj s₁ => obj = .ref s.heap.objs.size ∧ s₁ = { s with heap := s.heap.push (setOb led) }) (by rw [← hled]; exact ⟨rfl, rfl⟩)) fun r s₁ hr => ?_
  match r, hr with
  | .error e, hr => exact hr
  | .ok .next, hr => exact hr.elim
  | .ok .brk, hr => exact hr.elim
  | .ok .cont, hr => exact hr.elim
  | .ok (.ret obj), hr =>
    obtain ⟨rfl, rfl⟩ := hr
    have hS : (s.heap.push (setOb led)).get? s.heap.objs.size = some (setOb led) := Heap.get?_push_size _ rfl
    have hT : Shared.TypeIs { s with heap := s.heap.push (setOb led) } (.ref s.heap.objs.size) "set" := ⟨_, hS, rfl⟩
    have hli := F.called_set.init.lookup
    have hbi := F.called_set.init.bind (.ref s.heap.objs.size)
    repeat (any_goals (first | assumption | wp_step))
    refine codeAny_mono (codeAny_call_builtin (R := wants (fun r s₂ => r = .none ∧ ∃ h' tk c, s₂ = { s with heap := h', toks := tk } ∧ SetR w h' s.heap.objs.size (fun j => decide (j ∈ ns)) c ∧ c ≤ ns.length ∧
        (∀ b o, s.heap.get? b = some o → h'.get? b = some o)) E) F.called_set.init.plain F.entry_set_init (check_set_init_1 hT ?_)) fun r₂ s₂ hr₂ => ?_
    · obtain ⟨⟨c1, d1, dt, sl⟩, hol, hcl, nl, hdl⟩ := hl
      simp only at hcl hdl
      subst hcl
      subst hdl
      have hol' : (s.heap.push (setOb led)).get? l = some { cls := .type "list", dict := d1, data := .seq items nl, slots := sl } := Heap.get?_push_of_some _ hol
      have hsls := F.sub_list_set
      have hslf := F.sub_list_frozenset
      have hne : (Value.type "list" == Value.type "dict") = false := by decide
      have hl1 : (s.heap.push (setOb led)).IsList l items := ⟨_, hol', rfl, nl, rfl⟩
      unfold Builtin.«set.__init__» noKeywords Builtin.Frozenset.updateFrom
      generalize hPI : pyIter = PI
      wp_walk
      subst hPI
      refine wpAny_pyIter_list hl1 (wpAny_bind (wpAny_runValue ?_))
      have hsz : (s.heap.push (setOb led)).objs.size = s.heap.objs.size + 1 := Heap.size_push ..
      have hneI : l ≠ (s.heap.push (setOb led)).objs.size := by rw [hsz]; exact Nat.ne_of_lt (Nat.lt_succ_of_lt hlS)
      have hgt : s.heap.objs.size < (s.heap.push (setOb led)).objs.size := by rw [hsz]; exact Nat.lt_succ_self _
      have hval : ∀ (i : Nat) (v : Value), items[i]? = some v → ∃ k t, ns[i]? = some k ∧ v = .int k t := fun i v hv => by
        have hi : i < ns.length := by rw [← hisz]; exact (Array.getElem?_eq_some_iff.mp hv).1
        obtain ⟨t, e⟩ := PyProof.Rows.IntsAre.int_at hit i v (by rw [Array.getElem?_toList]; exact hv)
        refine ⟨ns[i], t, List.getElem?_eq_getElem hi, ?_⟩
        rw [e, List.getD_eq_getElem?_getD, List.getElem?_eq_getElem hi]
        rfl
      refine set_update_ints ((hW _ hneI hgt).toS) s.heap.objs.size (hfp _ hgt) ns hisz hb hval (items.size - 0) 0 _ (by omega) (Nat.zero_le _)
        (hst _ _ ⟨_, Heap.get?_push_size _ rfl, rfl, rfl⟩ (hl1.push _) fun b o e => Heap.get?_push_of_some _ (Heap.get?_push_of_some _ e)) ⟨0, Nat.le_refl 0, setR_new_at (by rw [hled]; exact Heap.get?_push_of_some _ hS)⟩ ?_
      intro s' c' hm hc' hS'
      obtain ⟨h', g2, d', tk', os'⟩ := s'
      obtain rfl : g2 = s.gens := hm.gens
      obtain rfl : d' = s.drawn := hm.drawn
      obtain rfl : os' = s.os := hm.os
      refine wpAny_pure ?_
      show wpAny _ _ (ret Value.none) _ _ _
      refine wpAny_pure ⟨rfl, h', tk', c', rfl, hS', by rw [hisz] at hc'; exact hc', fun b o e => ?_⟩
      have hb0 : b < s.heap.objs.size := Heap.lt_size e
      refine hm.heap b o ?_ (Heap.get?_push_of_some _ (Heap.get?_push_of_some _ e))
      simp only [List.mem_cons, List.not_mem_nil, or_false, not_or]
      exact ⟨Nat.ne_of_lt hb0, by rw [hsz]; exact Nat.ne_of_lt (Nat.lt_succ_of_lt hb0)⟩
    · match r₂, hr₂ with
      | .error e, hr₂ => exact hr₂
      | .ok .next, hr₂ => exact hr₂.elim
      | .ok .brk, hr₂ => exact hr₂.elim
      | .ok .cont, hr₂ => exact hr₂.elim
      | .ok (.ret r), hr₂ =>
        obtain ⟨rfl, h', tk, c', rfl, hS', hc', hk'⟩ := hr₂
        repeat (any_goals (first | assumption | wp_step))
        exact h _ _ _ hS' hc' hk'
theorem set_ofL {l : Addr} {items : Array Value} (ns : List Int) {Q : Value → Shared → Prop} (hh : A.handled = none) (hl : s.heap.IsList l items) (hit : IntsAre items.toList ns) (hb : ns.length + 1 < scanBound)
    (h : ∀ (h' : Heap) (tk c : Nat), SetR w h' s.heap.objs.size (fun j => decide (j ∈ ns)) c → c ≤ ns.length → (∀ b o, s.heap.get? b = some o → h'.get? b = some o) → Q (.ref s.heap.objs.size) { s with heap := h', toks := tk }) :
    wpAny (model P w) A (call (.type "set") [.ref l]) Q E s := by
  have hlS : l < s.heap.objs.size := by obtain ⟨_, e, _⟩ := hl; exact Heap.lt_size e
  refine set_ofW ns (fun I hI _ => Walks.list (show A.in1.in1.in1.handled = none from hh) I l hI items) (fun I hI hm => ?_) (fun I h' h1 h2 _ => ⟨h1, h2⟩) hl hit hb h
  have e' : s.heap.objs.size = I ∨ s.heap.objs.size = l := by simpa using hm
  rcases e' with z | z
  · rw [z] at hI; exact Nat.lt_irrefl _ hI
  · rw [← z] at hlS; exact Nat.lt_irrefl _ hlS
end
section
variable {X : Cx}
def rSetOfL (K : PySem.W.Frag) (w : World) : List V → Hp → VK → Prop := fun vs H Q => ∃ (l : Addr) (ns : List Int), vs = [V.ref l] ∧ SqL K H l (ns.map V.int) ∧ ns.length < 60 ∧ ∀ a c, H a = none → c ≤ ns.length → Q (.ref a) (upd H a (SetO w a (fun j => decide (j ∈ ns)) c))
theorem cr_setOfL (hc : X.calm = true) : CallR X (.type "set") (rSetOfL X.K X.w) := by
  intro pins s σ H xs us Q I r h
  obtain ⟨l, ns, rfl, hl, hz, q⟩ := h
  rw [Vals.ref1 r]
  obtain ⟨its, rv, pl, _⟩ := I.list hl
  refine set_ofL ns (I.ok.hd hc) pl.isList (rv.ints) (by show ns.length + 1 < 4096; omega) fun h' tk c hS hcl hk => ?_
  exact ⟨.ref _, upd H s.heap.objs.size (SetO X.w s.heap.objs.size (fun j => decide (j ∈ ns)) c), I.laid (t' := tk) hk (Nat.le_refl _) (setO_new hS), rfl, q _ c (I.hok.fresh (Nat.le_refl _)) hcl⟩
end
section
variable {K : PySem.W.Frag} {ρ : Rho} {𝒜 : Fact → Prop}
/-- a set of the numbers of ys, told by its test -/
def isSetD (w : World) (ys : List Nat) : Fact := ⟨fun v H => ∃ (p : Addr) (c : Nat), v = .ref p ∧ c ≤ ys.length ∧ H p = some (SetO w p (fun j => decide (j ∈ ys.map fun n : Nat => (n : Int))) c), fun e ⟨p, c, h1, h2, h3⟩ => ⟨p, c, h1, h2, e.k p _ h3 nT_ext⟩⟩
theorem c_setL {w : World} {ys : List Nat} {A : Fact} (l : Le A (Is K (PL.mk ys))) (hz : ys.length < 60) (k : 𝒜 (isSetD w ys)) : C (rSetOfL K w) [A] 𝒜 := fun vs Hf H Q s as q => by
  obtain ⟨v, rfl, a⟩ := all1 as
  obtain ⟨p, us, rfl, h1, h2⟩ := dp_lst (l _ _ a)
  have e := nats_of h2
  subst e
  refine ⟨p, ys.map fun n : Nat => (n : Int), rfl, same_l s h1, by rw [List.length_map]; exact hz, fun b c hb hc => ?_⟩
  rw [List.length_map] at hc
  have g := Grow.new (o := SetO w b (fun j => decide (j ∈ ys.map fun n : Nat => (n : Int))) c) s hb
  exact q _ _ _ (isSetD w ys) g ⟨b, c, rfl, hc, upd_same⟩ k
/-- sorted(set): the members, rising -/
theorem cn_sortSet {w : World} {ys : List Nat} {𝒟 : List PyData → Prop} (hz : ys.length < 60) (k : ∀ zs : List Nat, zs.Pairwise (· < ·) → (∀ m, m ∈ zs ↔ m ∈ ys) → 𝒟 (zs.map Enc.enc)) : CN K (rSortedSet w) [isSetD w ys] 𝒟 := fun vs Hf H Q s as q => by
  obtain ⟨v, rfl, p, c, rfl, hc, h1⟩ := all1 as
  refine ⟨p, _, c, rfl, s _ _ h1, by omega, fun ns b hp hm hl hb => ?_⟩
  have hpos : ∀ n ∈ ns, ∃ m : Nat, n = (m : Int) ∧ m ∈ ys := fun n hn => by
    have := of_decide_eq_true ((hm n).mp hn)
    obtain ⟨m, hm', rfl⟩ := List.mem_map.mp this
    exact ⟨m, rfl, hm'⟩
  obtain ⟨zs, rfl⟩ : ∃ zs : List Nat, ns = zs.map fun n : Nat => (n : Int) := ⟨ns.map Int.toNat, by
    rw [List.map_map]
    conv => lhs; rw [← List.map_id ns]
    refine List.map_congr_left fun x hx => ?_
    obtain ⟨m, rfl, _⟩ := hpos x hx
    rfl⟩
  have g := Grow.newO (o := .lst ((zs.map fun n : Nat => (n : Int)).map V.int)) s hb
  refine q b _ (zs.map Enc.enc) Hf _ g hb (none_back s hb) upd_same ?_ (k zs ?_ fun m => ?_)
  · clear hp hm hl hpos g q
    induction zs with
    | nil => exact .nil
    | cons z zs ih => exact .cons (Dp.int _) ih
  · rw [List.pairwise_map] at hp
    exact hp.imp fun h => by omega
  · have h2 := hm (m : Int)
    rw [decide_eq_true_eq] at h2
    constructor
    · intro h3
      obtain ⟨j, hj, e⟩ := List.mem_map.mp (h2.mp (List.mem_map.mpr ⟨m, h3, rfl⟩))
      have : j = m := by omega
      exact this ▸ hj
    · intro h3
      obtain ⟨j, hj, e⟩ := List.mem_map.mp (h2.mpr (List.mem_map.mpr ⟨m, h3, rfl⟩))
      have : j = m := by omega
      exact this ▸ hj
end
end DL
/-! K89k: the program's defs, further. -/
namespace K89
open PySem PySem.Spec PyProof.Rows L2 DL
section
variable {P : Program} {w : World} {K : PySem.W.Frag} {mg : PySem.Str → Option Value} {base : Heap}
local macro_rules | `(tactic| walk_at "dl") => `(tactic| first
  | with_reducible refine ss_ret ?_ | with_reducible refine ss_seq ?_ | with_reducible refine ss_if ?_ | with_reducible refine ss_next ?_ | with_reducible refine ss_retN ?_
  | refine w_var (by rfl) ?_ | with_reducible refine w_lit ?_ | with_reducible refine w_bl ?_ | with_reducible refine w_non ?_ | with_reducible refine w_str ?_ | with_reducible refine w_val ?_
  | with_reducible refine w_op ?_ | with_reducible refine w_cb ?_ | with_reducible refine w_call ?_ | with_reducible refine wa_cons ?_ | with_reducible refine wa_nil ?_
  | with_reducible refine wt_test ?_ | with_reducible refine wt_B ?_ | with_reducible refine wt_not ?_ | with_reducible refine wt_yes ?_ | with_reducible refine wt_and ?_ | with_reducible refine wt_or ?_
  | with_reducible refine w_andV ?_ | with_reducible refine w_orV ?_ | with_reducible refine w_notV ?_ | with_reducible refine w_if ?_ | with_reducible refine w_chain ?_
  | with_reducible refine wo_none ?_ | with_reducible refine wo_some ?_
  | with_reducible refine r_eq ?_ | with_reducible refine r_ne ?_ | with_reducible refine r_lt ?_ | with_reducible refine r_add ?_ | with_reducible refine r_and ?_ | with_reducible refine r_shr ?_ | with_reducible refine r_ltn ?_ | with_reducible refine r_gtn ?_ | with_reducible refine r_len ?_
  | with_reducible refine r_inT ?_ | with_reducible refine r_notInT ?_ | with_reducible refine r_inL ?_
  | with_reducible refine c_lenT ?_ | with_reducible refine c_lenP ?_ | with_reducible refine r_fst ?_ | with_reducible refine r_snd ?_ | with_reducible refine g_name ?_ | with_reducible refine g_pair ?_ | with_reducible refine gs_name ?_ | with_reducible refine gs_nil ?_)
def FitRP (t : Row × Part) : Prop := (∀ l ∈ t.2, l.1 < t.1.length) ∧ t.2.length ≤ 1000
def sp__law_contains (K : PySem.W.Frag) : Sp := mkSp (fun t : Row × Part => [Is K t.1, Is K t.2]) FitRP fun t A => A = Is K (contains t.1 t.2)
theorem d__law_contains (T : TF K mg) : Has P w K mg base CX0 1 "_law_contains" ["row", "partial"] (sp__law_contains K) := by
  obtain ⟨f, fd, F, hm, hb⟩ := T.d__law_contains
  refine fn_facts F sc__law_contains hm hb (fun _ => by first | rfl | (split <;> rfl)) fun cdv A outer s H E hr hgd => ?_
  have S := sc__law_contains
  refine ⟨(tRet (tOp (rEqD K) (tLc (iTup K (tVar 1)) (gTup K 2 (gCons (gName 2) (gCons (gName 3) gNil))) (tTest (tOp (rNeD K) (tOp (rIx K) (tVar 0) (tVar 2)) (tVar 3))) (tC (.int 1)) [2, 3]) (tLst tNil))), (pss_one (ps_ret (pe_cmpR (op_eqD hr.units) (pe_lc (own := [("key", 2), ("bit", 3)]) (g := (gTup K 2 (gCons (gName 2) (gCons (gName 3) gNil)))) (tt := (tTest (tOp (rNeD K) (tOp (rIx K) (tVar 0) (tVar 2)) (tVar 3)))) (te := (tC (.int 1))) (by rfl) S.nd (pi_tup (pv 1)) (blkOk_by (by rfl)) (fun _ _ _ _ _ => (pg_tup (by rfl) (pgs_cons (pg_name (i := 2) S.nd rfl (by first | exact Or.inl rfl | exact Or.inr rfl)) (pgs_cons (pg_name (i := 3) S.nd rfl (by first | exact Or.inl rfl | exact Or.inr rfl)) pgs_nil)))) (fun _ _ _ _ _ => pts_one (pt_cmpR (op_neD hr.units) (pe_ix ix_seq (pv 0) (pv 2) (fun _ _ => rfl)) (pv 3) (nomark _))) (fun _ _ _ _ _ => pe_int)) (pe_lst pa_nil) (nomark _)))), ?_⟩
  rintro ⟨r, p⟩ ⟨h1, h2⟩
  dsimp only at h1 h2
  repeat walk_at "dl"
  refine w_none (fun l : Lit => decide (r.getD l.1 0 ≠ l.2)) (js := [2, 3]) (by decide) (wx_tup ?_)
  repeat walk_at "dl"
  refine ⟨p, Le.refl _, Nat.le_trans h2 (by decide), fun l hl => ?_, ?_⟩
  · repeat walk_at "dl"
    refine r_ixT (getD_some (h1 l hl)) ?_
    repeat walk_at "dl"
    exact is_x rfl
  · show Is K _ = Is K (contains r p)
    unfold contains
    congr 1
    refine congrArg (List.all p) (funext fun l => ?_)
    simp
def sp__law_is_held (K : PySem.W.Frag) : Sp := mkSp (fun t : Rule × Part => [Is K t.1, Is K t.2]) (fun t => Fit t.1.1 t.1.2 t.2) fun t A => A = Is K (held t.1.2 t.2)
theorem d__law_is_held (T : TF K mg) (h__law_contains : Has P w K mg base CX0 1 "_law_contains" ["row", "partial"] (sp__law_contains K)) : Has P w K mg base CX0 2 "_law_is_held" ["rule", "partial"] (sp__law_is_held K) := by
  obtain ⟨f, fd, F, hm, hb⟩ := T.d__law_is_held
  refine fn_facts F sc__law_is_held hm hb (fun _ => by first | rfl | (split <;> rfl)) fun cdv A outer s H E hr hgd => ?_
  have S := sc__law_is_held
  refine ⟨(tRet (tOp (rNeD K) (tLc (iTup K (tOp (rIx K) (tVar 0) (tC (.int 1)))) (gName 2) (tB (tCall (sp__law_contains K) [] E0 (tCons (tVar 2) (tCons (tVar 1) tNil)))) (tC (.int 1)) [2]) (tLst tNil))), (pss_one (ps_ret (pe_cmpR (op_neD hr.units) (pe_lc (own := [("row", 2)]) (g := (gName 2)) (tt := (tB (tCall (sp__law_contains K) [] E0 (tCons (tVar 2) (tCons (tVar 1) tNil))))) (te := (tC (.int 1))) (by rfl) S.nd (pi_tup (pe_ix ix_seq (pv 0) pe_int (fun _ _ => rfl))) (blkOk_by (by rfl)) (fun _ _ _ _ _ => (pg_name (i := 2) S.nd rfl (by first | exact Or.inl rfl | exact Or.inr rfl))) (fun _ _ _ _ _ => pts_one (pt_val (pc (E := E0) (h__law_contains.mono (by decide)) hr hgd (by rfl) pass0 (pa_cons (pv 2) (pa_cons (pv 1) pa_nil))))) (fun _ _ _ _ _ => pe_int)) (pe_lst pa_nil) (nomark _)))), ?_⟩
  rintro ⟨⟨n, rows⟩, p⟩ ⟨h1, h2, h3, h4⟩
  dsimp only at h1 h2 h3 h4
  repeat walk_at "dl"
  refine w_some (fun r : Row => contains r p) (js := [2]) (by decide) (wx_tup ?_)
  repeat walk_at "dl"
  refine ⟨rows, Le.refl _, Nat.le_trans h2 (by decide), fun r hr => ?_, rfl⟩
  repeat walk_at "dl"
  refine c_mk (r, p) ⟨fun l hl => by show l.1 < r.length; rw [h1 r hr]; exact h3 l hl, h4⟩ fun A e => ?_
  subst e
  exact is_x rfl
def sp__law_is_pattern (K : PySem.W.Frag) : Sp := mkSp (fun t : Rule × Part => [Is K t.1, Is K t.2]) (fun t => Fit t.1.1 t.1.2 t.2) fun t A => A = Is K (isPat t.1.2 t.2)
theorem d__law_is_pattern (T : TF K mg) (h__law_is_held : Has P w K mg base CX0 2 "_law_is_held" ["rule", "partial"] (sp__law_is_held K)) : Has P w K mg base CX0 3 "_law_is_pattern" ["rule", "partial"] (sp__law_is_pattern K) := by
  obtain ⟨f, fd, F, hm, hb⟩ := T.d__law_is_pattern
  refine fn_facts F sc__law_is_pattern hm hb (fun _ => by first | rfl | (split <;> rfl)) fun cdv A outer s H E hr hgd => ?_
  have S := sc__law_is_pattern
  refine ⟨(tSeq (tIfS (tB (tCall (sp__law_is_held K) [] E0 (tCons (tVar 0) (tCons (tVar 1) tNil)))) (tRet (tC (.bl false))) tNext) (tRet (tOp (rEqD K) (tLc (iRng1 (tCons (tCB (rLenA K) (tCons (tVar 1) tNil)) tNil)) (gName 2) (tNot (tB (tCall (sp__law_is_held K) [] E0 (tCons (tVar 0) (tCons (tOp (rCatA K) (tSl (rSlA K) (tVar 1) tNoPart (tPart (tVar 2))) (tSl (rSlA K) (tVar 1) (tPart (tOp (rI0 fun i j => .int (i + j)) (tVar 2) (tC (.int 1)))) tNoPart)) tNil))))) (tC (.int 1)) [2]) (tLst tNil)))), (pss_cons (ps_if (pt_val (pc (E := E0) (h__law_is_held.mono (by decide)) hr hgd (by rfl) pass0 (pa_cons (pv 0) (pa_cons (pv 1) pa_nil)))) (pss_one (ps_ret pe_bl)) pss_nil) (pss_one (ps_ret (pe_cmpR (op_eqD hr.units) (pe_lc (own := [("at", 2)]) (g := (gName 2)) (tt := (tNot (tB (tCall (sp__law_is_held K) [] E0 (tCons (tVar 0) (tCons (tOp (rCatA K) (tSl (rSlA K) (tVar 1) tNoPart (tPart (tVar 2))) (tSl (rSlA K) (tVar 1) (tPart (tOp (rI0 fun i j => .int (i + j)) (tVar 2) (tC (.int 1)))) tNoPart)) tNil)))))) (te := (tC (.int 1))) (by rfl) S.nd (pi_range1 (by rfl) T.n_range (pa_cons (pe_callB call_len_seq (by rfl) T.n_len bt_len (pa_cons (pv 1) pa_nil)) pa_nil)) (blkOk_by (by rfl)) (fun _ _ _ _ _ => (pg_name (i := 2) S.nd rfl (by first | exact Or.inl rfl | exact Or.inr rfl))) (fun _ _ _ _ _ => pts_one (pt_not (pt_val (pc (E := E0) (h__law_is_held.mono (by decide)) hr hgd (by rfl) pass0 (pa_cons (pv 0) (pa_cons (pe_op op_catA (pe_slice sl_tupA (pv 1) po_none (po_some (pv 2))) (pe_slice sl_tupA (pv 1) (po_some (pe_op op_add (pv 2) pe_int)) po_none)) pa_nil)))))) (fun _ _ _ _ _ => pe_int)) (pe_lst pa_nil) (nomark _))))), ?_⟩
  rintro ⟨⟨n, rows⟩, p⟩ hf
  have hf : Fit n rows p := hf
  repeat walk_at "dl"
  refine c_mk ((n, rows), p) hf fun A e => ?_
  subst e
  refine is_x ⟨fun h0 => ?_, fun h0 => ?_⟩ <;> dsimp only at h0
  · repeat walk_at "dl"
    show Is K false = Is K (isPat rows p)
    unfold isPat
    rw [h0]
    rfl
  repeat walk_at "dl"
  refine w_none (fun i : Nat => !held rows (drop1 p i)) (js := [2]) (by decide) (wx_range ?_)
  repeat walk_at "dl"
  refine ⟨_, p.length, rfl, Le.refl _, Nat.le_trans hf.2.2.2 (by decide), fun i hi => ?_, ?_⟩
  · repeat walk_at "dl"
    refine w_drop1 (by rfl) (by rfl) hf.2.2.2 ?_
    repeat walk_at "dl"
    refine c_mk ((n, rows), drop1 p i) (fit_drop hf) fun A e => ?_
    subst e
    exact is_x rfl
  · show Is K _ = Is K (isPat rows p)
    unfold isPat
    rw [h0]
    congr 1
    show _ = (List.range p.length).all _
    refine congrArg (List.all (List.range p.length)) (funext fun i => ?_)
    rw [Bool.not_not]
def sp__law_is_part (K : PySem.W.Frag) : Sp := mkSp (fun t : Part × Part => [Is K t.1, Is K t.2]) (fun t => t.1.length ≤ 1000) fun t A => A = Is K (isPart t.1 t.2)
theorem d__law_is_part (T : TF K mg) : Has P w K mg base CX0 1 "_law_is_part" ["partial", "other"] (sp__law_is_part K) := by
  obtain ⟨f, fd, F, hm, hb⟩ := T.d__law_is_part
  refine fn_facts F sc__law_is_part hm hb (fun _ => by first | rfl | (split <;> rfl)) fun cdv A outer s H E hr hgd => ?_
  have S := sc__law_is_part
  refine ⟨(tRet (tOp (rEqD K) (tLc (iTup K (tVar 0)) (gName 2) (tTest (tOp (rNotInT K) (tVar 2) (tVar 1))) (tC (.int 1)) [2]) (tLst tNil))), (pss_one (ps_ret (pe_cmpR (op_eqD hr.units) (pe_lc (own := [("literal", 2)]) (g := (gName 2)) (tt := (tTest (tOp (rNotInT K) (tVar 2) (tVar 1)))) (te := (tC (.int 1))) (by rfl) S.nd (pi_tup (pv 0)) (blkOk_by (by rfl)) (fun _ _ _ _ _ => (pg_name (i := 2) S.nd rfl (by first | exact Or.inl rfl | exact Or.inr rfl))) (fun _ _ _ _ _ => pts_one (pt_cmpR (op_notInT (un65 hr)) (pv 2) (pv 1) (by rfl))) (fun _ _ _ _ _ => pe_int)) (pe_lst pa_nil) (nomark _)))), ?_⟩
  rintro ⟨p, q⟩ hp
  have hp : p.length ≤ 1000 := hp
  repeat walk_at "dl"
  refine w_none (fun l : Lit => !memB l q) (js := [2]) (by decide) (wx_tup ?_)
  repeat walk_at "dl"
  refine ⟨p, Le.refl _, Nat.le_trans hp (by decide), fun l hl => ?_, ?_⟩
  · repeat walk_at "dl"
    exact is_x rfl
  · show Is K _ = Is K (isPart p q)
    unfold isPart
    congr 1
    refine congrArg (List.all p) (funext fun l => ?_)
    rw [Bool.not_not]
def sp__law_without (K : PySem.W.Frag) : Sp := mkSp (fun t : Nat × List Part => [Is K t.1, Is K t.2]) (fun t => FitPs t.1 t.2) fun t A => A = Is K (rowsWithout t.1 t.2)
theorem d__law_without (T : TF K mg) (h__law_contains : Has P w K mg base CX0 1 "_law_contains" ["row", "partial"] (sp__law_contains K)) (h__law_rows : Has P w K mg base CX0 1 "_law_rows" ["size"] (sp__law_rows K)) : Has P w K mg base CX0 2 "_law_without" ["size", "partials"] (sp__law_without K) := by
  obtain ⟨f, fd, F, hm, hb⟩ := T.d__law_without
  refine fn_facts F sc__law_without hm hb (fun _ => by first | rfl | (split <;> rfl)) fun cdv A outer s H E hr hgd => ?_
  have S := sc__law_without
  refine ⟨(tRet (tCB (rTupA K) (tCons (tLc (iList K (tCall (sp__law_rows K) [] E0 (tCons (tVar 0) tNil))) (gName 2) (tTest (tOp (rEqD K) (tLc (iTup K (tVar 1)) (gName 3) (tB (tCall (sp__law_contains K) [] E0 (tCons (tVar 2) (tCons (tVar 3) tNil)))) (tC (.int 1)) [3]) (tLst tNil))) (tVar 2) [2]) tNil))), (pss_one (ps_ret (pe_callTy call_tuple_of (by rfl) T.n_tuple bt_tuple (pa_cons (pe_lc (own := [("row", 2)]) (g := (gName 2)) (tt := (tTest (tOp (rEqD K) (tLc (iTup K (tVar 1)) (gName 3) (tB (tCall (sp__law_contains K) [] E0 (tCons (tVar 2) (tCons (tVar 3) tNil)))) (tC (.int 1)) [3]) (tLst tNil)))) (te := (tVar 2)) (by rfl) S.nd (pi_list (pc (E := E0) (h__law_rows.mono (by decide)) hr hgd (by rfl) pass0 (pa_cons (pv 0) pa_nil))) (blkOk_by (by rfl)) (fun _ _ _ _ _ => (pg_name (i := 2) S.nd rfl (by first | exact Or.inl rfl | exact Or.inr rfl))) (fun _ _ _ _ _ => pts_one (pt_cmpR (op_eqD hr.units) (pe_lc (own := [("partial", 3)]) (g := (gName 3)) (tt := (tB (tCall (sp__law_contains K) [] E0 (tCons (tVar 2) (tCons (tVar 3) tNil))))) (te := (tC (.int 1))) (by rfl) S.nd (pi_tup (pv 1)) (blkOk_by (by rfl)) (fun _ _ _ _ _ => (pg_name (i := 3) S.nd rfl (by first | exact Or.inl rfl | exact Or.inr rfl))) (fun _ _ _ _ _ => pts_one (pt_val (pc (E := E0) (h__law_contains.mono (by decide)) hr hgd (by rfl) pass0 (pa_cons (pv 2) (pa_cons (pv 3) pa_nil))))) (fun _ _ _ _ _ => pe_int)) (pe_lst pa_nil) (nomark _))) (fun _ _ _ _ _ => (pv 2))) pa_nil)))), ?_⟩
  rintro ⟨n, ps⟩ ⟨h7, h1, h2⟩
  dsimp only at h7 h1 h2
  repeat walk_at "dl"
  refine w_new (wn_comp (fun r : Row => ps.all fun p => !contains r p) (fun r => r) (js := [2]) (by decide) (wx_list ?_))
  repeat walk_at "dl"
  refine c_mk n h7 fun A e => ?_
  subst e
  refine ⟨rowsOf n, le_L _, le128 h7, fun r hr => ?_, ?_⟩
  · repeat walk_at "dl"
    refine w_none (fun p : Part => contains r p) (js := [3]) (by decide) (wx_tup ?_)
    repeat walk_at "dl"
    refine ⟨ps, Le.refl _, Nat.le_trans h2 (by decide), fun p hp => ?_, ?_⟩
    · repeat walk_at "dl"
      refine c_mk (r, p) ⟨fun l hl => by show l.1 < r.length; rw [(rowsOf_len1 hr).1]; exact ((h1 p hp).1 l hl).1, (h1 p hp).2.2⟩ fun A e => ?_
      subst e
      exact is_x rfl
    · refine is_x ⟨rfl, fun _ => ?_⟩
      repeat walk_at "dl"
      exact Le.refl _
  · repeat walk_at "dl"
    refine c_tup le_l ?_
    rw [List.map_id']
    show Is K ((rowsOf n).filter _) = Is K (rowsWithout n ps)
    unfold rowsWithout
    congr 2
    funext r
    rw [List.not_any_eq_all_not]
/-- the rows that fit, for each literal left out -/
def rowsForL (rows : List Row) (p : Part) : List (PL Row) := (List.range p.length).map fun i => PL.mk (rows.filter fun x => contains x (drop1 p i))
def sp__law_rows_for (K : PySem.W.Frag) : Sp := mkSp (fun t : Rule × Part => [Is K t.1, Is K t.2]) (fun t => Fit t.1.1 t.1.2 t.2) fun t A => A = IsL K (rowsForL t.1.2 t.2)
theorem d__law_rows_for (T : TF K mg) (h__law_contains : Has P w K mg base CX0 1 "_law_contains" ["row", "partial"] (sp__law_contains K)) : Has P w K mg base CX0 2 "_law_rows_for" ["rule", "partial"] (sp__law_rows_for K) := by
  obtain ⟨f, fd, F, hm, hb⟩ := T.d__law_rows_for
  refine fn_facts F sc__law_rows_for hm hb (fun _ => by first | rfl | (split <;> rfl)) fun cdv A outer s H E hr hgd => ?_
  have S := sc__law_rows_for
  refine ⟨(tSeq (tAsg (tLst tNil) (gName 2)) (tSeq (tFor (iRng1 (tCons (tCB (rLenA K) (tCons (tVar 1) tNil)) tNil)) (gName 3) (tSeq (tAsg (tOp (rCatA K) (tSl (rSlA K) (tVar 1) tNoPart (tPart (tVar 3))) (tSl (rSlA K) (tVar 1) (tPart (tOp (rI0 fun i j => .int (i + j)) (tVar 3) (tC (.int 1)))) tNoPart)) (gName 4)) (tDrop (tBM K "list" rAppend (tVar 2) (tCons (tLc (iTup K (tOp (rIx K) (tVar 0) (tC (.int 1)))) (gName 5) (tB (tCall (sp__law_contains K) [] E0 (tCons (tVar 5) (tCons (tVar 4) tNil)))) (tVar 5) [5]) tNil))))) (tRet (tVar 2)))), (pss_cons (ps_set (i := 2) S.nd rfl (by first | exact Or.inl rfl | exact Or.inr rfl) (pe_lst pa_nil)) (pss_cons (ps_for PassesOwn.never (by rfl) (pi_range1 (by rfl) T.n_range (pa_cons (pe_callB call_len_seq (by rfl) T.n_len bt_len (pa_cons (pv 1) pa_nil)) pa_nil)) (pg_name (i := 3) S.nd rfl (by first | exact Or.inl rfl | exact Or.inr rfl)) (pss_cons (ps_set (i := 4) S.nd rfl (by first | exact Or.inl rfl | exact Or.inr rfl) (pe_op op_catA (pe_slice sl_tupA (pv 1) po_none (po_some (pv 3))) (pe_slice sl_tupA (pv 1) (po_some (pe_op op_add (pv 3) pe_int)) po_none))) (pss_one (ps_expr (pe_bm PySem.F.plainAttrs_list PySem.F.slot_list_append PySem.F.type_list_append mt_append (pv 2) (pa_cons (pe_lc (own := [("row", 5)]) (g := (gName 5)) (tt := (tB (tCall (sp__law_contains K) [] E0 (tCons (tVar 5) (tCons (tVar 4) tNil))))) (te := (tVar 5)) (by rfl) S.nd (pi_tup (pe_ix ix_seq (pv 0) pe_int (fun _ _ => rfl))) (blkOk_by (by rfl)) (fun _ _ _ _ _ => (pg_name (i := 5) S.nd rfl (by first | exact Or.inl rfl | exact Or.inr rfl))) (fun _ _ _ _ _ => pts_one (pt_val (pc (E := E0) (h__law_contains.mono (by decide)) hr hgd (by rfl) pass0 (pa_cons (pv 5) (pa_cons (pv 4) pa_nil))))) (fun _ _ _ _ _ => (pv 5))) pa_nil)))))) (pss_one (ps_ret (pv 2))))), ?_⟩
  rintro ⟨⟨n, rows⟩, p⟩ hfit
  have hfit : Fit n rows p := hfit
  repeat walk_at "dl"
  refine ss_own (wn_lst (wa_nil ⟨[], trivial, Nat.zero_le _, ?_⟩))
  repeat walk_at "dl"
  refine ss_forT (js := [3]) (wx_range ?_)
  repeat walk_at "dl"
  refine ⟨_, p.length, rfl, Le.refl _, Nat.le_trans hfit.2.2.2 (by decide), fun pre ρ' => ∃ S3 S4, ρ' = [.fact (Is K (n, rows)), .fact (Is K p), .own ((pre.map fun i => PL.mk (rows.filter fun x => contains x (drop1 p i))).map Enc.enc), S3, S4, .no], ⟨.no, .no, rfl⟩, fun pre i ρ' hi hp ⟨S3, S4, e⟩ => ?_, fun ρ' ⟨S3, S4, e⟩ => ?_⟩
  · subst e
    have hpl : pre.length + 1 ≤ p.length := by
      have := hp.length_le
      rw [List.length_append, List.length_range] at this
      exact this
    repeat walk_at "dl"
    refine ss_set ?_
    repeat walk_at "dl"
    refine w_drop1 (by rfl) (by rfl) hfit.2.2.2 ?_
    refine ss_append (ds := (pre.map fun i => PL.mk (rows.filter fun x => contains x (drop1 p i))).map Enc.enc) rfl (by rw [List.length_map, List.length_map]; have := hfit.2.2.2; omega) ?_
    refine w_new (wn_comp (fun x : Row => contains x (drop1 p i)) (fun x => x) (js := [5]) (by decide) (wx_tup (α := Row) ?_))
    repeat walk_at "dl"
    refine ⟨rows, Le.refl _, Nat.le_trans hfit.2.1 (by decide), fun x hx => ?_, ?_⟩
    · repeat walk_at "dl"
      refine c_mk (x, drop1 p i) ⟨fun l hl => by show l.1 < x.length; rw [hfit.1 x hx]; exact hfit.2.2.1 l (drop1_mem hl), (fit_drop hfit).2.2.2⟩ fun A e => ?_
      subst e
      refine is_x ⟨rfl, fun _ => ?_⟩
      repeat walk_at "dl"
      exact Le.refl _
    refine ⟨Enc.enc (PL.mk (rows.filter fun x => contains x (drop1 p i))), ?_, .fact (Is K i), .fact (Is K (drop1 p i)), ?_⟩
    · rw [List.map_id']
      exact le_L _
    · rw [List.map_append, List.map_append]
      rfl
  · subst e
    refine ss_freeze (i := 2) rfl ?_
    repeat walk_at "dl"
    rfl
def sp__law_is_rule (K : PySem.W.Frag) : Sp := mkSp (fun t : Nat × List Row => [Is K t.1, Is K (PL.mk t.2)]) (fun t => (∀ r ∈ t.2, OkRow t.1 r) ∧ t.2.length < 60 ∧ t.1 ≤ 7) fun t A => A = Is K (both t.1 t.2)
theorem two_sorted {zs ys : List Nat} (pw : zs.Pairwise (· < ·)) (hm : ∀ m, m ∈ zs ↔ m ∈ ys) (hb : ∀ m ∈ ys, m ≤ 1) : zs = [0, 1] ↔ (0 ∈ ys ∧ 1 ∈ ys) := by
  have nd : zs.Nodup := pw.imp fun h => Nat.ne_of_lt h
  have h2 := two_bits nd hm hb
  rw [← h2]
  constructor
  · intro e; rw [e]; rfl
  · intro e
    match zs, e, pw, hm with
    | [a, b], _, pw, hm =>
      have h1 : a ≤ 1 := hb a ((hm a).mp (by simp))
      have h3 : b ≤ 1 := hb b ((hm b).mp (by simp))
      have h4 : a < b := by simpa using pw
      have ea : a = 0 := by omega
      have eb : b = 1 := by omega
      rw [ea, eb]
theorem d__law_is_rule (T : TF K mg) : Has P w K mg base CX0 1 "_law_is_rule" ["size", "rows"] (sp__law_is_rule K) := by
  obtain ⟨f, fd, F, hm, hb⟩ := T.d__law_is_rule
  refine fn_facts F sc__law_is_rule hm hb (fun _ => by first | rfl | (split <;> rfl)) fun cdv A outer s H E hr hgd => ?_
  have S := sc__law_is_rule
  refine ⟨(tRet (tOp (rEqD K) (tLc (iRng1 (tCons (tVar 0) tNil)) (gName 2) (tTest (tOp (rNeD K) (tCB (rSortedSet w) (tCons (tCB (rSetOfL K w) (tCons (tLc (iList K (tVar 1)) (gName 3) tYes (tOp (rIx K) (tVar 3) (tVar 2)) [3]) tNil)) tNil)) (tLst (tCons (tC (.int 0)) (tCons (tC (.int 1)) tNil))))) (tC (.int 1)) [2]) (tLst tNil))), (pss_one (ps_ret (pe_cmpR (op_eqD hr.units) (pe_lc (own := [("key", 2)]) (g := (gName 2)) (tt := (tTest (tOp (rNeD K) (tCB (rSortedSet w) (tCons (tCB (rSetOfL K w) (tCons (tLc (iList K (tVar 1)) (gName 3) tYes (tOp (rIx K) (tVar 3) (tVar 2)) [3]) tNil)) tNil)) (tLst (tCons (tC (.int 0)) (tCons (tC (.int 1)) tNil)))))) (te := (tC (.int 1))) (by rfl) S.nd (pi_range1 (by rfl) T.n_range (pa_cons (pv 0) pa_nil)) (blkOk_by (by rfl)) (fun _ _ _ _ _ => (pg_name (i := 2) S.nd rfl (by first | exact Or.inl rfl | exact Or.inr rfl))) (fun _ _ _ _ _ => pts_one (pt_cmpR (op_neD hr.units) (pe_callB (cr_sortedSet (by rfl)) (by rfl) T.n_sorted bt_sorted (pa_cons (pe_callTy (cr_setOfL (by rfl)) (by rfl) T.n_set bt_set (pa_cons (pe_lc (own := [("row", 3)]) (g := (gName 3)) (tt := tYes) (te := (tOp (rIx K) (tVar 3) (tVar 2))) (by rfl) S.nd (pi_list (pv 1)) (blkOk_by (by rfl)) (fun _ _ _ _ _ => (pg_name (i := 3) S.nd rfl (by first | exact Or.inl rfl | exact Or.inr rfl))) (fun _ _ _ _ _ => pts_nil) (fun _ _ _ _ _ => (pe_ix ix_seq (pv 3) (pv 2) (fun _ _ => rfl)))) pa_nil)) pa_nil)) (pe_lst (pa_cons pe_int (pa_cons pe_int pa_nil))) (nomark _))) (fun _ _ _ _ _ => pe_int)) (pe_lst pa_nil) (nomark _)))), ?_⟩
  rintro ⟨n, rows⟩ ⟨h1, h2, h7⟩
  dsimp only at h1 h2 h7
  repeat walk_at "dl"
  refine w_none (fun k : Nat => !decide (0 ∈ col rows k ∧ 1 ∈ col rows k)) (js := [2]) (by decide) (wx_range ?_)
  repeat walk_at "dl"
  refine ⟨_, n, rfl, Le.refl _, Nat.le_trans h7 (by decide), fun k hk => ?_, ?_⟩
  · have hk' := List.mem_range.mp hk
    repeat walk_at "dl"
    refine w_new (wn_mapT (fun r : Row => r.getD k 0) (js := [3]) (by decide) (wx_list (α := Row) ?_))
    repeat walk_at "dl"
    refine ⟨rows, Le.refl _, Nat.le_trans (Nat.le_of_lt h2) (by decide), fun r hr => ?_, ?_⟩
    · repeat walk_at "dl"
      exact r_ixT (getD_some (by rw [(h1 r hr).1]; exact hk')) (Le.refl _)
    repeat walk_at "dl"
    refine c_setL (K := K) (ys := col rows k) (le_L _) (by unfold col; rw [List.length_map]; exact h2) ?_
    repeat walk_at "dl"
    refine c_new (K := K) (cn_sortSet (ys := col rows k) (by unfold col; rw [List.length_map]; exact h2) fun zs pw hm => ?_)
    refine w_new (wn_lstL (α := Nat) ?_)
    repeat walk_at "dl"
    refine ⟨[0, 1], ⟨Le.refl _, Le.refl _, trivial⟩, by decide, ?_⟩
    refine R.le (le_L zs) (le_L [0, 1]) (r_neD (shp (PL.mk zs) (by decide)) (shp (PL.mk [0, 1]) (by decide)) ?_)
    refine ⟨_, Le.refl _, ?_⟩
    rw [Bool.eq_iff_iff, Bool.not_eq_true', Bool.not_eq_true', decide_eq_false_iff_not, ← Bool.not_eq_true, (EqvL.eqv (PL.mk zs) (PL.mk [0, 1]))]
    rw [PL.mk.injEq, two_sorted pw hm fun m hm => ?_]
    obtain ⟨r, hr, rfl⟩ := List.mem_map.mp hm
    exact getD_le (h1 r hr).2 k
  · show Is K _ = Is K (both n rows)
    unfold both
    congr 1
    refine congrArg (List.all (List.range n)) (funext fun i => ?_)
    rw [Bool.not_not]
end
end K89
/-! DLq: a stream: a list of three ints of which nobody needs to know which; a list picked empty in a drawn order. -/
namespace DL
open PySem PySem.Spec PyProof.Rows L2
/-- a list of three ints at p -/
def StreamH (p : Addr) (h : Heap) : Prop := ∃ (a b c : Int) (t u v n : Nat), h.get? p = some { cls := .type "list", data := .seq #[.int a t, .int b u, .int c v] n }
def StreamO (p : Addr) : HO := .ext (StreamH p)
def isS : Fact := ⟨fun v H => ∃ p, v = .ref p ∧ H p = some (StreamO p), fun e ⟨p, h1, h2⟩ => ⟨p, h1, e.k p _ h2 nT_ext⟩⟩
def three (a b c : Int) : HO := .lst [.int a, .int b, .int c]
section
variable {X : Cx}
theorem Inv.open3 {pins : List (Addr × Obj)} {σ : L2.St} {H : Hp} {s : Shared} {p : Addr} (I : Inv X pins σ H s) (h : H p = some (StreamO p)) : ∃ a b c, Inv X pins σ (upd H p (three a b c)) s := by
  obtain ⟨⟨a, b, c, t, u, v, n, e⟩, _, _⟩ := I.hok p _ h
  refine ⟨a, b, c, ?_⟩
  have := I.write (t' := s.toks) (h' := s.heap) (x := p) (e := p) (o := three a b c) (by rw [h]; trivial) (.inl rfl) (fun b u _ q => q) ⟨_, e⟩
    ⟨by show 3 ≤ sizeLine; decide, [.int a t, .int b u, .int c v], n, .cons ⟨t, rfl⟩ (.cons ⟨u, rfl⟩ (.cons ⟨v, rfl⟩ .nil)), e⟩
  exact this
theorem Inv.close3 {pins : List (Addr × Obj)} {σ : L2.St} {H : Hp} {s : Shared} {p : Addr} {a b c : Int} (I : Inv X pins σ H s) (h : H p = some (three a b c)) : Inv X pins σ (upd H p (StreamO p)) s := by
  obtain ⟨hz, its, n, r, e⟩ := I.hok p _ h
  obtain ⟨t, u, v, rfl⟩ : ∃ t u v, its = [.int a t, .int b u, .int c v] := by
    cases r with
    | cons r1 r =>
      cases r with
      | cons r2 r =>
        cases r with
        | cons r3 r =>
          cases r with
          | nil =>
            obtain ⟨t, rfl⟩ := r1
            obtain ⟨u, rfl⟩ := r2
            obtain ⟨v, rfl⟩ := r3
            exact ⟨t, u, v, rfl⟩
  have e' : StreamH p s.heap := ⟨a, b, c, t, u, v, n, e⟩
  have := I.write (t' := s.toks) (h' := s.heap) (x := p) (e := p) (o := StreamO p) (by rw [h]; trivial) (.inl rfl) (fun b u _ q => q) ⟨_, e⟩
    ⟨e', ⟨_, e⟩, fun h1 h2 ⟨a, b, c, t, u, v, n, e1⟩ k => ⟨a, b, c, t, u, v, n, k _ e1⟩⟩
  exact this
/-- the stream in slot i is opened for these statements -/
def tGhost (i : Nat) (t : TS) : TS := fun D σ H => ∃ p, σ[i]? = some (some (.ref p)) ∧ H p = some (StreamO p) ∧ ∀ a b c, t
  { nx := fun σ' H' => ∃ a b c, H' p = some (three a b c) ∧ D.nx σ' (upd H' p (StreamO p)), rt := fun v H' => ∃ a b c, H' p = some (three a b c) ∧ D.rt v (upd H' p (StreamO p)) } σ (upd H p (three a b c))
theorem pss_ghost {i : Nat} {st : List Stmt} {t : TS} (h : PSs X st t) : PSs X st (tGhost i t) := by
  refine ⟨fun pins s σ H D I ⟨p, _, h2, h3⟩ => ?_⟩
  obtain ⟨a, b, c, I1⟩ := Inv.open3 I h2
  refine thn (h.run pins s σ _ _ I1 (h3 a b c)) fun f s' q => ?_
  cases f with
  | next =>
    obtain ⟨σ', H', I', a, b, c, q1, q2⟩ := q
    exact ⟨σ', _, Inv.close3 I' q1, q2⟩
  | brk => obtain ⟨_, _, _, q⟩ := q; exact q.elim
  | cont => obtain ⟨_, _, _, q⟩ := q; exact q.elim
  | ret u =>
    obtain ⟨v, σ', H', I', r, a, b, c, q1, q2⟩ := q
    exact ⟨v, σ', _, Inv.close3 I' q1, r, q2⟩
/-- a new list of three ints as a stream -/
def tToS (te : TE) : TE := fun σ H Q => te σ H fun v H' => ∃ p a b c, v = .ref p ∧ H' p = some (three a b c) ∧ Q v (upd H' p (StreamO p))
theorem pe_toS {e : Expr} {te : TE} (h : PE X e te) : PE X e (tToS te) := ⟨fun pins s σ H Q I hq => thn (h.run pins s σ H _ I hq) fun u s' ⟨v, H', I', r, p, a, b, c, e1, e2, q⟩ => ⟨v, _, Inv.close3 I' e2, r, q⟩⟩
def CPowW (i j : Int) : Prop := 0 ≤ j ∧ (Builtin.Int.intBits i : Int) * j ≤ 2 ^ 27
theorem op_powW : OpR X (binaryOp .Pow) (rI CPowW fun i j => .int (i ^ j.toNat)) := opI fun _ _ _ _ _ _ _ hc q => pow_int hc.1 hc.2 q
end
section
variable {K : PySem.W.Frag} {ρ : Rho} {𝒜 : Fact → Prop} {te : TE}
theorem w_toS (h : WN K te ρ fun ds => (∃ a b c : Int, ds = [.int a, .int b, .int c]) ∧ 𝒜 isS) : W K (tToS te) ρ 𝒜 := fun σ Ot Hf H Q e q =>
  h σ Ot Hf H _ e fun p vs ds H1f H1 g n nf hp hd ⟨⟨a, b, c, ed⟩, k⟩ => by
    subst ed
    cases hd with
    | cons d1 hd =>
      cases hd with
      | cons d2 hd =>
        cases hd with
        | cons d3 hd =>
          cases hd with
          | nil =>
            obtain rfl := dp_int d1
            obtain rfl := dp_int d2
            obtain rfl := dp_int d3
            exact ⟨p, a, b, c, rfl, hp, q (.ref p) _ _ isS ((g.updO (o := StreamO p) n nf).fix n nf upd_same) ⟨p, rfl, upd_same⟩ k⟩
/-- a statement, by what holds behind it -/
theorem ss_cut {t u : TS} {P : Post} (M : Rho → Prop) (h : SS K t ρ { P with nx := M }) (k : ∀ ρ', M ρ' → SS K u ρ' P) : SS K (tSeq t u) ρ P := ss_seq (SS.nx (P := { P with nx := M }) h k)
/-- ints of any sign -/
theorem ri_add {i j : Int} (k : 𝒜 (Is K (i + j))) : R (rI0 fun i j => .int (i + j)) (isD K (.int i)) (isD K (.int j)) 𝒜 := r_ii (g := fun i j => .int (i + j)) (D := Is K (i + j)) (fun _ => Dp.int _) k
theorem ri_sub {i j : Int} (k : 𝒜 (Is K (i - j))) : R (rI0 fun i j => .int (i - j)) (isD K (.int i)) (isD K (.int j)) 𝒜 := r_ii (g := fun i j => .int (i - j)) (D := Is K (i - j)) (fun _ => Dp.int _) k
theorem ri_mul {i j : Int} (h : CMul i j) (k : 𝒜 (Is K (i * j))) : R (rI CMul fun i j => .int (i * j)) (isD K (.int i)) (isD K (.int j)) 𝒜 := r_iic (g := fun i j => .int (i * j)) (D := Is K (i * j)) h (fun _ => Dp.int _) k
theorem ri_mod {i j : Int} (h : 0 < j) (k : 𝒜 (Is K (i % j))) : R (rI (fun _ j => 0 < j) fun i j => .int (i % j)) (isD K (.int i)) (isD K (.int j)) 𝒜 := r_iic (c := fun _ j => 0 < j) (g := fun i j => .int (i % j)) (D := Is K (i % j)) h (fun _ => Dp.int _) k
theorem ri_pow {i j : Int} (h : CPow i j) (k : 𝒜 (Is K (i ^ j.toNat))) : R (rI CPow fun i j => .int (i ^ j.toNat)) (isD K (.int i)) (isD K (.int j)) 𝒜 := r_iic (g := fun i j => .int (i ^ j.toNat)) (D := Is K (i ^ j.toNat)) h (fun _ => Dp.int _) k
theorem ri_powW {i j : Int} (h : CPowW i j) (k : 𝒜 (Is K (i ^ j.toNat))) : R (rI CPowW fun i j => .int (i ^ j.toNat)) (isD K (.int i)) (isD K (.int j)) 𝒜 := r_iic (g := fun i j => .int (i ^ j.toNat)) (D := Is K (i ^ j.toNat)) h (fun _ => Dp.int _) k
theorem ri_lt {i j : Int} (k : 𝒜 (Is K (decide (i < j)))) : R (rI0 fun i j => .bl (decide (i < j))) (isD K (.int i)) (isD K (.int j)) 𝒜 := r_cmp (g := fun i j => decide (i < j)) k
/-- ints, each by its own value -/
theorem w_intv {i : Int} (k : 𝒜 (Is K i)) : W K (tC (.int i)) ρ 𝒜 := w_int k
theorem erase_perm {γ : Type} {l : List γ} {r : Nat} (h : r < l.length) : (l[r] :: l.eraseIdx r).Perm l := by
  rw [List.eraseIdx_eq_take_drop_succ]
  refine List.perm_middle.symm.trans ?_
  rw [← List.drop_eq_getElem_cons h, List.take_append_drop]
/-- a draw's promise -/
def spDraw (K : PySem.W.Frag) : Sp := mkSp (fun t : Nat => [isS, Is K t]) (fun t => 0 < t ∧ t < 1073741824) fun t A => ∃ r : Nat, r < t ∧ A = Is K r
/-- [left.pop(draw(stream, len(left))) for turn in range(len(left))], left a list of the frame's own -/
theorem ss_mixed {P : Post} {sp : Sp} {E : XK} {A1 : Fact} {ds : List PyData} (hsp : ∀ vs H Q E, spDraw K vs H Q E → sp vs H Q E) (hz : ds.length < 1000000) (k : ∀ es : List PyData, es.Perm ds → P.rt (isL K es)) :
    SS K (tRet (tLc (iRng1 (tCons (tCB (rLenA K) (tCons (tVar 2) tNil)) tNil)) (gName 3) tYes (tBM K "list" rPopAt (tVar 2) (tCons (tCall sp [] E (tCons (tVar 0) (tCons (tCB (rLenA K) (tCons (tVar 2) tNil)) tNil))) tNil)) [3])) [.fact isS, Slot.fact A1, .own ds, .no] P := fun D σ Ot Hf H e _ rt _ _ => by
  obtain ⟨pl, vs0, hs2, hpl, hvs0, nfl, nol⟩ := e.own 2 ds rfl
  obtain ⟨v0, hs0, ps, rfl, hps⟩ := e.at_ 0 isS rfl
  have hn0 := dpAll_len hvs0
  refine ⟨.ref pl, hs2, pl, vs0, rfl, .inl (.inl (.inl hpl)), (vs0.length : Int), rfl, by omega, by omega, ?_⟩
  rw [Int.toNat_natCast, hn0]
  intro Da hD
  have nDf : Hf Da = none := none_back e.hf hD
  have nDo : Ot Da = none := none_back e.ot hD
  have hDl : pl ≠ Da := ne_of_none hpl hD
  refine ⟨fun i m H' => ∃ Hf' rest us es, i + m = ds.length ∧ Sm Hf Hf' ∧ EnvD K [.fact isS, Slot.fact A1, .own rest, .no] σ Ot Hf' H' ∧ Hf' Da = none ∧ H' Da = some (.lst us) ∧ DpAll K Hf' us es ∧ es.length = i ∧ (es ++ rest).Perm ds,
    ⟨ds.length, Hf, ds, [], [], by omega, Sm.refl _, ?_, nDf, upd_same, .nil, rfl, List.Perm.refl _⟩, ?_⟩
  · exact (e.grow (Grow.newO (o := .lst []) e.hf hD))
  rintro i m H' ⟨Hf', rest, us, es, em, sm, e', nf, hp, hd, hl, pm⟩
  have hrl : rest.length = ds.length - i := by
    have := pm.length_eq
    rw [List.length_append, hl] at this
    omega
  by_cases hi : i < ds.length
  · refine .inr ⟨hi, fun H2 => ∃ Hf' rest us es, Sm Hf Hf' ∧ EnvD K [.fact isS, Slot.fact A1, .own rest, .no] σ Ot Hf' H2 ∧ Hf' Da = none ∧ H2 Da = some (.lst us) ∧ DpAll K Hf' us es ∧ es.length = i + 1 ∧ (es ++ rest).Perm ds,
      fun H2 ⟨Hf2, r2, us2, es2, a1, a2, a3, a4, a5, a6, a7⟩ => ⟨m - 1, by omega, Hf2, r2, us2, es2, by omega, a1, a2, a3, a4, a5, a6, a7⟩, fun x H2 y => ?_⟩
    obtain ⟨rfl, rfl⟩ := y
    show wipe ((wipe σ [3]).set 3 _) [3] = wipe σ [3] ∧ _
    refine ⟨(wipe_set (List.mem_singleton.mpr rfl)).trans (wipe_wipe [3] [3] fun _ z => z), ?_⟩
    have e2 : EnvD K [.fact isS, Slot.fact A1, .own rest, .fact (Is K i)] ((wipe σ [3]).set 3 (some (.int (0 + (i : Int))))) Ot Hf' H2 := (e'.wipe [3]).setF (i := 3) (A := Is K i) (by
      have : (0 : Int) + (i : Int) = (i : Int) := by omega
      rw [this]
      exact Dp.int _)
    obtain ⟨p', vs, hs2', hpl', hvs, nfl', _⟩ := e2.own 2 rest rfl
    obtain ⟨v0, hs0', q0, rfl, hps'⟩ := e2.at_ 0 isS rfl
    have epl : p' = pl := by
      obtain ⟨p2, _, h1, h2, _⟩ := e'.own 2 rest rfl
      have z : (wipe σ [3])[2]? = σ[2]? := by
        show (σ.set 3 none)[2]? = σ[2]?
        exact List.getElem?_set_ne (by decide)
      rw [List.getElem?_set_ne (by decide), z, hs2] at hs2'
      cases hs2'
      rfl
    subst epl
    have hvl := dpAll_len hvs
    show (tBM K "list" rPopAt (tVar 2) _) _ H2 _
    refine ⟨.ref p', hs2', .inl ⟨rfl, vs, .inl (.inl hpl')⟩, ?_⟩
    refine ⟨.ref q0, hs0', .ref p', hs2', p', vs, rfl, .inl (.inl (.inl hpl')), ?_⟩
    refine hsp _ _ _ _ ⟨rest.length, Hf', e'.hf, ⟨⟨q0, rfl, hps'⟩, ?_, trivial⟩, ⟨by omega, by omega⟩, fun v Hf3 H3 A g a ⟨r, hr, eA⟩ => ?_⟩
    · rw [hvl]
      exact Dp.int _
    subst eA
    obtain rfl := dp_int a
    have e3 := e2.grow g
    have e3' := e'.grow g
    obtain ⟨nf3, hp3⟩ := g.hold hp nf
    obtain ⟨nfl3, hpl3⟩ := g.hold hpl' nfl'
    have hd3 := dpAll_mono g.f _ _ hd
    have hvs3 := dpAll_mono g.f _ _ hvs
    have hr' : r < vs.length := by rw [hvl]; exact hr
    obtain ⟨d, hdd, hdp⟩ := dpAll_gets hvs3 (List.getElem?_eq_getElem hr')
    refine ⟨p', vs, (r : Int), r, vs[r], rfl, rfl, hpl3, by omega, by omega, ?_, List.getElem?_eq_getElem hr', ?_⟩
    · exact seqIndex_of (by omega) (by omega)
    refine ⟨us, by rw [upd_ne (Ne.symm hDl)]; exact hp3, ?_, Hf3, rest.eraseIdx r, us ++ [vs[r]], es ++ [d], sm.trans g.f, ?_, nf3, upd_same, dpAll_app hd3 (.cons hdp .nil), by rw [List.length_append, hl]; rfl, ?_⟩
    · rw [dpAll_len hd3]
      have : (1000000 : Nat) ≤ sizeLine := by decide
      omega
    · have er : DpAll K Hf3 (vs.eraseIdx r) (rest.eraseIdx r) := by
        rw [List.eraseIdx_eq_take_drop_succ, List.eraseIdx_eq_take_drop_succ]
        exact dpAll_app (dpAll_take r hvs3) (dpAll_drop (r + 1) hvs3)
      have e4 := e3'.chg (i := 2) rfl hs2 er
      refine ⟨e4.len, fun a o h => ?_, fun a o h => ?_, e4.dj, e4.at_, fun j fs hj => ?_, e4.sep⟩
      · rw [upd_ne (ne_of_none h nf3)]
        exact e4.hf a o h
      · rw [upd_ne (ne_of_none h nDo)]
        exact e4.ot a o h
      · obtain ⟨p2, ws, q1, q2, q3, q4, q5⟩ := e4.own j fs hj
        refine ⟨p2, ws, q1, ?_, q3, q4, q5⟩
        rw [upd_ne ?_]
        · exact q2
        · have hj2 : j = 2 := by
            match j, hj with
            | 0, hj => cases hj
            | 1, hj => cases hj
            | 2, _ => rfl
            | 3, hj => cases hj
            | j + 4, hj => cases hj
          subst hj2
          rw [hs2] at q1
          cases q1
          exact hDl
    · rw [List.append_assoc]
      refine List.Perm.trans (List.Perm.append_left es ?_) pm
      have hrr : r < rest.length := hr
      have ed : rest[r]? = some d := hdd
      obtain ⟨hlt, ed'⟩ := List.getElem?_eq_some_iff.mp ed
      rw [List.singleton_append, ← ed']
      exact erase_perm hlt
  · have ei : i = ds.length := by omega
    subst ei
    have hr0 : rest = [] := List.eq_nil_of_length_eq_zero (by omega)
    subst hr0
    rw [List.append_nil] at pm
    have sm2 : Sm Hf' (upd Hf' Da (.lst us)) := sm_new nf
    refine .inl ⟨Nat.le_refl _, rt (.ref Da) (upd Hf' Da (.lst us)) H' (isL K es) (sm.trans sm2) (fun a u z => ?_) e'.ot (fun a o z => ?_) ⟨Da, us, rfl, upd_same, dpAll_mono sm2 _ _ hd⟩ (k es pm)⟩
    · by_cases w : a = Da
      · subst w
        rw [upd_same] at z
        cases z
        exact hp
      · rw [upd_ne w] at z
        exact e'.hf a u z
    · rw [upd_ne (ne_of_none z nDo)]
      exact e'.dj a o z
end
end DL
/-! K89l: the program's defs, further. -/
namespace K89
open PySem PySem.Spec PyProof.Rows L2 DL
section
variable {P : Program} {w : World} {K : PySem.W.Frag} {mg : PySem.Str → Option Value} {base : Heap}
local macro_rules | `(tactic| walk_at "dl") => `(tactic| first
  | with_reducible refine ss_ret ?_ | with_reducible refine ss_seq ?_ | with_reducible refine ss_if ?_ | with_reducible refine ss_next ?_ | with_reducible refine ss_retN ?_
  | refine w_var (by rfl) ?_ | with_reducible refine w_lit ?_ | with_reducible refine w_bl ?_ | with_reducible refine w_non ?_ | with_reducible refine w_str ?_ | with_reducible refine w_val ?_
  | with_reducible refine w_op ?_ | with_reducible refine w_cb ?_ | with_reducible refine w_call ?_ | with_reducible refine wa_cons ?_ | with_reducible refine wa_nil ?_
  | with_reducible refine wt_test ?_ | with_reducible refine wt_B ?_ | with_reducible refine wt_not ?_ | with_reducible refine wt_yes ?_ | with_reducible refine wt_and ?_ | with_reducible refine wt_or ?_
  | with_reducible refine w_andV ?_ | with_reducible refine w_orV ?_ | with_reducible refine w_notV ?_ | with_reducible refine w_if ?_ | with_reducible refine w_chain ?_
  | with_reducible refine wo_none ?_ | with_reducible refine wo_some ?_
  | with_reducible refine r_eq ?_ | with_reducible refine r_ne ?_ | with_reducible refine r_lt ?_ | with_reducible refine r_add ?_ | with_reducible refine r_and ?_ | with_reducible refine r_shr ?_ | with_reducible refine r_ltn ?_ | with_reducible refine r_gtn ?_ | with_reducible refine r_len ?_
  | with_reducible refine r_inT ?_ | with_reducible refine r_notInT ?_ | with_reducible refine r_inL ?_
  | with_reducible refine c_lenT ?_ | with_reducible refine c_lenP ?_ | with_reducible refine r_fst ?_ | with_reducible refine r_snd ?_ | with_reducible refine g_name ?_ | with_reducible refine g_pair ?_ | with_reducible refine gs_name ?_ | with_reducible refine gs_nil ?_)
theorem ite_in {b : Bool} {p q : Prop} (h1 : b = true → p) (h2 : b = false → q) : if b = true then p else q := by
  cases b with
  | true => exact h1 rfl
  | false => exact h2 rfl
theorem ix3 {H : Hp} {p : Addr} {a b c : Int} {Q : VK} (i : Nat) {v : Int} (h : H p = some (three a b c)) (hv : ([a, b, c] : List Int)[i]? = some v) (q : Q (.int v) H) : rIx K (.ref p) (.int (i : Int)) H Q :=
  .inl ⟨p, [.int a, .int b, .int c], _, .int v, rfl, rfl, .inl (.inl h), atI_nat (j := i) (by
    match i, hv with
    | 0, hv => cases hv; rfl
    | 1, hv => cases hv; rfl
    | 2, hv => cases hv; rfl
    | i + 3, hv => cases hv), q⟩
theorem cm_mod {x j m : Int} (h : 0 < m) (h2 : m < 18446744073709551616) : CMul (x % m) j := by
  have h3 := Int.emod_nonneg x (by omega : m ≠ 0)
  have h4 := Int.emod_lt_of_pos x h
  exact .inl ⟨by omega, by omega⟩
def sp__law_draw (K : PySem.W.Frag) : Sp := spDraw K
theorem d__law_draw (T : TF K mg) : Has P w K mg base CX0 1 "_law_draw" ["stream", "total"] (sp__law_draw K) := by
  obtain ⟨f, fd, F, hm, hb⟩ := T.d__law_draw
  refine fn_facts F sc__law_draw hm hb (fun _ => by first | rfl | (split <;> rfl)) fun cdv A outer s H E hr hgd => ?_
  have S := sc__law_draw
  refine ⟨tGhost 0 (tSeq (tIfS (tTest (tOp (rI0 fun i j => .bl (decide (j < i))) (tOp (rIx K) (tVar 0) (tC (.int 0))) (tC (.int 0)))) (tSeq (tAsg (tOp (rI (fun _ j => 0 < j) fun i j => .int (i % j)) (tOp (rIx K) (tVar 0) (tC (.int 0))) (tVar 1)) (gName 2)) (tSeq _ (tRet (tVar 2)))) tNext) (tSeq _ (tSeq (tAsg (tOp (rI (fun _ j => 0 < j) fun i j => .int (i % j)) (tOp (rI0 fun i j => .int (i + j)) (tOp (rIx K) (tVar 0) (tC (.int 1))) (tOp (rI CMul fun i j => .int (i * j)) (tC (.int 2654435761)) (tOp (rIx K) (tVar 0) (tC (.int 2))))) (tC (.int 4294967279))) (gName 3)) (tSeq (tAsg (tOp (rI0 fun i j => .int (i + j)) (tOp (rI CMul fun i j => .int (i * j)) (tOp (rI (fun _ j => 0 < j) fun i j => .int (i % j)) (tOp (rI CMul fun i j => .int (i * j)) (tVar 3) (tVar 3)) (tC (.int 4294967231))) (tVar 3)) (tOp (rI CMul fun i j => .int (i * j)) (tC (.int 40503)) (tOp (rIx K) (tVar 0) (tC (.int 2))))) (gName 4)) (tSeq (tAsg (tOp (rI (fun _ j => 0 < j) fun i j => .int (i % j)) (tOp (rI0 fun i j => .int (i + j)) (tVar 4) (tOp (rI (fun _ j => 0 < j) fun i j => .int (i % j)) (tOp (rIx K) (tVar 0) (tC (.int 1))) (tC (.int 65521)))) (tC (.int 4294967197))) (gName 5)) (tRet (tOp (rI (fun _ j => 0 < j) fun i j => .int (i % j)) (tOp (rI CDiv fun i j => .int (i / j)) (tOp (rI (fun _ j => 0 < j) fun i j => .int (i % j)) (tOp (rI CMul fun i j => .int (i * j)) (tVar 5) (tVar 5)) (tC (.int 4294967189))) (tC (.int 256))) (tVar 1)))))))), pss_ghost (pss_cons (ps_if (pt_cmpR op_gt (pe_ix ix_seq (pv 0) pe_int (fun _ _ => rfl)) pe_int (nomark _)) (pss_cons (ps_set (i := 2) S.nd rfl (by first | exact Or.inl rfl | exact Or.inr rfl) (pe_op op_mod (pe_ix ix_seq (pv 0) pe_int (fun _ _ => rfl)) (pv 1))) (pss_cons (ps_asg (pe_op op_fdiv (pe_ix ix_seq (pv 0) pe_int (fun _ _ => rfl)) (pv 1)) (pg_sub (pv 0) pe_int set_list)) (pss_one (ps_ret (pv 2))))) pss_nil) (pss_cons (ps_asg (pe_op op_add (pe_ix ix_seq (pv 0) pe_int (fun _ _ => rfl)) pe_int) (pg_sub (pv 0) pe_int set_list)) (pss_cons (ps_set (i := 3) S.nd rfl (by first | exact Or.inl rfl | exact Or.inr rfl) (pe_op op_mod (pe_op op_add (pe_ix ix_seq (pv 0) pe_int (fun _ _ => rfl)) (pe_op op_mul pe_int (pe_ix ix_seq (pv 0) pe_int (fun _ _ => rfl)))) pe_int)) (pss_cons (ps_set (i := 4) S.nd rfl (by first | exact Or.inl rfl | exact Or.inr rfl) (pe_op op_add (pe_op op_mul (pe_op op_mod (pe_op op_mul (pv 3) (pv 3)) pe_int) (pv 3)) (pe_op op_mul pe_int (pe_ix ix_seq (pv 0) pe_int (fun _ _ => rfl))))) (pss_cons (ps_set (i := 5) S.nd rfl (by first | exact Or.inl rfl | exact Or.inr rfl) (pe_op op_mod (pe_op op_add (pv 4) (pe_op op_mod (pe_ix ix_seq (pv 0) pe_int (fun _ _ => rfl)) pe_int)) pe_int)) (pss_one (ps_ret (pe_op op_mod (pe_op op_fdiv (pe_op op_mod (pe_op op_mul (pv 5) (pv 5)) pe_int) pe_int) (pv 1))))))))), ?_⟩
  rintro n ⟨h0, hn⟩ D σ Ot Hf H e nx rt _ _
  obtain ⟨v0, hs0, p, rfl, hp⟩ := e.at_ 0 isS rfl
  obtain ⟨v1, hs1, h1⟩ := e.at_ 1 (Is K n) rfl
  obtain rfl := dp_int h1
  have hl := e.len
  have hb : (0 : Int) < (n : Int) ∧ (n : Int) < 1073741824 := by omega
  have rt' : ∀ v : V, (∃ i : Int, v = .int (i % (n : Int))) → D.rt v H := fun v ⟨i, ev⟩ => by
    subst ev
    have hi := Int.emod_nonneg i (by omega : (n : Int) ≠ 0)
    have hi2 := Int.emod_lt_of_pos i hb.1
    refine rt _ Hf H (Is K (i % (n : Int)).toNat) (Sm.refl _) e.hf e.ot e.dj ?_ ⟨_, by omega, rfl⟩
    show Dp K Hf (.int (i % (n : Int))) (.int (((i % (n : Int)).toNat : Nat) : Int))
    rw [Int.toNat_of_nonneg hi]
    exact Dp.int _
  have hpH := e.hf p _ hp
  match σ, hs0, hs1, hl with
  | [_, _, x2, x3, x4, x5], hs0, hs1, _ =>
    obtain rfl := Option.some.inj hs0
    obtain rfl := Option.some.inj hs1
    refine ⟨p, rfl, hpH, fun a b c => ?_⟩
    have back : ∀ a b c, upd (upd H p (three a b c)) p (StreamO p) = H := fun a b c => by rw [DL.upd_upd]; exact upd_self hpH
    refine ⟨.ref p, rfl, ix3 0 upd_same rfl ⟨a, 0, rfl, rfl, _, rfl, ?_⟩⟩
    refine ite_in (fun _ => ?_) (fun _ => ?_)
    · refine ⟨.ref p, rfl, ix3 0 upd_same rfl ⟨.int n, rfl, a, n, rfl, rfl, hb.1, ?_⟩⟩
      refine ⟨.ref p, rfl, ix3 0 upd_same rfl ⟨.int n, rfl, a, n, rfl, rfl, hb, ?_⟩⟩
      refine ⟨.ref p, rfl, p, _, 0, 0, rfl, rfl, upd_same, rfl, ?_⟩
      rw [DL.upd_upd]
      refine ⟨.int (a % n), rfl, a / n, b, c, upd_same, ?_⟩
      show D.rt _ (upd (upd H p (three (a / n) b c)) p (StreamO p))
      rw [back]
      exact rt' _ ⟨a, rfl⟩
    · refine ⟨.ref p, rfl, ix3 2 upd_same rfl ⟨c, 1, rfl, rfl, ?_⟩⟩
      refine ⟨.ref p, rfl, p, _, 2, 2, rfl, rfl, upd_same, rfl, ?_⟩
      rw [DL.upd_upd]
      refine ⟨.ref p, rfl, ix3 1 (b := b) (c := c + 1) upd_same rfl ⟨.ref p, rfl, ix3 2 (b := b) (c := c + 1) upd_same rfl ⟨2654435761, c + 1, rfl, rfl, .inl (by decide), ⟨_, _, rfl, rfl, ⟨_, _, rfl, rfl, (show (0 : Int) < 4294967279 by decide), ?_⟩⟩⟩⟩⟩
      refine ⟨_, rfl, _, rfl, _, _, rfl, rfl, cm_mod (by decide) (by decide), ⟨_, _, rfl, rfl, (show (0 : Int) < 4294967231 by decide), ⟨_, rfl, _, _, rfl, rfl, cm_mod (by decide) (by decide), ?_⟩⟩⟩
      refine ⟨.ref p, rfl, ix3 2 (b := b) (c := c + 1) upd_same rfl ⟨_, _, rfl, rfl, .inl (by decide), ⟨_, _, rfl, rfl, ?_⟩⟩⟩
      refine ⟨_, rfl, .ref p, rfl, ix3 1 (b := b) (c := c + 1) upd_same rfl ⟨_, _, rfl, rfl, (show (0 : Int) < 65521 by decide), ⟨_, _, rfl, rfl, ⟨_, _, rfl, rfl, (show (0 : Int) < 4294967197 by decide), ?_⟩⟩⟩⟩
      refine ⟨_, rfl, _, rfl, _, _, rfl, rfl, cm_mod (by decide) (by decide), ⟨_, _, rfl, rfl, (show (0 : Int) < 4294967189 by decide), ⟨_, _, rfl, rfl, (show (0 : Int) < 256 ∧ (256 : Int) < 1073741824 by decide), ⟨_, rfl, _, _, rfl, rfl, hb.1, ?_⟩⟩⟩⟩
      refine ⟨a, b, c + 1, upd_same, ?_⟩
      show D.rt _ (upd (upd H p (three a b (c + 1))) p (StreamO p))
      rw [back]
      exact rt' _ ⟨_, rfl⟩
theorem cm_r {i j : Int} (h : -18446744073709551616 < j ∧ j < 18446744073709551616) : CMul i j := .inr h
theorem cm_l {i j : Int} (h : -18446744073709551616 < i ∧ i < 18446744073709551616) : CMul i j := .inl h
def sp__law_stream (K : PySem.W.Frag) : Sp := mkSp (fun t : PL Int × Nat => [Is K t.1, Is K t.2]) (fun t => t.1.l.length ≤ 10000000 ∧ t.2 ≤ 1000) fun t A => A = isS
theorem d__law_stream (T : TF K mg) : Has P w K mg base CX0 1 "_law_stream" ["script", "at"] (sp__law_stream K) := by
  obtain ⟨f, fd, F, hm, hb⟩ := T.d__law_stream
  refine fn_facts F sc__law_stream hm hb (fun _ => by first | rfl | (split <;> rfl)) fun cdv A outer s H E hr hgd => ?_
  have S := sc__law_stream
  refine ⟨(tSeq (tAsg (tOp (rI0 fun i j => .int (i + j)) (tOp (rI CMul fun i j => .int (i * j)) (tC (.int 5)) (tVar 1)) (tC (.int 3))) (gName 2)) (tSeq (tIfS (tTest (tOp (rI0 fun i j => .bl (decide (i < j))) (tVar 1) (tCB (rLenA K) (tCons (tVar 0) tNil)))) (tAsg (tOp (rIx K) (tVar 0) (tVar 1)) (gName 2)) tNext) (tSeq (tAsg (tOp (rI (fun _ j => 0 < j) fun i j => .int (i % j)) (tCB rAbsA (tCons (tVar 2) tNil)) (tOp (rI CPowW fun i j => .int (i ^ j.toNat)) (tOp (rI CPow fun i j => .int (i ^ j.toNat)) (tC (.int 10)) (tC (.int 60))) (tC (.int 12)))) (gName 3)) (tSeq (tAsg (tOp (rI (fun _ j => 0 < j) fun i j => .int (i % j)) (tOp (rI0 fun i j => .int (i + j)) (tOp (rI0 fun i j => .int (i + j)) (tOp (rI0 fun i j => .int (i + j)) (tOp (rI CMul fun i j => .int (i * j)) (tVar 3) (tC (.int 6364136223))) (tOp (rI CMul fun i j => .int (i * j)) (tC (.int 1597334677)) (tVar 1))) (tOp (rI CMul fun i j => .int (i * j)) (tC (.int 7)) (tCB rIntA (tCons (tOp (rI0 fun i j => .bl (decide (i < j))) (tVar 2) (tC (.int 0))) tNil)))) (tC (.int 11))) (tC (.int 4294967291))) (gName 4)) (tRet (tToS <| tLst (tCons (tCB rMaxA (tCons (tC (.int 0)) (tCons (tOp (rI0 fun i j => .int (i + j)) (tOp (rI0 fun i j => .int (i - j)) (tVar 3) (tOp (rI CPow fun i j => .int (i ^ j.toNat)) (tC (.int 10)) (tC (.int 18)))) (tC (.int 1))) tNil))) (tCons (tVar 4) (tCons (tC (.int 0)) tNil))))))))), (pss_cons (ps_set (i := 2) S.nd rfl (by first | exact Or.inl rfl | exact Or.inr rfl) (pe_op op_add (pe_op op_mul pe_int (pv 1)) pe_int)) (pss_cons (ps_if (pt_cmpR op_lt (pv 1) (pe_callB call_len_seq (by rfl) T.n_len bt_len (pa_cons (pv 0) pa_nil)) (nomark _)) (pss_one (ps_set (i := 2) S.nd rfl (by first | exact Or.inl rfl | exact Or.inr rfl) (pe_ix ix_seq (pv 0) (pv 1) (fun _ _ => rfl)))) pss_nil) (pss_cons (ps_set (i := 3) S.nd rfl (by first | exact Or.inl rfl | exact Or.inr rfl) (pe_op op_mod (pe_callB call_abs (by rfl) T.n_abs bt_abs (pa_cons (pv 2) pa_nil)) (pe_op op_powW (pe_op op_pow pe_int pe_int) pe_int))) (pss_cons (ps_set (i := 4) S.nd rfl (by first | exact Or.inl rfl | exact Or.inr rfl) (pe_op op_mod (pe_op op_add (pe_op op_add (pe_op op_add (pe_op op_mul (pv 3) pe_int) (pe_op op_mul pe_int (pv 1))) (pe_op op_mul pe_int (pe_callTy call_int1 (by rfl) T.n_int bt_int (pa_cons (pe_cmpR op_lt (pv 2) pe_int (nomark _)) pa_nil)))) pe_int) pe_int)) (pss_one (ps_ret (pe_toS <| pe_lst (pa_cons (pe_callB (call_max2 (by rfl)) (by rfl) T.n_max bt_max (pa_cons pe_int (pa_cons (pe_op op_add (pe_op op_sub (pv 3) (pe_op op_pow pe_int pe_int)) pe_int) pa_nil))) (pa_cons (pv 4) (pa_cons pe_int pa_nil)))))))))), ?_⟩
  rintro ⟨⟨sc⟩, at_⟩ ⟨h1, h2⟩
  dsimp only at h1 h2
  refine ss_seq (ss_set (w_op ?_))
  repeat walk_at "dl"
  refine ri_mul (cm_l (by decide)) ?_
  repeat walk_at "dl"
  refine ri_add ?_
  refine ss_cut (fun ρ' => ∃ cell : Int, ρ' = [.fact (Is K (PL.mk sc)), .fact (Is K at_), .fact (Is K cell), .no, .no]) ?_ ?_
  · repeat walk_at "dl"
    refine c_lenL (Le.refl _) ?_
    repeat walk_at "dl"
    refine is_x ⟨fun h => ?_, fun h => ?_⟩
    · refine ss_set ?_
      repeat walk_at "dl"
      exact r_ixL (Le.refl _) (List.getElem?_eq_getElem (of_decide_eq_true h)) ⟨_, rfl⟩
    · repeat walk_at "dl"
      exact ⟨_, rfl⟩
  rintro ρ' ⟨cell, rfl⟩
  refine ss_seq (ss_set ?_)
  repeat walk_at "dl"
  refine c_abs ?_
  repeat walk_at "dl"
  refine ri_pow ⟨by decide, by decide, by decide⟩ ?_
  repeat walk_at "dl"
  refine ri_powW ⟨by decide, by decide +kernel⟩ ?_
  repeat walk_at "dl"
  refine ri_mod (by decide +kernel) ?_
  refine ss_seq (ss_set ?_)
  repeat walk_at "dl"
  refine ri_mul (cm_r (by decide)) ?_
  repeat walk_at "dl"
  refine ri_mul (cm_l (by decide)) ?_
  refine ri_add ?_
  repeat walk_at "dl"
  refine ri_lt ?_
  repeat walk_at "dl"
  refine c_intB ?_
  refine ri_mul (cm_l (by decide)) ?_
  refine ri_add ?_
  repeat walk_at "dl"
  refine ri_add ?_
  repeat walk_at "dl"
  refine ri_mod (by decide) ?_
  repeat walk_at "dl"
  refine w_toS (wn_lst ?_)
  repeat walk_at "dl"
  refine ri_pow ⟨by decide, by decide, by decide⟩ ?_
  refine ri_sub ?_
  repeat walk_at "dl"
  refine ri_add ?_
  repeat walk_at "dl"
  refine c_max ?_
  repeat walk_at "dl"
  exact ⟨[_, _, _], ⟨Le.refl _, Le.refl _, Le.refl _, trivial⟩, by show 3 ≤ 1000; decide, ⟨_, _, _, rfl⟩, rfl⟩
end
end K89
/-! K89m: the program's defs, further. -/
namespace K89
open PySem PySem.Spec PyProof.Rows L2 DL
section
variable {P : Program} {w : World} {K : PySem.W.Frag} {mg : PySem.Str → Option Value} {base : Heap}
local macro_rules | `(tactic| walk_at "dl") => `(tactic| first
  | with_reducible refine ss_ret ?_ | with_reducible refine ss_seq ?_ | with_reducible refine ss_if ?_ | with_reducible refine ss_next ?_ | with_reducible refine ss_retN ?_
  | refine w_var (by rfl) ?_ | with_reducible refine w_lit ?_ | with_reducible refine w_bl ?_ | with_reducible refine w_non ?_ | with_reducible refine w_str ?_ | with_reducible refine w_val ?_
  | with_reducible refine w_op ?_ | with_reducible refine w_cb ?_ | with_reducible refine w_call ?_ | with_reducible refine wa_cons ?_ | with_reducible refine wa_nil ?_
  | with_reducible refine wt_test ?_ | with_reducible refine wt_B ?_ | with_reducible refine wt_not ?_ | with_reducible refine wt_yes ?_ | with_reducible refine wt_and ?_ | with_reducible refine wt_or ?_
  | with_reducible refine w_andV ?_ | with_reducible refine w_orV ?_ | with_reducible refine w_notV ?_ | with_reducible refine w_if ?_ | with_reducible refine w_chain ?_
  | with_reducible refine wo_none ?_ | with_reducible refine wo_some ?_
  | with_reducible refine r_eq ?_ | with_reducible refine r_ne ?_ | with_reducible refine r_lt ?_ | with_reducible refine r_add ?_ | with_reducible refine r_and ?_ | with_reducible refine r_shr ?_ | with_reducible refine r_ltn ?_ | with_reducible refine r_gtn ?_ | with_reducible refine r_len ?_
  | with_reducible refine r_inT ?_ | with_reducible refine r_notInT ?_ | with_reducible refine r_inL ?_
  | with_reducible refine c_lenT ?_ | with_reducible refine c_lenP ?_ | with_reducible refine r_fst ?_ | with_reducible refine r_snd ?_ | with_reducible refine g_name ?_ | with_reducible refine g_pair ?_ | with_reducible refine gs_name ?_ | with_reducible refine gs_nil ?_)
theorem c_draw {E : XK} {n : Nat} {𝒜 : Fact → Prop} (h : 0 < n ∧ n < 1073741824) (k : ∀ r : Nat, r < n → 𝒜 (Is K r)) : C (fun vs H Q => sp__law_draw K (vs ++ []) H Q E) [isS, Is K n] 𝒜 :=
  c_mk (E := E) n h fun A ⟨r, hr, e⟩ => by
    subst e
    exact k r hr
def sp__law_pick (K : PySem.W.Frag) : Sp := mkSp (fun t : List PyData => [isS, isD K (.list t)]) (fun t => 0 < t.length ∧ t.length ≤ 1000000) fun t A => ∃ d ∈ t, A = isD K d
theorem c_lenD {ds : List PyData} {A : Fact} {𝒜 : Fact → Prop} (l : Le A (isD K (.list ds))) (k : 𝒜 (Is K ds.length)) : C (rLenA K) [A] 𝒜 := fun vs Hf H Q s as q => by
  obtain ⟨v, rfl, a⟩ := all1 as
  obtain ⟨p, us, rfl, h1, h2⟩ := dp_lst (l _ _ a)
  refine ⟨p, us, rfl, .inl (same_l s h1), q _ Hf H (Is K ds.length) (Grow.refl s) ?_ k⟩
  rw [dpAll_len h2]
  exact Dp.int _
theorem r_ixD {ds : List PyData} {i : Nat} {d : PyData} {A : Fact} {𝒜 : Fact → Prop} (l : Le A (isD K (.list ds))) (h : ds[i]? = some d) (k : 𝒜 (isD K d)) : R (rIx K) A (Is K i) 𝒜 := fun v w Hf H Q s a b q => by
  obtain ⟨p, ys, rfl, h1, h2⟩ := dp_lst (l _ _ a)
  obtain rfl := dp_int b
  obtain ⟨u, h3, h4⟩ := dpAll_get h2 h
  exact .inl ⟨p, ys, _, u, rfl, rfl, same_l s h1, atI_nat h3, q u Hf H (isD K d) (Grow.refl s) h4 k⟩
theorem d__law_pick (T : TF K mg) (h__law_draw : Has P w K mg base CX0 1 "_law_draw" ["stream", "total"] (sp__law_draw K)) : Has P w K mg base CX0 2 "_law_pick" ["stream", "items"] (sp__law_pick K) := by
  obtain ⟨f, fd, F, hm, hb⟩ := T.d__law_pick
  refine fn_facts F sc__law_pick hm hb (fun _ => by first | rfl | (split <;> rfl)) fun cdv A outer s H E hr hgd => ?_
  have S := sc__law_pick
  refine ⟨(tRet (tOp (rIx K) (tVar 1) (tCall (sp__law_draw K) [] E0 (tCons (tVar 0) (tCons (tCB (rLenA K) (tCons (tVar 1) tNil)) tNil))))), (pss_one (ps_ret (pe_ix ix_seq (pv 1) (pc (E := E0) (h__law_draw.mono (by decide)) hr hgd (by rfl) pass0 (pa_cons (pv 0) (pa_cons (pe_callB call_len_seq (by rfl) T.n_len bt_len (pa_cons (pv 1) pa_nil)) pa_nil))) (fun _ _ => rfl)))), ?_⟩
  rintro ds ⟨h1, h2⟩
  repeat walk_at "dl"
  refine c_lenD (Le.refl _) ?_
  repeat walk_at "dl"
  refine c_draw ⟨h1, by omega⟩ fun r hr => ?_
  refine r_ixD (Le.refl _) (List.getElem?_eq_getElem hr) ⟨_, List.getElem_mem hr, rfl⟩
def sp__law_mixed (K : PySem.W.Frag) : Sp := mkSp (fun t : List PyData => [isS, isD K (.list t)]) (fun t => t.length < 1000000) fun t A => ∃ es : List PyData, es.Perm t ∧ A = isL K es
theorem d__law_mixed (T : TF K mg) (h__law_draw : Has P w K mg base CX0 1 "_law_draw" ["stream", "total"] (sp__law_draw K)) : Has P w K mg base CX0 2 "_law_mixed" ["stream", "items"] (sp__law_mixed K) := by
  obtain ⟨f, fd, F, hm, hb⟩ := T.d__law_mixed
  refine fn_facts F sc__law_mixed hm hb (fun _ => by first | rfl | (split <;> rfl)) fun cdv A outer s H E hr hgd => ?_
  have S := sc__law_mixed
  refine ⟨(tSeq (tAsg (tCB (rListA K) (tCons (tVar 1) tNil)) (gName 2)) (tRet (tLc (iRng1 (tCons (tCB (rLenA K) (tCons (tVar 2) tNil)) tNil)) (gName 3) tYes (tBM K "list" rPopAt (tVar 2) (tCons (tCall (sp__law_draw K) [] E0 (tCons (tVar 0) (tCons (tCB (rLenA K) (tCons (tVar 2) tNil)) tNil))) tNil)) [3]))), (pss_cons (ps_set (i := 2) S.nd rfl (by first | exact Or.inl rfl | exact Or.inr rfl) (pe_callTy call_list_of (by rfl) T.n_list bt_list (pa_cons (pv 1) pa_nil))) (pss_one (ps_ret (pe_lc (own := [("turn", 3)]) (g := (gName 3)) (tt := tYes) (te := (tBM K "list" rPopAt (tVar 2) (tCons (tCall (sp__law_draw K) [] E0 (tCons (tVar 0) (tCons (tCB (rLenA K) (tCons (tVar 2) tNil)) tNil))) tNil))) (by rfl) S.nd (pi_range1 (by rfl) T.n_range (pa_cons (pe_callB call_len_seq (by rfl) T.n_len bt_len (pa_cons (pv 2) pa_nil)) pa_nil)) (blkOk_by (by rfl)) (fun _ _ _ _ _ => (pg_name (i := 3) S.nd rfl (by first | exact Or.inl rfl | exact Or.inr rfl))) (fun _ _ _ _ _ => pts_nil) (fun _ _ _ _ _ => (pe_bm PySem.F.plainAttrs_list PySem.F.slot_list_pop PySem.F.type_list_pop mt_popAt (pv 2) (pa_cons (pc (E := E0) (h__law_draw.mono (by decide)) hr hgd (by rfl) pass0 (pa_cons (pv 0) (pa_cons (pe_callB call_len_seq (by rfl) T.n_len bt_len (pa_cons (pv 2) pa_nil)) pa_nil))) pa_nil))))))), ?_⟩
  rintro ds hz
  have hz : ds.length < 1000000 := hz
  refine ss_seq (ss_own (wn_cb ?_))
  repeat walk_at "dl"
  refine cn_listL (Le.refl _) ?_
  exact ss_mixed (sp := sp__law_draw K) (fun _ _ _ _ h => h) hz fun es pm => ⟨es, pm, rfl⟩
def sp__law_row (K : PySem.W.Frag) : Sp := mkSp (fun n : Nat => [isS, Is K n]) (fun n => n ≤ 7) fun n A => ∃ r : Row, OkRow n r ∧ A = Is K r
theorem d__law_row (T : TF K mg) (h__law_draw : Has P w K mg base CX0 1 "_law_draw" ["stream", "total"] (sp__law_draw K)) : Has P w K mg base CX0 2 "_law_row" ["stream", "size"] (sp__law_row K) := by
  obtain ⟨f, fd, F, hm, hb⟩ := T.d__law_row
  refine fn_facts F sc__law_row hm hb (fun _ => by first | rfl | (split <;> rfl)) fun cdv A outer s H E hr hgd => ?_
  have S := sc__law_row
  refine ⟨(tRet (tCB (rTupA K) (tCons (tLc (iRng1 (tCons (tVar 1) tNil)) (gName 2) tYes (tCall (sp__law_draw K) [] E0 (tCons (tVar 0) (tCons (tC (.int 2)) tNil))) [2]) tNil))), (pss_one (ps_ret (pe_callTy call_tuple_of (by rfl) T.n_tuple bt_tuple (pa_cons (pe_lc (own := [("key", 2)]) (g := (gName 2)) (tt := tYes) (te := (tCall (sp__law_draw K) [] E0 (tCons (tVar 0) (tCons (tC (.int 2)) tNil)))) (by rfl) S.nd (pi_range1 (by rfl) T.n_range (pa_cons (pv 1) pa_nil)) (blkOk_by (by rfl)) (fun _ _ _ _ _ => (pg_name (i := 2) S.nd rfl (by first | exact Or.inl rfl | exact Or.inr rfl))) (fun _ _ _ _ _ => pts_nil) (fun _ _ _ _ _ => (pc (E := E0) (h__law_draw.mono (by decide)) hr hgd (by rfl) pass0 (pa_cons (pv 0) (pa_cons pe_int pa_nil))))) pa_nil)))), ?_⟩
  rintro n h7
  have h7 : n ≤ 7 := h7
  repeat walk_at "dl"
  refine w_new (wn_rel (β := Nat) (js := [2]) (by decide) (wx_range ?_))
  repeat walk_at "dl"
  refine ⟨_, n, rfl, Le.refl _, Nat.le_trans h7 (by decide), fun pre ys => ys.length = pre.length ∧ ∀ b ∈ ys, b ≤ 1, ⟨rfl, fun _ z => by cases z⟩, fun pre x ys hx hp _ iv => ?_, fun ys _ iv => ?_⟩
  · repeat walk_at "dl"
    refine ⟨fun _ => ?_, fun z => by cases z⟩
    repeat walk_at "dl"
    refine c_draw (n := 2) ⟨by decide, by decide⟩ fun r hr => ?_
    refine ⟨r, Le.refl _, by rw [List.length_append, List.length_append, iv.1]; rfl, fun b hb => ?_⟩
    rcases List.mem_append.mp hb with z | z
    · exact iv.2 b z
    · rw [List.mem_singleton.mp z]; omega
  · repeat walk_at "dl"
    refine c_tup le_l ⟨ys, ⟨?_, iv.2⟩, rfl⟩
    rw [iv.1, List.length_range]
end
end K89
/-! DLr: the order of lists; a set of tuples of ints, sorted; list(range(n)); the items of drawn lists, typed. -/
namespace DL
open PySem PySem.Spec PyProof.Rows L2
theorem lt_cons {α : Type} [Enc α] [Alk α] [EqvL α] [DecidableEq α] (x y : α) (xs ys : List α) : lt (x :: xs) (y :: ys) = if x = y then lt xs ys else lt x y := by
  show PySem.W.dataLt (.tuple (Enc.enc x :: xs.map Enc.enc)) (.tuple (Enc.enc y :: ys.map Enc.enc)) = if x = y then PySem.W.dataLt (.tuple _) (.tuple _) else PySem.W.dataLt _ _
  rw [PySem.W.dataLt_tuple, PySem.W.dataLt_cons (Alk.alk x y), eqv_dec, PySem.W.dataLt_tuple]
  by_cases h : x = y
  · rw [if_pos h, if_pos (decide_eq_true h)]
  · rw [if_neg h, if_neg (by rw [decide_eq_false h]; exact Bool.false_ne_true)]
def ofN (r : List Nat) : List Int := r.map fun n : Nat => (n : Int)
theorem ofN_inj {r q : List Nat} (h : ofN r = ofN q) : r = q := by
  induction r generalizing q with
  | nil => cases q with | nil => rfl | cons _ _ => cases h
  | cons a r ih =>
    cases q with
    | nil => cases h
    | cons b q =>
      have h1 : (a : Int) = (b : Int) := (List.cons.inj h).1
      have h2 : ofN r = ofN q := (List.cons.inj h).2
      have h3 : a = b := by omega
      rw [ih h2, h3]
theorem bd2 {r : List Nat} (h : ∀ b ∈ r, b ≤ 1) : TS.Bd 2 (ofN r) := fun m hm => by
  obtain ⟨b, hb, rfl⟩ := List.mem_map.mp hm
  have := h b hb
  omega
theorem lt_of_code : ∀ {r q : List Nat}, r.length = q.length → (∀ b ∈ r, b ≤ 1) → (∀ b ∈ q, b ≤ 1) → TS.code 2 (ofN r) ≤ TS.code 2 (ofN q) → r ≠ q → lt r q = true
  | [], [], _, _, _, _, ne => absurd rfl ne
  | [], _ :: _, h, _, _, _, _ => by simp at h
  | _ :: _, [], h, _, _, _, _ => by simp at h
  | a :: r, b :: q, hl, hr, hq, hc, ne => by
    have hl' : r.length = q.length := by simpa using hl
    have hlI : (ofN r).length = (ofN q).length := by unfold ofN; rw [List.length_map, List.length_map, hl']
    have br := bd2 (r := r) fun x hx => hr x (List.mem_cons_of_mem _ hx)
    have bq := bd2 (r := q) fun x hx => hq x (List.mem_cons_of_mem _ hx)
    rw [lt_cons]
    by_cases e : a = b
    · subst e
      rw [if_pos rfl]
      refine lt_of_code hl' (fun x hx => hr x (List.mem_cons_of_mem _ hx)) (fun x hx => hq x (List.mem_cons_of_mem _ hx)) ?_ fun z => ne (by rw [z])
      rcases Decidable.em (TS.code 2 (ofN q) < TS.code 2 (ofN r)) with z | z
      · have := (TS.code_same (B := 2) (d := (a : Int)) hlI.symm).mpr z
        have hc' : TS.code 2 ((a : Int) :: ofN r) ≤ TS.code 2 ((a : Int) :: ofN q) := hc
        omega
      · omega
    · rw [if_neg e, lt_nat]
      refine decide_eq_true ?_
      rcases Nat.lt_or_ge b a with z | z
      · have := TS.code_lt (B := 2) (d := (b : Int)) (e := (a : Int)) hlI.symm bq br (by omega)
        have hc' : TS.code 2 ((a : Int) :: ofN r) ≤ TS.code 2 ((b : Int) :: ofN q) := hc
        omega
      · omega
section
variable {prog : Program} {w : World} {A : Around} {E : Value → Shared → Prop} {s : Shared}
/-- sum(t), t a tuple of ints -/
theorem sum_tup {l : Addr} {its : List Value} {ns : List Int} {Q : Value → Shared → Prop} (hh : A.handled = none) (hl : s.heap.IsTuple l its.toArray) (hi : IntsAre its ns)
    (h : ∀ h' tk t', (∀ b o, s.heap.get? b = some o → h'.get? b = some o) → Q (.int ns.sum t') { s with heap := h', toks := tk }) : wpAny (model prog w) A (call (.builtin "sum") [.ref l]) Q E s := by
  obtain ⟨xs, e⟩ := hi.allInts.items
  have hn : numsOf (intItems xs).toList = ns := by rw [← e]; exact hi.numsOf
  rw [nums_intItems] at hn
  rw [e] at hl
  have hlt : l < s.heap.objs.size := by obtain ⟨_, e, _⟩ := hl; exact Heap.lt_size e
  refine PySem.call_sum_walkG (wpAny_pyIter_tuple hl ?_)
  refine ⟨_, [s.heap.objs.size, l], [s.heap.objs.size], _, _, _, numAt xs, rfl, Walks.tuple (A := A.in1) hh _ l (Nat.ne_of_lt hlt) (intItems xs), ⟨⟨_, Heap.get?_push_size _ rfl, rfl, rfl⟩, hl.push _⟩, fun b hb => ?_, (fun _ _ => intItems_at), fun h' tk t' hk => ?_⟩
  · show b < (s.heap.push _).objs.size
    rw [Heap.size_push]
    have e' : b = s.heap.objs.size ∨ b = l := by simpa using hb
    rcases e' with z | z
    · rw [z]; exact Nat.lt_succ_self _
    · rw [z]; exact Nat.lt_succ_of_lt hlt
  · have := h h' tk t' (fun b o e => hk b o (fun hm => ?_) (Heap.get?_push_of_some _ e))
    · have e2 : (intItems xs).size = xs.size := by simp [intItems]
      rw [e2, preSum_eq, List.take_of_length_le (by simp), hn]
      exact this
    · have e1 : b = s.heap.objs.size := by simpa using hm
      exact absurd (Heap.lt_size e) (by rw [e1]; exact Nat.lt_irrefl _)
end
section
variable {X : Cx}
def rSumT (K : PySem.W.Frag) : List V → Hp → VK → Prop := fun vs H Q => ∃ (a : Addr) (ns : List Int), vs = [V.ref a] ∧ SqT K H a (ns.map V.int) ∧ Q (.int ns.sum) H
theorem cr_sumT (hc : X.calm = true) : CallR X (.builtin "sum") (rSumT X.K) := by
  intro pins s σ H vs us Q I r h
  obtain ⟨a, ns, rfl, hs, q⟩ := h
  obtain ⟨its, rv, hl, _⟩ := I.tuple hs
  rw [Vals.ref1 r]
  exact sum_tup (I.ok.hd hc) hl rv.ints fun h' tk t' hk => ⟨.int _, H, I.kept hk, ⟨_, rfl⟩, q⟩
end
section
variable {K : PySem.W.Frag} {ρ : Rho} {𝒜 : Fact → Prop} {te : TE}
theorem c_sumT {ns : List Nat} (k : 𝒜 (Is K ns.sum)) : C (rSumT K) [Is K ns] 𝒜 := fun vs Hf H Q s as q => by
  obtain ⟨v, rfl, a⟩ := all1 as
  obtain ⟨p, ys, rfl, h1, h2⟩ := dp_tup a
  have e := nats_of h2
  subst e
  refine ⟨p, ns.map fun n : Nat => (n : Int), rfl, same_t s h1, ?_⟩
  rw [sum_cast]
  exact q _ Hf H (Is K ns.sum) (Grow.refl s) (Dp.int _) k
/-- a set of these tuples -/
def isTS (K : PySem.W.Frag) (P : Program) (w : World) (xs : List (List Nat)) : Fact := ⟨fun v H => ∃ (a : Addr) (L : List (Addr × List Int)), v = .ref a ∧ H a = some (SetTO P w a L) ∧ (∀ p ∈ L, SqT K H p.1 (p.2.map V.int) ∧ ∃ r ∈ xs, p.2 = ofN r) ∧ ∀ r ∈ xs, ofN r ∈ L.map (fun p : Addr × List Int => p.2),
  fun e ⟨a, L, h1, h2, h3, h4⟩ => ⟨a, L, h1, e.k a _ h2 nT_ext, fun p hp => ⟨same_t e (h3 p hp).1, (h3 p hp).2⟩, h4⟩⟩
theorem tups_of {H : Hp} : ∀ {xs : List (List Nat)} {vs : List V}, DpAll K H vs (xs.map Enc.enc) → ∃ ks : List (Addr × List Int), vs = ks.map (fun p => V.ref p.1) ∧ ks.map (·.2) = xs.map ofN ∧ ∀ p ∈ ks, SqT K H p.1 (p.2.map V.int)
  | [], _, h => by cases h; exact ⟨[], rfl, rfl, fun _ z => by cases z⟩
  | x :: xs, _, h => by
    cases h with
    | cons h1 h2 =>
      obtain ⟨a, ys, rfl, h3, h4⟩ := dp_tup h1
      have e := nats_of h4
      subst e
      obtain ⟨ks, rfl, e2, h5⟩ := tups_of h2
      refine ⟨(a, ofN x) :: ks, rfl, by rw [List.map_cons, List.map_cons, e2], fun p hp => ?_⟩
      rcases List.mem_cons.mp hp with z | z
      · rw [z]; exact h3
      · exact h5 p z
theorem c_setT {P : Program} {w : World} {xs : List (List Nat)} {A : Fact} (l : Le A (Is K (PL.mk xs))) (hz : xs.length < 64) (k : 𝒜 (isTS K P w xs)) : C (rSetOfT K P w) [A] 𝒜 := fun vs Hf H Q s as q => by
  obtain ⟨v, rfl, a⟩ := all1 as
  obtain ⟨p, us, rfl, h1, h2⟩ := dp_lst (l _ _ a)
  obtain ⟨ks, rfl, e2, h3⟩ := tups_of h2
  have hl : ks.length = xs.length := by
    have := congrArg List.length e2
    rwa [List.length_map, List.length_map] at this
  refine ⟨p, ks, rfl, same_l s h1, fun x hx => same_t s (h3 x hx), by omega, fun b L hb hL1 hL2 => ?_⟩
  have g := Grow.new (o := SetTO P w b L) s hb
  refine q _ _ _ (isTS K P w xs) g ⟨b, L, rfl, upd_same, fun x hx => ⟨same_t g.f (h3 x (hL1 x hx)), ?_⟩, fun r hr => ?_⟩ k
  · have : x.2 ∈ ks.map (·.2) := List.mem_map.mpr ⟨x, hL1 x hx, rfl⟩
    rw [e2] at this
    obtain ⟨r, hr, e⟩ := List.mem_map.mp this
    exact ⟨r, hr, e.symm⟩
  · have : ofN r ∈ ks.map (·.2) := by rw [e2]; exact List.mem_map.mpr ⟨r, hr, rfl⟩
    obtain ⟨x, hx, e⟩ := List.mem_map.mp this
    rw [← e]
    exact hL2 x hx
/-- sorted of it, the tuples of n bits -/
theorem cn_sortTS {P : Program} {w : World} {xs : List (List Nat)} {n : Nat} {𝒟 : List PyData → Prop} (hn : 1 ≤ n) (hx : ∀ r ∈ xs, r.length = n ∧ ∀ b ∈ r, b ≤ 1)
    (k : ∀ zs : List (List Nat), zs.Pairwise (fun r q => lt r q = true) → (∀ r, r ∈ zs ↔ r ∈ xs) → zs.length < 64 → 𝒟 (zs.map Enc.enc)) : CN K (rSortedT K P w) [isTS K P w xs] 𝒟 := fun vs Hf H Q s as q => by
  obtain ⟨v, rfl, a, L, rfl, h1, h2, h3⟩ := all1 as
  refine ⟨a, L, n, 2, rfl, s _ _ h1, fun p hp => same_t s (h2 p hp).1, hn, fun p hp => ?_, fun L' b pm nd hz pw hb => ?_⟩
  · obtain ⟨_, r, hr, e⟩ := h2 p hp
    obtain ⟨z1, z2⟩ := hx r hr
    rw [e]
    exact ⟨by unfold ofN; rw [List.length_map]; exact z1, bd2 z2⟩
  · have hL' : ∀ p ∈ L', SqT K Hf p.1 (p.2.map V.int) ∧ ∃ r ∈ xs, p.2 = ofN r := fun p hp => h2 p (pm.mem_iff.mp hp)
    have back : ∀ L2 : List (Addr × List Int), (∀ p ∈ L2, SqT K Hf p.1 (p.2.map V.int) ∧ ∃ r ∈ xs, p.2 = ofN r) → ∃ zs : List (List Nat), L2.map (·.2) = zs.map ofN ∧ (∀ r ∈ zs, r ∈ xs) ∧ DpAll K Hf (L2.map fun q => V.ref q.1) (zs.map Enc.enc) := by
      intro L2
      induction L2 with
      | nil => exact fun _ => ⟨[], rfl, (fun _ z => by cases z), .nil⟩
      | cons p L2 ih =>
        intro h
        obtain ⟨zs, e1, e2, e3⟩ := ih fun x hx => h x (List.mem_cons_of_mem _ hx)
        obtain ⟨g1, r, hr, g2⟩ := h p List.mem_cons_self
        refine ⟨r :: zs, by rw [List.map_cons, List.map_cons, e1, g2], fun x hx => ?_, .cons (.tup g1 ?_) e3⟩
        · rcases List.mem_cons.mp hx with z | z
          · rw [z]; exact hr
          · exact e2 x z
        · rw [g2]
          clear g1 g2 hr h hx h3 k
          induction r with
          | nil => exact .nil
          | cons z r ih => exact .cons (Dp.int _) ih
    obtain ⟨zs, e1, e2, e3⟩ := back L' hL'
    have g := Grow.newO (o := .lst (L'.map fun q => V.ref q.1)) s hb
    refine q b _ (zs.map Enc.enc) Hf _ g hb (none_back s hb) upd_same e3 (k zs ?_ (fun r => ⟨e2 r, fun hr => ?_⟩) ?_)
    · have nz : (zs.map ofN).Nodup := by rw [← e1]; exact nd
      have pz : (zs.map ofN).Pairwise fun x y => TS.code 2 x ≤ TS.code 2 y := by
        rw [← e1, List.pairwise_map]
        exact pw
      rw [List.pairwise_map] at pz
      have nz2 : zs.Pairwise fun x y => ofN x ≠ ofN y := by
        unfold List.Nodup at nz
        rw [List.pairwise_map] at nz
        exact nz
      have both := pz.and nz2
      refine List.Pairwise.imp_of_mem (R := fun x y => TS.code 2 (ofN x) ≤ TS.code 2 (ofN y) ∧ ofN x ≠ ofN y) (fun {x y} mx my h => ?_) both
      obtain ⟨a1, a2⟩ := hx x (e2 x mx)
      obtain ⟨b1, b2⟩ := hx y (e2 y my)
      exact lt_of_code (by omega) a2 b2 h.1 fun z => h.2 (by rw [z])
    · have m1 := h3 r hr
      have m2 : ofN r ∈ L'.map (·.2) := (pm.map (·.2)).mem_iff.mpr m1
      rw [e1] at m2
      obtain ⟨y, hy, e⟩ := List.mem_map.mp m2
      rw [← ofN_inj e]
      exact hy
    · have := congrArg List.length e1
      rw [List.length_map, List.length_map] at this
      omega
/-- list(range(n)) -/
theorem wn_rg {𝒟 : List PyData → Prop} (h : W K te ρ fun A => ∃ n : Nat, Le A (Is K n) ∧ n ≤ 1000000 ∧ 𝒟 ((List.range n).map Enc.enc)) : WN K (tLstRg (tRg1 te)) ρ 𝒟 := fun σ Ot Hf H Q e q =>
  h σ Ot Hf H _ e fun v H1f H1 A g a ⟨n, l, hz, k⟩ => by
    obtain rfl := dp_int (l _ _ a)
    refine ⟨(n : Int), rfl, .of_le (by omega) (by omega) (by omega) (by omega), fun p hp => ?_⟩
    have g2 := Grow.newO (o := .lst (rgV 0 (n : Int))) g.sub hp
    refine q p _ ((List.range n).map Enc.enc) _ _ (g.trans g2) (g.n _ hp) (none_back g.sub hp) upd_same ?_ k
    unfold rgV
    have en : ((n : Int) - 0).toNat = n := by omega
    rw [en]
    generalize List.range n = l'
    induction l' with
    | nil => exact .nil
    | cons z r ih =>
      refine .cons ?_ ih
      show Dp K H1f (.int (0 + (z : Int))) (.int (z : Int))
      rw [Int.zero_add]
      exact Dp.int _
theorem perm_unmap {α β : Type} {f : α → β} {l m : List β} (p : l.Perm m) : ∀ {xs : List α}, m = xs.map f → ∃ ys : List α, ys.Perm xs ∧ l = ys.map f := by
  induction p with
  | nil => intro xs h; exact ⟨xs, List.Perm.refl _, h⟩
  | cons a p ih =>
    intro xs h
    cases xs with
    | nil => cases h
    | cons x xs =>
      obtain ⟨h1, h2⟩ := List.cons.inj h
      obtain ⟨ys, e1, e2⟩ := ih h2
      exact ⟨x :: ys, e1.cons x, by rw [List.map_cons, ← e2, h1]⟩
  | swap a b l =>
    intro xs h
    match xs, h with
    | [], h => cases h
    | [_], h => cases h
    | x :: y :: xs, h =>
      obtain ⟨h1, h2⟩ := List.cons.inj h
      obtain ⟨h3, h4⟩ := List.cons.inj h2
      exact ⟨y :: x :: xs, List.Perm.swap _ _ _, by rw [List.map_cons, List.map_cons, h1, h3, h4]⟩
  | trans p q ih1 ih2 =>
    intro xs h
    obtain ⟨ys, e1, e2⟩ := ih2 h
    obtain ⟨zs, e3, e4⟩ := ih1 e2
    exact ⟨zs, e3.trans e1, e4⟩
end
end DL
/-! K89n: the program's defs, further. -/
namespace K89
open PySem PySem.Spec PyProof.Rows L2 DL
section
variable {P : Program} {w : World} {K : PySem.W.Frag} {mg : PySem.Str → Option Value} {base : Heap}
local macro_rules | `(tactic| walk_at "dl") => `(tactic| first
  | with_reducible refine ss_ret ?_ | with_reducible refine ss_seq ?_ | with_reducible refine ss_if ?_ | with_reducible refine ss_next ?_ | with_reducible refine ss_retN ?_
  | refine w_var (by rfl) ?_ | with_reducible refine w_lit ?_ | with_reducible refine w_bl ?_ | with_reducible refine w_non ?_ | with_reducible refine w_str ?_ | with_reducible refine w_val ?_
  | with_reducible refine w_op ?_ | with_reducible refine w_cb ?_ | with_reducible refine w_call ?_ | with_reducible refine wa_cons ?_ | with_reducible refine wa_nil ?_
  | with_reducible refine wt_test ?_ | with_reducible refine wt_B ?_ | with_reducible refine wt_not ?_ | with_reducible refine wt_yes ?_ | with_reducible refine wt_and ?_ | with_reducible refine wt_or ?_
  | with_reducible refine w_andV ?_ | with_reducible refine w_orV ?_ | with_reducible refine w_notV ?_ | with_reducible refine w_if ?_ | with_reducible refine w_chain ?_
  | with_reducible refine wo_none ?_ | with_reducible refine wo_some ?_
  | with_reducible refine r_eq ?_ | with_reducible refine r_ne ?_ | with_reducible refine r_lt ?_ | with_reducible refine r_add ?_ | with_reducible refine r_and ?_ | with_reducible refine r_shr ?_ | with_reducible refine r_ltn ?_ | with_reducible refine r_gtn ?_ | with_reducible refine r_len ?_
  | with_reducible refine r_inT ?_ | with_reducible refine r_notInT ?_ | with_reducible refine r_inL ?_
  | with_reducible refine c_lenT ?_ | with_reducible refine c_lenP ?_ | with_reducible refine r_fst ?_ | with_reducible refine r_snd ?_ | with_reducible refine g_name ?_ | with_reducible refine g_pair ?_ | with_reducible refine gs_name ?_ | with_reducible refine gs_nil ?_)
theorem c_mixed {α : Type} [Enc α] {E : XK} {A : Fact} {xs : List α} {𝒜 : Fact → Prop} (l : Le A (Is K (PL.mk xs))) (hz : xs.length < 1000000) (k : ∀ ys : List α, ys.Perm xs → 𝒜 (IsL K ys)) : C (fun vs H Q => sp__law_mixed K (vs ++ []) H Q E) [isS, A] 𝒜 := fun vs Hf H Q s as q =>
  (c_mk (E := E) (𝒜 := 𝒜) (xs.map Enc.enc) (by show (xs.map Enc.enc).length < 1000000; rw [List.length_map]; exact hz) fun A ⟨es, pm, e⟩ => by
    obtain ⟨ys, p2, rfl⟩ := perm_unmap pm rfl
    subst e
    exact k ys p2) vs Hf H Q s (match vs, as with | [_, _], as => ⟨as.1, l _ _ as.2.1, trivial⟩) q
theorem c_pick {α : Type} [Enc α] {E : XK} {A : Fact} {xs : List α} {𝒜 : Fact → Prop} (l : Le A (Is K (PL.mk xs))) (h0 : xs ≠ []) (hz : xs.length ≤ 1000000) (k : ∀ x ∈ xs, 𝒜 (Is K x)) : C (fun vs H Q => sp__law_pick K (vs ++ []) H Q E) [isS, A] 𝒜 := fun vs Hf H Q s as q =>
  (c_mk (E := E) (𝒜 := 𝒜) (xs.map Enc.enc) (by
    show 0 < (xs.map Enc.enc).length ∧ (xs.map Enc.enc).length ≤ 1000000
    rw [List.length_map]
    exact ⟨List.length_pos_iff.mpr h0, hz⟩) fun A ⟨d, hd, e⟩ => by
    obtain ⟨x, hx, rfl⟩ := List.mem_map.mp hd
    subst e
    exact k x hx) vs Hf H Q s (match vs, as with | [_, _], as => ⟨as.1, l _ _ as.2.1, trivial⟩) q
theorem asc_of {α : Type} [Enc α] : ∀ {xs : List α}, xs.Pairwise (fun x y => lt x y = true) → asc xs = true
  | [], _ => rfl
  | [_], _ => rfl
  | a :: b :: t, h => by
    have h1 := List.pairwise_cons.mp h
    have h2 := asc_of h1.2
    have h3 : lt a b = true := h1.1 b List.mem_cons_self
    show (lt a b && asc (b :: t)) = true
    rw [h3, h2]
    rfl
theorem sortM_nat (l : List Nat) (nd : l.Nodup) : (sortM l).Pairwise (· < ·) ∧ (sortM l).Perm l := by
  have pm : (sortM l).Perm l := List.mergeSort_perm l _
  have so : (sortM l).Pairwise fun x y => (!lt y x) = true := List.pairwise_mergeSort (le := fun x y : Nat => !lt y x) (fun a b c h1 h2 => by
    rw [lt_nat, Bool.not_eq_true', decide_eq_false_iff_not] at *
    omega) (fun a b => by
    rw [lt_nat, lt_nat, Bool.or_eq_true, Bool.not_eq_true', Bool.not_eq_true', decide_eq_false_iff_not, decide_eq_false_iff_not]
    omega) l
  have nd2 : (sortM l).Pairwise (· ≠ ·) := pm.nodup_iff.mpr nd
  refine ⟨(so.and nd2).imp fun h => ?_, pm⟩
  have h1 := h.1
  rw [lt_nat, Bool.not_eq_true', decide_eq_false_iff_not] at h1
  have h2 := h.2
  omega
def sp__law_partial (K : PySem.W.Frag) : Sp := mkSp (fun t : Nat × Nat => [isS, Is K t.1, Is K t.2]) (fun t => t.1 ≤ 7 ∧ t.2 ≤ 1000) fun t A => ∃ p : Part, OkPart t.1 p ∧ p.length ≤ t.2 ∧ A = Is K p
theorem d__law_partial (T : TF K mg) (h__law_draw : Has P w K mg base CX0 1 "_law_draw" ["stream", "total"] (sp__law_draw K)) (h__law_mixed : Has P w K mg base CX0 2 "_law_mixed" ["stream", "items"] (sp__law_mixed K)) : Has P w K mg base CX0 3 "_law_partial" ["stream", "size", "most"] (sp__law_partial K) := by
  obtain ⟨f, fd, F, hm, hb⟩ := T.d__law_partial
  refine fn_facts F sc__law_partial hm hb (fun _ => by first | rfl | (split <;> rfl)) fun cdv A outer s H E hr hgd => ?_
  have S := sc__law_partial
  refine ⟨(tSeq (tAsg (tSl (L2.rSlL K) (tCall (sp__law_mixed K) [] E0 (tCons (tVar 0) (tCons (tLstRg (tRg1 (tVar 1))) tNil))) tNoPart (tPart (tCall (sp__law_draw K) [] E0 (tCons (tVar 0) (tCons (tOp (rI0 fun i j => .int (i + j)) (tVar 2) (tC (.int 1))) tNil))))) (gName 3)) (tRet (tCB (rTupA K) (tCons (tLc (iList K (tCB (rSortD K) (tCons (tVar 3) tNil))) (gName 4) tYes (tTup (tCons (tVar 4) (tCons (tCall (sp__law_draw K) [] E0 (tCons (tVar 0) (tCons (tC (.int 2)) tNil))) tNil))) [4]) tNil)))), (pss_cons (ps_set (i := 3) S.nd rfl (by first | exact Or.inl rfl | exact Or.inr rfl) (pe_slice sl_list (pc (E := E0) (h__law_mixed.mono (by decide)) hr hgd (by rfl) pass0 (pa_cons (pv 0) (pa_cons (pe_listRg (by rfl) (by rfl) T.n_list (prg_1 (by rfl) T.n_range (pv 1))) pa_nil))) po_none (po_some (pc (E := E0) (h__law_draw.mono (by decide)) hr hgd (by rfl) pass0 (pa_cons (pv 0) (pa_cons (pe_op op_add (pv 2) pe_int) pa_nil)))))) (pss_one (ps_ret (pe_callTy call_tuple_of (by rfl) T.n_tuple bt_tuple (pa_cons (pe_lc (own := [("key", 4)]) (g := (gName 4)) (tt := tYes) (te := (tTup (tCons (tVar 4) (tCons (tCall (sp__law_draw K) [] E0 (tCons (tVar 0) (tCons (tC (.int 2)) tNil))) tNil)))) (by rfl) S.nd (pi_list (pe_callB (cr_sortD hr.units) (by rfl) T.n_sorted bt_sorted (pa_cons (pv 3) pa_nil))) (blkOk_by (by rfl)) (fun _ _ _ _ _ => (pg_name (i := 4) S.nd rfl (by first | exact Or.inl rfl | exact Or.inr rfl))) (fun _ _ _ _ _ => pts_nil) (fun _ _ _ _ _ => (pe_tup (pa_cons (pv 4) (pa_cons (pc (E := E0) (h__law_draw.mono (by decide)) hr hgd (by rfl) pass0 (pa_cons (pv 0) (pa_cons pe_int pa_nil))) pa_nil))))) pa_nil))))), ?_⟩
  rintro ⟨n, most⟩ ⟨h7, hm1⟩
  dsimp only at h7 hm1
  refine ss_seq (ss_set (w_new (wn_slL (α := Nat) (fun _ _ _ _ _ z => z) ?_)))
  repeat walk_at "dl"
  refine w_new (wn_rg ?_)
  repeat walk_at "dl"
  refine ⟨n, Le.refl _, by omega, ?_⟩
  repeat walk_at "dl"
  refine c_mixed (le_L _) (by rw [List.length_range]; omega) fun ks pm => ?_
  repeat walk_at "dl"
  refine c_draw ⟨by omega, by omega⟩ fun r hr => ?_
  refine ⟨r, Le.refl _, ks, le_L _, ?_⟩
  rw [cut_to]
  have hl : ks.length = n := by rw [pm.length_eq, List.length_range]
  have nd : (ks.take r).Nodup := (List.take_sublist r ks).nodup (pm.nodup_iff.mpr List.nodup_range)
  obtain ⟨so, pm2⟩ := sortM_nat (ks.take r) nd
  have hin : ∀ k ∈ sortM (ks.take r), k < n := fun k hk => List.mem_range.mp (pm.mem_iff.mp (List.mem_of_mem_take (pm2.mem_iff.mp hk)))
  have hlen : (sortM (ks.take r)).length ≤ most ∧ (sortM (ks.take r)).length ≤ n := by
    rw [pm2.length_eq, List.length_take]
    omega
  repeat walk_at "dl"
  refine w_new (wn_rel (α := Nat) (β := Lit) (js := [4]) (by decide) (wx_list ?_))
  repeat walk_at "dl"
  refine c_new (cn_sort (α := Nat) (le_L _) (.inl (.inr fun d hd => ?_)) ?_)
  · obtain ⟨x, _, rfl⟩ := List.mem_map.mp hd
    exact ⟨(fun z => by cases z), fun _ z => by cases z⟩
  refine ⟨_, le_L _, Nat.le_trans (Nat.le_trans hlen.2 h7) (by decide), fun pre ys => ys.map (·.1) = pre ∧ ∀ l ∈ ys, l.2 ≤ 1, ⟨rfl, fun _ z => by cases z⟩, fun pre x ys hx hp _ iv => ?_, fun ys _ iv => ?_⟩
  · repeat walk_at "dl"
    refine ⟨fun _ => ?_, fun z => by cases z⟩
    refine w_tup2 (α := Nat) (β := Nat) ?_
    repeat walk_at "dl"
    refine c_draw (n := 2) ⟨by decide, by decide⟩ fun b hb => ?_
    repeat walk_at "dl"
    refine ⟨x, b, ⟨_, _, rfl, Le.refl _, Le.refl _⟩, (x, b), Le.refl _, ?_, fun l hl => ?_⟩
    · rw [List.map_append, iv.1]; rfl
    · rcases List.mem_append.mp hl with z | z
      · exact iv.2 l z
      · rw [List.mem_singleton.mp z]; show b ≤ 1; omega
  · repeat walk_at "dl"
    have e1 : ys.length = (sortM (ks.take r)).length := by rw [← iv.1, List.length_map]
    refine c_tup le_l ⟨ys, ⟨fun l hl => ⟨hin _ (by rw [← iv.1]; exact List.mem_map.mpr ⟨l, hl, rfl⟩), iv.2 l hl⟩, ?_, by omega⟩, by omega, rfl⟩
    rw [iv.1]
    refine asc_of (so.imp fun h => ?_)
    rw [lt_nat]
    exact decide_eq_true h
end
end K89
/-! K89o: the program's defs, further. -/
namespace K89
open PySem PySem.Spec PyProof.Rows L2 DL
section
variable {P : Program} {w : World} {K : PySem.W.Frag} {mg : PySem.Str → Option Value} {base : Heap}
local macro_rules | `(tactic| walk_at "dl") => `(tactic| first
  | with_reducible refine ss_ret ?_ | with_reducible refine ss_seq ?_ | with_reducible refine ss_if ?_ | with_reducible refine ss_next ?_ | with_reducible refine ss_retN ?_
  | refine w_var (by rfl) ?_ | with_reducible refine w_lit ?_ | with_reducible refine w_bl ?_ | with_reducible refine w_non ?_ | with_reducible refine w_str ?_ | with_reducible refine w_val ?_
  | with_reducible refine w_op ?_ | with_reducible refine w_cb ?_ | with_reducible refine w_call ?_ | with_reducible refine wa_cons ?_ | with_reducible refine wa_nil ?_
  | with_reducible refine wt_test ?_ | with_reducible refine wt_B ?_ | with_reducible refine wt_not ?_ | with_reducible refine wt_yes ?_ | with_reducible refine wt_and ?_ | with_reducible refine wt_or ?_
  | with_reducible refine w_andV ?_ | with_reducible refine w_orV ?_ | with_reducible refine w_notV ?_ | with_reducible refine w_if ?_ | with_reducible refine w_chain ?_
  | with_reducible refine wo_none ?_ | with_reducible refine wo_some ?_
  | with_reducible refine r_eq ?_ | with_reducible refine r_ne ?_ | with_reducible refine r_lt ?_ | with_reducible refine r_add ?_ | with_reducible refine r_and ?_ | with_reducible refine r_shr ?_ | with_reducible refine r_ltn ?_ | with_reducible refine r_gtn ?_ | with_reducible refine r_len ?_
  | with_reducible refine r_inT ?_ | with_reducible refine r_notInT ?_ | with_reducible refine r_inL ?_
  | with_reducible refine c_lenT ?_ | with_reducible refine c_lenP ?_ | with_reducible refine r_fst ?_ | with_reducible refine r_snd ?_ | with_reducible refine g_name ?_ | with_reducible refine g_pair ?_ | with_reducible refine gs_name ?_ | with_reducible refine gs_nil ?_)
theorem wn_sub {ρ : Rho} {te : TE} {α : Type} [Enc α] {wi : TI} {F : α → Fact} {g : TG} {tt : TT} {vs js : List Nat} {𝒟 : List PyData → Prop} (hj : ∀ j ∈ js, j ∈ vs) (h : WX K wi ρ F fun xs => (∀ x ∈ xs, G K g (wipeR ρ vs) (F x) js fun ρ2 => WT K tt ρ2 fun _ => W K te ρ2 fun B => Le B (Is K x)) ∧
    ∀ ys : List α, ys.Sublist xs → 𝒟 (ys.map Enc.enc)) : WN K (tLc wi g tt te vs) ρ 𝒟 :=
  wn_rel (β := α) hj (h.imp fun n item ⟨xs, a, b, c, turn, done⟩ => ⟨xs, a, b, c, fun pre ys => ys.Sublist pre, List.Sublist.refl _, fun pre x ys hx _ _ iv σ2 Ot2 Hf2 H2 v Q2 e2 a2 q2 => turn x hx σ2 Ot2 Hf2 H2 v Q2 e2 a2 fun σ3 ρ3 e3 w3 hw => q2 σ3 ρ3 e3 w3
    fun σ4 Ot4 Hf4 H4 Q4 e4 q4 => hw σ4 Ot4 Hf4 H4 Q4 e4 fun b Hf5 H5 g5 hb => q4 b Hf5 H5 g5 ⟨fun _ => hb.imp fun B l => ⟨x, l, iv.append (List.Sublist.refl _)⟩, fun _ => iv.trans (List.sublist_append_left _ _)⟩, fun ys _ iv => done ys iv⟩)
def sp__law_drawn_rows (K : PySem.W.Frag) : Sp := mkSp (fun t : Nat × Nat => [isS, Is K t.1, Is K t.2]) (fun t => 1 ≤ t.1 ∧ t.1 ≤ 5 ∧ t.2 ≤ 7) fun t A => ∃ rows : List Row, (∀ r ∈ rows, OkRow t.1 r) ∧ rows.length ≤ 32 ∧ A = IsL K rows
theorem rows32 {n : Nat} (h : n ≤ 5) : (rowsOf n).length ≤ 32 := by
  rw [fm_len]
  exact Nat.pow_le_pow_right (by decide) h
theorem d__law_drawn_rows (T : TF K mg) (h__law_contains : Has P w K mg base CX0 1 "_law_contains" ["row", "partial"] (sp__law_contains K)) (h__law_draw : Has P w K mg base CX0 1 "_law_draw" ["stream", "total"] (sp__law_draw K)) (h__law_partial : Has P w K mg base CX0 3 "_law_partial" ["stream", "size", "most"] (sp__law_partial K)) (h__law_row : Has P w K mg base CX0 2 "_law_row" ["stream", "size"] (sp__law_row K)) (h__law_rows : Has P w K mg base CX0 1 "_law_rows" ["size"] (sp__law_rows K)) : Has P w K mg base CX0 4 "_law_drawn_rows" ["stream", "size", "way"] (sp__law_drawn_rows K) := by
  obtain ⟨f, fd, F, hm, hb⟩ := T.d__law_drawn_rows
  refine fn_facts F sc__law_drawn_rows hm hb (fun _ => by first | rfl | (split <;> rfl)) fun cdv A outer s H E hr hgd => ?_
  have S := sc__law_drawn_rows
  refine ⟨(tSeq (tAsg (tCall (sp__law_rows K) [] E0 (tCons (tVar 1) tNil)) (gName 3)) (tSeq (tIfS (tTest (tOp (rEqD K) (tVar 2) (tC (.int 0)))) (tSeq (tAsg (tOp (rI0 fun i j => .int (i + j)) (tC (.int 2)) (tCall (sp__law_draw K) [] E0 (tCons (tVar 0) (tCons (tC (.int 4)) tNil)))) (gName 4)) (tRet (tLc (iList K (tVar 3)) (gName 5) (tTest (tOp (rI0 fun i j => .bl (decide (j < i))) (tCall (sp__law_draw K) [] E0 (tCons (tVar 0) (tCons (tVar 4) tNil))) (tC (.int 0)))) (tVar 5) [5]))) tNext) (tSeq (tIfS (tTest (tOp (rI0 fun i j => .bl (decide (i < j))) (tVar 2) (tC (.int 4)))) (tSeq (tAsg (tLc (iRng1 (tCons (tOp (rI0 fun i j => .int (i + j)) (tC (.int 1)) (tCall (sp__law_draw K) [] E0 (tCons (tVar 0) (tCons (tOp (rI0 fun i j => .int (i + j)) (tVar 1) (tVar 2)) tNil)))) tNil)) (gName 7) tYes (tCall (sp__law_partial K) [] E0 (tCons (tVar 0) (tCons (tVar 1) (tCons (tOp (rI0 fun i j => .int (i + j)) (tC (.int 2)) (tOp (rI (fun _ j => 0 < j) fun i j => .int (i % j)) (tVar 2) (tC (.int 2)))) tNil)))) [7]) (gName 6)) (tSeq (tAsg (tLc (iList K (tVar 6)) (gName 8) (tTest (tOp (rI0 fun i j => .bl (decide (j < i))) (tCB (rLenA K) (tCons (tVar 8) tNil)) (tC (.int 1)))) (tVar 8) [8]) (gName 6)) (tRet (tLc (iList K (tVar 3)) (gName 5) (tTest (tOp (rEqD K) (tLc (iList K (tVar 6)) (gName 8) (tB (tCall (sp__law_contains K) [] E0 (tCons (tVar 5) (tCons (tVar 8) tNil)))) (tC (.int 1)) [8]) (tLst tNil))) (tVar 5) [5])))) tNext) (tSeq (tIfS (tTest (tOp (rEqD K) (tVar 2) (tC (.int 4)))) (tSeq (tAsg (tLc (iRng1 (tCons (tOp (rI0 fun i j => .int (i + j)) (tVar 1) (tC (.int 1))) tNil)) (gName 10) (tTest (tOp (rEqD K) (tCall (sp__law_draw K) [] E0 (tCons (tVar 0) (tCons (tC (.int 2)) tNil))) (tC (.int 0)))) (tVar 10) [10]) (gName 9)) (tRet (tLc (iList K (tVar 3)) (gName 5) (tTest (tOp (rInD K) (tCB (rSumT K) (tCons (tVar 5) tNil)) (tVar 9))) (tVar 5) [5]))) tNext) (tSeq (tIfS (tTest (tOp (rEqD K) (tVar 2) (tC (.int 5)))) (tSeq (tFor (iRng1 (tCons (tOp (rI0 fun i j => .int (i + j)) (tC (.int 1)) (tCall (sp__law_draw K) [] E0 (tCons (tVar 0) (tCons (tVar 1) tNil)))) tNil)) (gName 7) (tSeq (tAsg (tTup (tCons (tLc (iRng1 (tCons (tVar 1) tNil)) (gName 13) (tTest (tOp (rEqD K) (tCall (sp__law_draw K) [] E0 (tCons (tVar 0) (tCons (tC (.int 2)) tNil))) (tC (.int 0)))) (tVar 13) [13]) (tCons (tCall (sp__law_draw K) [] E0 (tCons (tVar 0) (tCons (tC (.int 2)) tNil))) tNil))) (gTup K 2 (gCons (gName 11) (gCons (gName 12) gNil)))) (tIfS (tTest (tOp (rI0 fun i j => .bl (decide (j < i))) (tCB (rLenA K) (tCons (tVar 11) tNil)) (tC (.int 1)))) (tAsg (tLc (iList K (tVar 3)) (gName 5) (tTest (tOp (rEqD K) (tOp (rI (fun _ j => 0 < j) fun i j => .int (i % j)) (tCB (rSum K) (tCons (tLc (iList K (tVar 11)) (gName 13) tYes (tOp (rIx K) (tVar 5) (tVar 13)) [13]) tNil)) (tC (.int 2))) (tVar 12))) (tVar 5) [5]) (gName 3)) tNext))) (tRet (tVar 3))) tNext) (tSeq (tIfS (tTest (tOp (rEqD K) (tVar 2) (tC (.int 6)))) (tRet (tLc (iRng1 (tCons (tOp (rI0 fun i j => .int (i + j)) (tC (.int 2)) (tCall (sp__law_draw K) [] E0 (tCons (tVar 0) (tCons (tC (.int 4)) tNil)))) tNil)) (gName 7) tYes (tCall (sp__law_row K) [] E0 (tCons (tVar 0) (tCons (tVar 1) tNil))) [7])) tNext) (tRet (tLc (iList K (tVar 3)) (gName 5) (tTest (tOp (rI0 fun i j => .bl (decide (j < i))) (tCall (sp__law_draw K) [] E0 (tCons (tVar 0) (tCons (tC (.int 9)) tNil))) (tC (.int 0)))) (tVar 5) [5])))))))), (pss_cons (ps_set (i := 3) S.nd rfl (by first | exact Or.inl rfl | exact Or.inr rfl) (pc (E := E0) (h__law_rows.mono (by decide)) hr hgd (by rfl) pass0 (pa_cons (pv 1) pa_nil))) (pss_cons (ps_if (pt_cmpR (op_eqD hr.units) (pv 2) pe_int (nomark _)) (pss_cons (ps_set (i := 4) S.nd rfl (by first | exact Or.inl rfl | exact Or.inr rfl) (pe_op op_add pe_int (pc (E := E0) (h__law_draw.mono (by decide)) hr hgd (by rfl) pass0 (pa_cons (pv 0) (pa_cons pe_int pa_nil))))) (pss_one (ps_ret (pe_lc (own := [("row", 5)]) (g := (gName 5)) (tt := (tTest (tOp (rI0 fun i j => .bl (decide (j < i))) (tCall (sp__law_draw K) [] E0 (tCons (tVar 0) (tCons (tVar 4) tNil))) (tC (.int 0))))) (te := (tVar 5)) (by rfl) S.nd (pi_list (pv 3)) (blkOk_by (by rfl)) (fun _ _ _ _ _ => (pg_name (i := 5) S.nd rfl (by first | exact Or.inl rfl | exact Or.inr rfl))) (fun _ _ _ _ _ => pts_one (pt_cmpR op_gt (pc (E := E0) (h__law_draw.mono (by decide)) hr hgd (by rfl) pass0 (pa_cons (pv 0) (pa_cons (pv 4) pa_nil))) pe_int (nomark _))) (fun _ _ _ _ _ => (pv 5)))))) pss_nil) (pss_cons (ps_if (pt_cmpR op_lt (pv 2) pe_int (nomark _)) (pss_cons (ps_set (i := 6) S.nd rfl (by first | exact Or.inl rfl | exact Or.inr rfl) (pe_lc (own := [("turn", 7)]) (g := (gName 7)) (tt := tYes) (te := (tCall (sp__law_partial K) [] E0 (tCons (tVar 0) (tCons (tVar 1) (tCons (tOp (rI0 fun i j => .int (i + j)) (tC (.int 2)) (tOp (rI (fun _ j => 0 < j) fun i j => .int (i % j)) (tVar 2) (tC (.int 2)))) tNil))))) (by rfl) S.nd (pi_range1 (by rfl) T.n_range (pa_cons (pe_op op_add pe_int (pc (E := E0) (h__law_draw.mono (by decide)) hr hgd (by rfl) pass0 (pa_cons (pv 0) (pa_cons (pe_op op_add (pv 1) (pv 2)) pa_nil)))) pa_nil)) (blkOk_by (by rfl)) (fun _ _ _ _ _ => (pg_name (i := 7) S.nd rfl (by first | exact Or.inl rfl | exact Or.inr rfl))) (fun _ _ _ _ _ => pts_nil) (fun _ _ _ _ _ => (pc (E := E0) (h__law_partial.mono (by decide)) hr hgd (by rfl) pass0 (pa_cons (pv 0) (pa_cons (pv 1) (pa_cons (pe_op op_add pe_int (pe_op op_mod (pv 2) pe_int)) pa_nil))))))) (pss_cons (ps_set (i := 6) S.nd rfl (by first | exact Or.inl rfl | exact Or.inr rfl) (pe_lc (own := [("partial", 8)]) (g := (gName 8)) (tt := (tTest (tOp (rI0 fun i j => .bl (decide (j < i))) (tCB (rLenA K) (tCons (tVar 8) tNil)) (tC (.int 1))))) (te := (tVar 8)) (by rfl) S.nd (pi_list (pv 6)) (blkOk_by (by rfl)) (fun _ _ _ _ _ => (pg_name (i := 8) S.nd rfl (by first | exact Or.inl rfl | exact Or.inr rfl))) (fun _ _ _ _ _ => pts_one (pt_cmpR op_gt (pe_callB call_len_seq (by rfl) T.n_len bt_len (pa_cons (pv 8) pa_nil)) pe_int (nomark _))) (fun _ _ _ _ _ => (pv 8)))) (pss_one (ps_ret (pe_lc (own := [("row", 5)]) (g := (gName 5)) (tt := (tTest (tOp (rEqD K) (tLc (iList K (tVar 6)) (gName 8) (tB (tCall (sp__law_contains K) [] E0 (tCons (tVar 5) (tCons (tVar 8) tNil)))) (tC (.int 1)) [8]) (tLst tNil)))) (te := (tVar 5)) (by rfl) S.nd (pi_list (pv 3)) (blkOk_by (by rfl)) (fun _ _ _ _ _ => (pg_name (i := 5) S.nd rfl (by first | exact Or.inl rfl | exact Or.inr rfl))) (fun _ _ _ _ _ => pts_one (pt_cmpR (op_eqD hr.units) (pe_lc (own := [("partial", 8)]) (g := (gName 8)) (tt := (tB (tCall (sp__law_contains K) [] E0 (tCons (tVar 5) (tCons (tVar 8) tNil))))) (te := (tC (.int 1))) (by rfl) S.nd (pi_list (pv 6)) (blkOk_by (by rfl)) (fun _ _ _ _ _ => (pg_name (i := 8) S.nd rfl (by first | exact Or.inl rfl | exact Or.inr rfl))) (fun _ _ _ _ _ => pts_one (pt_val (pc (E := E0) (h__law_contains.mono (by decide)) hr hgd (by rfl) pass0 (pa_cons (pv 5) (pa_cons (pv 8) pa_nil))))) (fun _ _ _ _ _ => pe_int)) (pe_lst pa_nil) (nomark _))) (fun _ _ _ _ _ => (pv 5))))))) pss_nil) (pss_cons (ps_if (pt_cmpR (op_eqD hr.units) (pv 2) pe_int (nomark _)) (pss_cons (ps_set (i := 9) S.nd rfl (by first | exact Or.inl rfl | exact Or.inr rfl) (pe_lc (own := [("ones", 10)]) (g := (gName 10)) (tt := (tTest (tOp (rEqD K) (tCall (sp__law_draw K) [] E0 (tCons (tVar 0) (tCons (tC (.int 2)) tNil))) (tC (.int 0))))) (te := (tVar 10)) (by rfl) S.nd (pi_range1 (by rfl) T.n_range (pa_cons (pe_op op_add (pv 1) pe_int) pa_nil)) (blkOk_by (by rfl)) (fun _ _ _ _ _ => (pg_name (i := 10) S.nd rfl (by first | exact Or.inl rfl | exact Or.inr rfl))) (fun _ _ _ _ _ => pts_one (pt_cmpR (op_eqD hr.units) (pc (E := E0) (h__law_draw.mono (by decide)) hr hgd (by rfl) pass0 (pa_cons (pv 0) (pa_cons pe_int pa_nil))) pe_int (nomark _))) (fun _ _ _ _ _ => (pv 10)))) (pss_one (ps_ret (pe_lc (own := [("row", 5)]) (g := (gName 5)) (tt := (tTest (tOp (rInD K) (tCB (rSumT K) (tCons (tVar 5) tNil)) (tVar 9)))) (te := (tVar 5)) (by rfl) S.nd (pi_list (pv 3)) (blkOk_by (by rfl)) (fun _ _ _ _ _ => (pg_name (i := 5) S.nd rfl (by first | exact Or.inl rfl | exact Or.inr rfl))) (fun _ _ _ _ _ => pts_one (pt_cmpR (op_inD (un65 hr)) (pe_callB (cr_sumT (by rfl)) (by rfl) T.n_sum bt_sum (pa_cons (pv 5) pa_nil)) (pv 9) (by rfl))) (fun _ _ _ _ _ => (pv 5)))))) pss_nil) (pss_cons (ps_if (pt_cmpR (op_eqD hr.units) (pv 2) pe_int (nomark _)) (pss_cons (ps_for PassesOwn.never (by rfl) (pi_range1 (by rfl) T.n_range (pa_cons (pe_op op_add pe_int (pc (E := E0) (h__law_draw.mono (by decide)) hr hgd (by rfl) pass0 (pa_cons (pv 0) (pa_cons (pv 1) pa_nil)))) pa_nil)) (pg_name (i := 7) S.nd rfl (by first | exact Or.inl rfl | exact Or.inr rfl)) (pss_cons (ps_asg (pe_tup (pa_cons (pe_lc (own := [("key", 13)]) (g := (gName 13)) (tt := (tTest (tOp (rEqD K) (tCall (sp__law_draw K) [] E0 (tCons (tVar 0) (tCons (tC (.int 2)) tNil))) (tC (.int 0))))) (te := (tVar 13)) (by rfl) S.nd (pi_range1 (by rfl) T.n_range (pa_cons (pv 1) pa_nil)) (blkOk_by (by rfl)) (fun _ _ _ _ _ => (pg_name (i := 13) S.nd rfl (by first | exact Or.inl rfl | exact Or.inr rfl))) (fun _ _ _ _ _ => pts_one (pt_cmpR (op_eqD hr.units) (pc (E := E0) (h__law_draw.mono (by decide)) hr hgd (by rfl) pass0 (pa_cons (pv 0) (pa_cons pe_int pa_nil))) pe_int (nomark _))) (fun _ _ _ _ _ => (pv 13))) (pa_cons (pc (E := E0) (h__law_draw.mono (by decide)) hr hgd (by rfl) pass0 (pa_cons (pv 0) (pa_cons pe_int pa_nil))) pa_nil))) (pg_tup (by rfl) (pgs_cons (pg_name (i := 11) S.nd rfl (by first | exact Or.inl rfl | exact Or.inr rfl)) (pgs_cons (pg_name (i := 12) S.nd rfl (by first | exact Or.inl rfl | exact Or.inr rfl)) pgs_nil)))) (pss_one (ps_if (pt_cmpR op_gt (pe_callB call_len_seq (by rfl) T.n_len bt_len (pa_cons (pv 11) pa_nil)) pe_int (nomark _)) (pss_one (ps_setLc (i := 3) (own := [("row", 5)]) (g := (gName 5)) (tt := (tTest (tOp (rEqD K) (tOp (rI (fun _ j => 0 < j) fun i j => .int (i % j)) (tCB (rSum K) (tCons (tLc (iList K (tVar 11)) (gName 13) tYes (tOp (rIx K) (tVar 5) (tVar 13)) [13]) tNil)) (tC (.int 2))) (tVar 12)))) (te := (tVar 5)) (by rfl) S.nd rfl rfl (sw_true rfl rfl rfl (by rfl)) (pi_list (pv 3)) (blkOk_by (by rfl)) (fun _ _ _ _ _ => (pg_name (i := 5) S.nd rfl (by first | exact Or.inl rfl | exact Or.inr rfl))) (fun _ _ _ _ _ => pts_one (pt_cmpR (op_eqD hr.units) (pe_op op_mod (pe_callB (cr_sum (by rfl)) (by rfl) T.n_sum bt_sum (pa_cons (pe_lc (own := [("key", 13)]) (g := (gName 13)) (tt := tYes) (te := (tOp (rIx K) (tVar 5) (tVar 13))) (by rfl) S.nd (pi_list (pv 11)) (blkOk_by (by rfl)) (fun _ _ _ _ _ => (pg_name (i := 13) S.nd rfl (by first | exact Or.inl rfl | exact Or.inr rfl))) (fun _ _ _ _ _ => pts_nil) (fun _ _ _ _ _ => (pe_ix ix_seq (pv 5) (pv 13) (fun _ _ => rfl)))) pa_nil)) pe_int) (pv 12) (nomark _))) (fun _ _ _ _ _ => (pv 5)))) pss_nil)))) (pss_one (ps_ret (pv 3)))) pss_nil) (pss_cons (ps_if (pt_cmpR (op_eqD hr.units) (pv 2) pe_int (nomark _)) (pss_one (ps_ret (pe_lc (own := [("turn", 7)]) (g := (gName 7)) (tt := tYes) (te := (tCall (sp__law_row K) [] E0 (tCons (tVar 0) (tCons (tVar 1) tNil)))) (by rfl) S.nd (pi_range1 (by rfl) T.n_range (pa_cons (pe_op op_add pe_int (pc (E := E0) (h__law_draw.mono (by decide)) hr hgd (by rfl) pass0 (pa_cons (pv 0) (pa_cons pe_int pa_nil)))) pa_nil)) (blkOk_by (by rfl)) (fun _ _ _ _ _ => (pg_name (i := 7) S.nd rfl (by first | exact Or.inl rfl | exact Or.inr rfl))) (fun _ _ _ _ _ => pts_nil) (fun _ _ _ _ _ => (pc (E := E0) (h__law_row.mono (by decide)) hr hgd (by rfl) pass0 (pa_cons (pv 0) (pa_cons (pv 1) pa_nil))))))) pss_nil) (pss_one (ps_ret (pe_lc (own := [("row", 5)]) (g := (gName 5)) (tt := (tTest (tOp (rI0 fun i j => .bl (decide (j < i))) (tCall (sp__law_draw K) [] E0 (tCons (tVar 0) (tCons (tC (.int 9)) tNil))) (tC (.int 0))))) (te := (tVar 5)) (by rfl) S.nd (pi_list (pv 3)) (blkOk_by (by rfl)) (fun _ _ _ _ _ => (pg_name (i := 5) S.nd rfl (by first | exact Or.inl rfl | exact Or.inr rfl))) (fun _ _ _ _ _ => pts_one (pt_cmpR op_gt (pc (E := E0) (h__law_draw.mono (by decide)) hr hgd (by rfl) pass0 (pa_cons (pv 0) (pa_cons pe_int pa_nil))) pe_int (nomark _))) (fun _ _ _ _ _ => (pv 5))))))))))), ?_⟩
  rintro ⟨n, way⟩ ⟨h1, h5, h7⟩
  dsimp only at h1 h5 h7
  have ok : ∀ ys : List Row, ys.Sublist (rowsOf n) → ∃ rows : List Row, (∀ r ∈ rows, OkRow n r) ∧ rows.length ≤ 32 ∧ IsL K ys = IsL K rows := fun ys hs =>
    ⟨ys, fun r hr => rowsOf_len1 (hs.subset hr), Nat.le_trans hs.length_le (rows32 h5), rfl⟩
  have hz : (rowsOf n).length ≤ sizeLine := Nat.le_trans (rows32 h5) (by decide)
  refine ss_seq (ss_set ?_)
  repeat walk_at "dl"
  refine c_mk n (by omega) fun A e => ?_
  subst e
  refine ss_seq (ss_if ?_)
  repeat walk_at "dl"
  refine is_x ⟨fun h0 => ?_, fun h0 => ?_⟩
  · refine ss_seq (ss_set ?_)
    repeat walk_at "dl"
    refine c_draw (n := 4) ⟨by decide, by decide⟩ fun r hr => ?_
    repeat walk_at "dl"
    refine w_new (wn_sub (α := Row) (js := [5]) (by decide) (wx_list ?_))
    repeat walk_at "dl"
    refine ⟨_, le_L _, hz, fun x hx => ?_, ok⟩
    repeat walk_at "dl"
    refine c_draw ⟨by omega, by omega⟩ fun r2 hr2 => ?_
    repeat walk_at "dl"
    refine is_x ?_
    repeat walk_at "dl"
    exact Le.refl _
  have draw1 : ∀ {m : Nat}, 0 < m → m < 1000 → 0 < m ∧ m < 1073741824 := fun a b => ⟨a, by omega⟩
  repeat walk_at "dl"
  refine is_x ⟨fun h0 => ?_, fun h0 => ?_⟩
  · refine ss_cut (fun ρ' => ∃ ps : List Part, (∀ p ∈ ps, OkPart n p) ∧ ps.length ≤ 100 ∧ ρ' = [.fact isS, .fact (Is K n), .fact (Is K way), .fact (IsL K (rowsOf n)), .no, .no, .fact (IsL K ps), .no, .no, .no, .no, .no, .no, .no]) (ss_set ?_) ?_
    · refine w_new (wn_rel (α := Nat) (β := Part) (js := [7]) (by decide) (wx_range ?_))
      repeat walk_at "dl"
      refine c_draw (draw1 (m := n + way) (by omega) (by omega)) fun r hr => ?_
      repeat walk_at "dl"
      refine ⟨_, 1 + r, rfl, Le.refl _, Nat.le_trans (by omega : 1 + r ≤ 100) (by decide), fun pre ys => ys.length = pre.length ∧ ∀ p ∈ ys, OkPart n p, ⟨rfl, fun _ z => by cases z⟩, fun pre x ys hx hp _ iv => ?_, fun ys hl iv => ?_⟩
      · repeat walk_at "dl"
        refine ⟨fun _ => ?_, fun z => by cases z⟩
        repeat walk_at "dl"
        refine r_mod (by decide) ?_
        repeat walk_at "dl"
        refine c_mk (n, 2 + way % 2) ⟨by show n ≤ 7; omega, by show 2 + way % 2 ≤ 1000; omega⟩ fun A ⟨p, hp, _, e⟩ => ?_
        subst e
        refine ⟨p, Le.refl _, by rw [List.length_append, List.length_append, iv.1]; rfl, fun q hq => ?_⟩
        rcases List.mem_append.mp hq with z | z
        · exact iv.2 q z
        · rw [List.mem_singleton.mp z]; exact hp
      · exact ⟨ys, iv.2, by rw [iv.1, List.length_range]; omega, rfl⟩
    rintro ρ' ⟨ps, hps, hpl, rfl⟩
    refine ss_cut (fun ρ' => ∃ ps : List Part, (∀ p ∈ ps, OkPart n p) ∧ ps.length ≤ 100 ∧ ρ' = [.fact isS, .fact (Is K n), .fact (Is K way), .fact (IsL K (rowsOf n)), .no, .no, .fact (IsL K ps), .no, .no, .no, .no, .no, .no, .no]) (ss_set ?_) ?_
    · refine w_new (wn_sub (α := Part) (js := [8]) (by decide) (wx_list ?_))
      repeat walk_at "dl"
      refine ⟨ps, le_L _, Nat.le_trans hpl (by decide), fun p hp => ?_, fun ys hs => ⟨ys, fun q hq => hps q (hs.subset hq), Nat.le_trans hs.length_le hpl, rfl⟩⟩
      repeat walk_at "dl"
      refine is_x ?_
      repeat walk_at "dl"
      exact Le.refl _
    rintro ρ' ⟨ps, hps, hpl, rfl⟩
    refine ss_ret (w_new (wn_sub (α := Row) (js := [5]) (by decide) (wx_list ?_)))
    repeat walk_at "dl"
    refine ⟨_, le_L _, hz, fun x hx => ?_, ok⟩
    repeat walk_at "dl"
    refine w_none (fun p : Part => contains x p) (js := [8]) (by decide) (wx_list ?_)
    repeat walk_at "dl"
    refine ⟨ps, le_L _, Nat.le_trans hpl (by decide), fun p hp => ?_, ?_⟩
    · repeat walk_at "dl"
      refine c_mk (x, p) ⟨fun l hl => by show l.1 < x.length; rw [(rowsOf_len1 hx).1]; exact ((hps p hp).1 l hl).1, (hps p hp).2.2⟩ fun A e => ?_
      subst e
      exact is_x rfl
    · refine is_x ?_
      repeat walk_at "dl"
      exact Le.refl _
  repeat walk_at "dl"
  refine is_x ⟨fun h0 => ?_, fun h0 => ?_⟩
  · refine ss_cut (fun ρ' => ∃ ks : List Nat, ks.length ≤ 100 ∧ ρ' = [.fact isS, .fact (Is K n), .fact (Is K way), .fact (IsL K (rowsOf n)), .no, .no, .no, .no, .no, .fact (IsL K ks), .no, .no, .no, .no]) (ss_set ?_) ?_
    · refine w_new (wn_sub (α := Nat) (js := [10]) (by decide) (wx_range ?_))
      repeat walk_at "dl"
      refine ⟨_, n + 1, rfl, Le.refl _, Nat.le_trans (by omega : n + 1 ≤ 100) (by decide), fun x hx => ?_, fun ys hs => ⟨ys, by have := hs.length_le; rw [List.length_range] at this; omega, rfl⟩⟩
      repeat walk_at "dl"
      refine c_draw (n := 2) ⟨by decide, by decide⟩ fun r hr => ?_
      repeat walk_at "dl"
      refine is_x ?_
      repeat walk_at "dl"
      exact Le.refl _
    rintro ρ' ⟨ks, hkl, rfl⟩
    refine ss_ret (w_new (wn_sub (α := Row) (js := [5]) (by decide) (wx_list ?_)))
    repeat walk_at "dl"
    refine ⟨_, le_L _, hz, fun x hx => ?_, ok⟩
    repeat walk_at "dl"
    refine c_sumT ?_
    repeat walk_at "dl"
    refine R.le (Le.refl _) (le_L ks) (r_inL ?_)
    refine is_x ?_
    repeat walk_at "dl"
    exact Le.refl _
  repeat walk_at "dl"
  refine is_x ⟨fun h0 => ?_, fun h0 => ?_⟩
  · refine ss_cut (fun ρ' => ∃ (rs : List Row) (s5 s7 s11 s12 : Slot), rs.Sublist (rowsOf n) ∧ ρ' = [.fact isS, .fact (Is K n), .fact (Is K way), .fact (IsL K rs), .no, s5, .no, s7, .no, .no, .no, s11, s12, .no]) (ss_forT (α := Nat) (js := [7]) (wx_range ?_)) ?_
    · repeat walk_at "dl"
      refine c_draw (draw1 (m := n) (by omega) (by omega)) fun r hr => ?_
      repeat walk_at "dl"
      refine ⟨_, 1 + r, rfl, Le.refl _, Nat.le_trans (by omega : 1 + r ≤ 100) (by decide), fun pre ρ' => ∃ (rs : List Row) (s5 s7 s11 s12 : Slot), rs.Sublist (rowsOf n) ∧ ρ' = [.fact isS, .fact (Is K n), .fact (Is K way), .fact (IsL K rs), .no, s5, .no, s7, .no, .no, .no, s11, s12, .no], ⟨_, _, _, _, _, List.Sublist.refl _, rfl⟩, ?_, fun ρ' h => h⟩
      rintro pre x ρ' hx hp ⟨rs, s5, s7, s11, s12, hs, rfl⟩
      refine g_name ?_
      refine ss_cut (fun ρ' => ∃ (ks : List Nat) (bit : Nat), (∀ k ∈ ks, k < n) ∧ ks.length ≤ n ∧ ρ' = [.fact isS, .fact (Is K n), .fact (Is K way), .fact (IsL K rs), .no, s5, .no, .fact (Is K x), .no, .no, .no, .fact (IsL K ks), .fact (Is K bit), .no]) (ss_asg (js := [11, 12]) (w_tupF ?_)) ?_
      · repeat walk_at "dl"
        refine w_new (wn_sub (α := Nat) (js := [13]) (by decide) (wx_range ?_))
        repeat walk_at "dl"
        refine ⟨_, n, rfl, Le.refl _, Nat.le_trans (by omega : n ≤ 100) (by decide), fun y hy => ?_, fun ks hs => ?_⟩
        · repeat walk_at "dl"
          refine c_draw (n := 2) ⟨by decide, by decide⟩ fun r hr => ?_
          repeat walk_at "dl"
          refine is_x ?_
          repeat walk_at "dl"
          exact Le.refl _
        · repeat walk_at "dl"
          refine c_draw (n := 2) ⟨by decide, by decide⟩ fun r hr => ?_
          repeat walk_at "dl"
          refine ⟨by show 2 ≤ 1000; decide, g_tupF rfl ?_⟩
          repeat walk_at "dl"
          exact ⟨ks, r, fun k hk => List.mem_range.mp (hs.subset hk), by have := hs.length_le; rw [List.length_range] at this; exact this, rfl⟩
      rintro ρ' ⟨ks, bit, hks, hkl, rfl⟩
      repeat walk_at "dl"
      refine c_lenL (le_L ks) ?_
      repeat walk_at "dl"
      refine is_x ⟨fun h2 => ?_, fun h2 => ?_⟩
      · refine ss_set (w_new (wn_sub (α := Row) (js := [5]) (by decide) (wx_list ?_)))
        repeat walk_at "dl"
        refine ⟨rs, le_L _, Nat.le_trans hs.length_le hz, fun y hy => ?_, fun ys hs2 => ⟨ys, _, _, _, _, hs2.trans hs, rfl⟩⟩
        repeat walk_at "dl"
        refine w_new (wn_mapT (α := Nat) (fun k : Nat => y.getD k 0) (js := [13]) (by decide) (wx_list ?_))
        repeat walk_at "dl"
        refine ⟨ks, le_L _, Nat.le_trans (by omega : ks.length ≤ 100) (by decide), fun k hk => ?_, ?_⟩
        · repeat walk_at "dl"
          exact r_ixT (getD_some (by rw [(rowsOf_len1 (hs.subset hy)).1]; exact hks k hk)) (Le.refl _)
        · repeat walk_at "dl"
          refine c_sumL (le_L _) ?_
          repeat walk_at "dl"
          refine r_mod (by decide) ?_
          repeat walk_at "dl"
          refine is_x ?_
          repeat walk_at "dl"
          exact Le.refl _
      · repeat walk_at "dl"
        exact ⟨rs, _, _, _, _, hs, rfl⟩
    rintro ρ' ⟨rs, s5, s7, s11, s12, hs, rfl⟩
    repeat walk_at "dl"
    exact ok rs hs
  repeat walk_at "dl"
  refine is_x ⟨fun h0 => ?_, fun h0 => ?_⟩
  · refine ss_ret (w_new (wn_rel (α := Nat) (β := Row) (js := [7]) (by decide) (wx_range ?_)))
    repeat walk_at "dl"
    refine c_draw (n := 4) ⟨by decide, by decide⟩ fun r hr => ?_
    repeat walk_at "dl"
    refine ⟨_, 2 + r, rfl, Le.refl _, Nat.le_trans (by omega : 2 + r ≤ 100) (by decide), fun pre ys => ys.length = pre.length ∧ ∀ p ∈ ys, OkRow n p, ⟨rfl, fun _ z => by cases z⟩, fun pre x ys hx hp _ iv => ?_, fun ys hl iv => ?_⟩
    · repeat walk_at "dl"
      refine ⟨fun _ => ?_, fun z => by cases z⟩
      repeat walk_at "dl"
      refine c_mk n (by omega) fun A ⟨p, hp, e⟩ => ?_
      subst e
      refine ⟨p, Le.refl _, by rw [List.length_append, List.length_append, iv.1]; rfl, fun q hq => ?_⟩
      rcases List.mem_append.mp hq with z | z
      · exact iv.2 q z
      · rw [List.mem_singleton.mp z]; exact hp
    · exact ⟨ys, iv.2, by rw [iv.1, List.length_range]; omega, rfl⟩
  repeat walk_at "dl"
  refine w_new (wn_sub (α := Row) (js := [5]) (by decide) (wx_list ?_))
  repeat walk_at "dl"
  refine ⟨_, le_L _, hz, fun x hx => ?_, ok⟩
  repeat walk_at "dl"
  refine c_draw (n := 9) ⟨by decide, by decide⟩ fun r2 hr2 => ?_
  repeat walk_at "dl"
  refine is_x ?_
  repeat walk_at "dl"
  exact Le.refl _
end
end K89
/-! K89p: the program's defs, further. -/
namespace K89
open PySem PySem.Spec PyProof.Rows L2 DL
section
variable {P : Program} {w : World} {K : PySem.W.Frag} {mg : PySem.Str → Option Value} {base : Heap}
local macro_rules | `(tactic| walk_at "dl") => `(tactic| first
  | with_reducible refine ss_ret ?_ | with_reducible refine ss_seq ?_ | with_reducible refine ss_if ?_ | with_reducible refine ss_next ?_ | with_reducible refine ss_retN ?_
  | refine w_var (by rfl) ?_ | with_reducible refine w_lit ?_ | with_reducible refine w_bl ?_ | with_reducible refine w_non ?_ | with_reducible refine w_str ?_ | with_reducible refine w_val ?_
  | with_reducible refine w_op ?_ | with_reducible refine w_cb ?_ | with_reducible refine w_call ?_ | with_reducible refine wa_cons ?_ | with_reducible refine wa_nil ?_
  | with_reducible refine wt_test ?_ | with_reducible refine wt_B ?_ | with_reducible refine wt_not ?_ | with_reducible refine wt_yes ?_ | with_reducible refine wt_and ?_ | with_reducible refine wt_or ?_
  | with_reducible refine w_andV ?_ | with_reducible refine w_orV ?_ | with_reducible refine w_notV ?_ | with_reducible refine w_if ?_ | with_reducible refine w_chain ?_
  | with_reducible refine wo_none ?_ | with_reducible refine wo_some ?_
  | with_reducible refine r_eq ?_ | with_reducible refine r_ne ?_ | with_reducible refine r_lt ?_ | with_reducible refine r_add ?_ | with_reducible refine r_and ?_ | with_reducible refine r_shr ?_ | with_reducible refine r_ltn ?_ | with_reducible refine r_gtn ?_ | with_reducible refine r_len ?_
  | with_reducible refine r_inT ?_ | with_reducible refine r_notInT ?_ | with_reducible refine r_inL ?_
  | with_reducible refine c_lenT ?_ | with_reducible refine c_lenP ?_ | with_reducible refine r_fst ?_ | with_reducible refine r_snd ?_ | with_reducible refine g_name ?_ | with_reducible refine g_pair ?_ | with_reducible refine gs_name ?_ | with_reducible refine gs_nil ?_)
theorem C.le3 {r : List V → Hp → VK → Prop} {A B D D' : Fact} {𝒜 : Fact → Prop} (l : Le D D') (h : C r [A, B, D'] 𝒜) : C r [A, B, D] 𝒜 := fun vs Hf H Q s as q => h vs Hf H Q s (match vs, as with | [_, _, _], as => ⟨as.1, as.2.1, l _ _ as.2.2.1, trivial⟩) q
theorem C.le2 {r : List V → Hp → VK → Prop} {A B B' : Fact} {𝒜 : Fact → Prop} (l : Le B B') (h : C r [A, B'] 𝒜) : C r [A, B] 𝒜 := fun vs Hf H Q s as q => h vs Hf H Q s (match vs, as with | [_, _], as => ⟨as.1, l _ _ as.2.1, trivial⟩) q
def opp (r : Row) : Row := r.map fun b => 1 - b
theorem opp_ok {n : Nat} {r : Row} (h : OkRow n r) : OkRow n (opp r) := ⟨by unfold opp; rw [List.length_map]; exact h.1, fun b hb => by
  obtain ⟨c, _, rfl⟩ := List.mem_map.mp hb
  omega⟩
theorem both_iff {n : Nat} {rows : List Row} : both n rows = true ↔ ∀ k, k < n → (∃ r ∈ rows, r.getD k 0 = 0) ∧ ∃ r ∈ rows, r.getD k 0 = 1 := by
  unfold both col
  rw [List.all_eq_true]
  constructor
  · intro h k hk
    have := of_decide_eq_true (h k (List.mem_range.mpr hk))
    rw [List.mem_map, List.mem_map] at this
    exact this
  · intro h k hk
    refine decide_eq_true ?_
    rw [List.mem_map, List.mem_map]
    exact h k (List.mem_range.mp hk)
theorem both_opp {n : Nat} {rows : List Row} {r : Row} (h : OkRow n r) : both n (rows ++ [r, opp r]) = true := by
  refine both_iff.mpr fun k hk => ?_
  have h1 : r.getD k 0 ≤ 1 := getD_le h.2 k
  have h2 : (opp r).getD k 0 = 1 - r.getD k 0 := by
    have hl : k < r.length := by rw [h.1]; exact hk
    unfold opp
    rw [List.getD_eq_getElem?_getD, List.getElem?_map, List.getElem?_eq_getElem hl, List.getD_eq_getElem?_getD, List.getElem?_eq_getElem hl]
    rfl
  by_cases h0 : r.getD k 0 = 0
  · exact ⟨⟨r, by simp, h0⟩, opp r, by simp, by omega⟩
  · exact ⟨⟨opp r, by simp, by omega⟩, r, by simp, by omega⟩
theorem both_same {n : Nat} {xs ys : List Row} (h : ∀ r, r ∈ xs ↔ r ∈ ys) (hb : both n ys = true) : both n xs = true := by
  refine both_iff.mpr fun k hk => ?_
  obtain ⟨⟨r, hr, e⟩, q, hq, e2⟩ := both_iff.mp hb k hk
  exact ⟨⟨r, (h r).mpr hr, e⟩, q, (h q).mpr hq, e2⟩
def sp__law_rule_of (K : PySem.W.Frag) : Sp := mkSp (fun t : Nat × List Row => [isS, Is K t.1, Is K (PL.mk t.2)]) (fun t => 1 ≤ t.1 ∧ t.1 ≤ 5 ∧ (∀ r ∈ t.2, OkRow t.1 r) ∧ t.2.length ≤ 32) fun t A => ∃ rows : List Row, OkRule (t.1, rows) ∧ rows.length < 64 ∧ A = Is K ((t.1, rows) : Rule)
theorem d__law_rule_of (T : TF K mg) (h__law_is_rule : Has P w K mg base CX0 1 "_law_is_rule" ["size", "rows"] (sp__law_is_rule K)) (h__law_row : Has P w K mg base CX0 2 "_law_row" ["stream", "size"] (sp__law_row K)) : Has P w K mg base CX0 3 "_law_rule_of" ["stream", "size", "rows"] (sp__law_rule_of K) := by
  obtain ⟨f, fd, F, hm, hb⟩ := T.d__law_rule_of
  refine fn_facts F sc__law_rule_of hm hb (fun _ => by first | rfl | (split <;> rfl)) fun cdv A outer s H E hr hgd => ?_
  have S := sc__law_rule_of
  refine ⟨(tSeq (tAsg (tCB (rListA K) (tCons (tVar 2) tNil)) (gName 3)) (tSeq (tFor (iRng1 (tCons (tC (.int 3)) tNil)) (gName 4) (tIfS (tNot (tB (tCall (sp__law_is_rule K) [] E0 (tCons (tVar 1) (tCons (tVar 3) tNil))))) (tSeq (tAsg (tCall (sp__law_row K) [] E0 (tCons (tVar 0) (tCons (tVar 1) tNil))) (gName 5)) (tAsg (tOp rCat (tVar 3) (tLst (tCons (tVar 5) (tCons (tCB (rTupA K) (tCons (tLc (iTup K (tVar 5)) (gName 6) tYes (tOp (rI0 fun i j => .int (i - j)) (tC (.int 1)) (tVar 6)) [6]) tNil)) tNil)))) (gName 3))) tNext)) (tSeq (tIfS (tNot (tB (tCall (sp__law_is_rule K) [] E0 (tCons (tVar 1) (tCons (tVar 3) tNil))))) (tAsg (tOp rCat (tVar 3) (tLst (tCons (tOp (rRepT K) (tTup (tCons (tC (.int 0)) tNil)) (tVar 1)) (tCons (tOp (rRepT K) (tTup (tCons (tC (.int 1)) tNil)) (tVar 1)) tNil)))) (gName 3)) tNext) (tRet (tTup (tCons (tVar 1) (tCons (tCB (rTupA K) (tCons (tCB (rSortedT K P w) (tCons (tCB (rSetOfT K P w) (tCons (tVar 3) tNil)) tNil)) tNil)) tNil))))))), (pss_cons (ps_set (i := 3) S.nd rfl (by first | exact Or.inl rfl | exact Or.inr rfl) (pe_callTy call_list_of (by rfl) T.n_list bt_list (pa_cons (pv 2) pa_nil))) (pss_cons (ps_for PassesOwn.never (by rfl) (pi_range1 (by rfl) T.n_range (pa_cons pe_int pa_nil)) (pg_name (i := 4) S.nd rfl (by first | exact Or.inl rfl | exact Or.inr rfl)) (pss_one (ps_if (pt_not (pt_val (pc (E := E0) (h__law_is_rule.mono (by decide)) hr hgd (by rfl) pass0 (pa_cons (pv 1) (pa_cons (pv 3) pa_nil))))) (pss_cons (ps_set (i := 5) S.nd rfl (by first | exact Or.inl rfl | exact Or.inr rfl) (pc (E := E0) (h__law_row.mono (by decide)) hr hgd (by rfl) pass0 (pa_cons (pv 0) (pa_cons (pv 1) pa_nil)))) (pss_one (ps_set (i := 3) S.nd rfl (by first | exact Or.inl rfl | exact Or.inr rfl) (pe_op op_cat (pv 3) (pe_lst (pa_cons (pv 5) (pa_cons (pe_callTy call_tuple_of (by rfl) T.n_tuple bt_tuple (pa_cons (pe_lc (own := [("bit", 6)]) (g := (gName 6)) (tt := tYes) (te := (tOp (rI0 fun i j => .int (i - j)) (tC (.int 1)) (tVar 6))) (by rfl) S.nd (pi_tup (pv 5)) (blkOk_by (by rfl)) (fun _ _ _ _ _ => (pg_name (i := 6) S.nd rfl (by first | exact Or.inl rfl | exact Or.inr rfl))) (fun _ _ _ _ _ => pts_nil) (fun _ _ _ _ _ => (pe_op op_sub pe_int (pv 6)))) pa_nil)) pa_nil))))))) pss_nil))) (pss_cons (ps_if (pt_not (pt_val (pc (E := E0) (h__law_is_rule.mono (by decide)) hr hgd (by rfl) pass0 (pa_cons (pv 1) (pa_cons (pv 3) pa_nil))))) (pss_one (ps_set (i := 3) S.nd rfl (by first | exact Or.inl rfl | exact Or.inr rfl) (pe_op op_cat (pv 3) (pe_lst (pa_cons (pe_op op_repT (pe_tup (pa_cons pe_int pa_nil)) (pv 1)) (pa_cons (pe_op op_repT (pe_tup (pa_cons pe_int pa_nil)) (pv 1)) pa_nil)))))) pss_nil) (pss_one (ps_ret (pe_tup (pa_cons (pv 1) (pa_cons (pe_callTy call_tuple_of (by rfl) T.n_tuple bt_tuple (pa_cons (pe_callB (cr_sortedT (by rfl)) (by rfl) T.n_sorted bt_sorted (pa_cons (pe_callTy (cr_setOfT (by rfl) hr.units) (by rfl) T.n_set bt_set (pa_cons (pv 3) pa_nil)) pa_nil)) pa_nil)) pa_nil)))))))), ?_⟩
  rintro ⟨n, rows⟩ ⟨h1, h5, hr1, hr2⟩
  dsimp only at h1 h5 hr1 hr2
  refine ss_seq (ss_set (w_new (wn_cb ?_)))
  repeat walk_at "dl"
  refine cn_listL (Le.refl _) ?_
  refine ss_cut (fun ρ' => ∃ (xs : List Row) (s4 s5 : Slot), (∀ r ∈ xs, OkRow n r) ∧ xs.length < 60 ∧ both n xs = true ∧ ρ' = [.fact isS, .fact (Is K n), .fact (Is K (PL.mk rows)), .fact (IsL K xs), s4, s5, .no]) (ss_forT (α := Nat) (js := [4]) (wx_range ?_)) ?_
  · repeat walk_at "dl"
    refine ⟨_, 3, rfl, Le.refl _, by decide, fun pre ρ' => ∃ (xs : List Row) (s4 s5 : Slot), (∀ r ∈ xs, OkRow n r) ∧ xs.length ≤ 32 + 2 * pre.length ∧ (pre ≠ [] → both n xs = true) ∧ ρ' = [.fact isS, .fact (Is K n), .fact (Is K (PL.mk rows)), .fact (IsL K xs), s4, s5, .no], ⟨rows, _, _, hr1, by omega, fun z => absurd rfl z, rfl⟩, ?_, ?_⟩
    · rintro pre x ρ' hx hp ⟨xs, s4, s5, k1, k2, k3, rfl⟩
      have hpl : pre.length + 1 ≤ 3 := by
        have := hp.length_le
        rw [List.length_append, List.length_range] at this
        exact this
      repeat walk_at "dl"
      refine C.le2 (le_L xs) (c_mk (n, xs) ⟨k1, by show xs.length < 60; omega, by show n ≤ 7; omega⟩ fun A e => ?_)
      subst e
      refine is_x ⟨fun hb => ?_, fun hb => ?_⟩
      · refine ss_seq (ss_set ?_)
        repeat walk_at "dl"
        refine c_mk n (by omega) fun A ⟨r, hr, e⟩ => ?_
        subst e
        refine ss_set (w_new (wn_op ?_))
        repeat walk_at "dl"
        refine w_new (wn_lstL (α := Row) ?_)
        repeat walk_at "dl"
        refine w_new (wn_mapT (α := Nat) (fun b : Nat => 1 - b) (js := [6]) (by decide) (wx_tup ?_))
        repeat walk_at "dl"
        refine ⟨r, Le.refl _, Nat.le_trans (by have := hr.1; omega : r.length ≤ 100) (by decide), fun b hb => ?_, ?_⟩
        · repeat walk_at "dl"
          exact r_sub (hr.2 b hb) (Le.refl _)
        · repeat walk_at "dl"
          refine c_tup le_l ?_
          repeat walk_at "dl"
          refine ⟨[r, opp r], ⟨Le.refl _, Le.refl _, trivial⟩, by show 2 ≤ 1000; decide, ?_⟩
          refine rn_cat (by rw [List.length_map]; show xs.length + 2 ≤ sizeLine; exact Nat.le_trans (by omega : xs.length + 2 ≤ 100) (by decide)) ?_
          refine ⟨xs ++ [r, opp r], .fact (Is K x), .fact (Is K r), fun q hq => ?_, ?_, fun _ => both_opp hr, ?_⟩
          · rcases List.mem_append.mp hq with z | z
            · exact k1 q z
            · rcases List.mem_cons.mp z with z | z
              · rw [z]; exact hr
              · rw [List.mem_singleton.mp z]; exact opp_ok hr
          · rw [List.length_append, List.length_append]
            show xs.length + 2 ≤ 32 + 2 * (pre.length + 1)
            omega
          · have e : isL K (xs.map Enc.enc ++ [r, opp r].map Enc.enc) = IsL K (xs ++ [r, opp r]) := by
              show isL K _ = isL K _
              rw [List.map_append]
            rw [e]
            rfl
      · refine ss_next ⟨xs, _, _, k1, by rw [List.length_append]; show xs.length ≤ 32 + 2 * (pre.length + 1); omega, fun _ => ?_, rfl⟩
        rwa [Bool.not_eq_false'] at hb
    · rintro ρ' ⟨xs, s4, s5, k1, k2, k3, rfl⟩
      rw [List.length_range] at k2
      exact ⟨xs, _, _, k1, by omega, k3 (by decide), rfl⟩
  rintro ρ' ⟨xs, s4, s5, k1, k2, k3, rfl⟩
  repeat walk_at "dl"
  refine C.le2 (le_L xs) (c_mk (n, xs) ⟨k1, by show xs.length < 60; omega, by show n ≤ 7; omega⟩ fun A e => ?_)
  subst e
  refine is_x ⟨fun hb => ?_, fun hb => ?_⟩
  · have hb : (!both n xs) = true := hb
    rw [k3] at hb
    cases hb
  repeat walk_at "dl"
  refine w_tup2 (α := Nat) (β := List Row) ?_
  repeat walk_at "dl"
  refine c_setT (le_L xs) (by omega) ?_
  repeat walk_at "dl"
  refine c_new (cn_sortTS (n := n) h1 (fun r hr => ⟨(k1 r hr).1, (k1 r hr).2⟩) fun zs pw hm hl => ?_)
  repeat walk_at "dl"
  refine c_tup le_l ?_
  repeat walk_at "dl"
  refine ⟨n, zs, ⟨_, _, rfl, Le.refl _, Le.refl _⟩, zs, ⟨⟨h1, by show n ≤ 7; omega, fun x hx => k1 x ((hm x).mp hx), by show zs.length ≤ 3000; omega, asc_of pw⟩, both_same hm k3⟩, hl, rfl⟩
def sp__law_rule (K : PySem.W.Frag) : Sp := mkSp (fun n : Nat => [isS, Is K n]) (fun n => 1 ≤ n ∧ n ≤ 5) fun n A => ∃ rows : List Row, OkRule (n, rows) ∧ rows.length < 64 ∧ A = Is K ((n, rows) : Rule)
theorem d__law_rule (T : TF K mg) (h__law_draw : Has P w K mg base CX0 1 "_law_draw" ["stream", "total"] (sp__law_draw K)) (h__law_drawn_rows : Has P w K mg base CX0 4 "_law_drawn_rows" ["stream", "size", "way"] (sp__law_drawn_rows K)) (h__law_rule_of : Has P w K mg base CX0 3 "_law_rule_of" ["stream", "size", "rows"] (sp__law_rule_of K)) : Has P w K mg base CX0 5 "_law_rule" ["stream", "size"] (sp__law_rule K) := by
  obtain ⟨f, fd, F, hm, hb⟩ := T.d__law_rule
  refine fn_facts F sc__law_rule hm hb (fun _ => by first | rfl | (split <;> rfl)) fun cdv A outer s H E hr hgd => ?_
  have S := sc__law_rule
  refine ⟨(tRet (tCall (sp__law_rule_of K) [] E0 (tCons (tVar 0) (tCons (tVar 1) (tCons (tCall (sp__law_drawn_rows K) [] E0 (tCons (tVar 0) (tCons (tVar 1) (tCons (tCall (sp__law_draw K) [] E0 (tCons (tVar 0) (tCons (tC (.int 8)) tNil))) tNil)))) tNil))))), (pss_one (ps_ret (pc (E := E0) (h__law_rule_of.mono (by decide)) hr hgd (by rfl) pass0 (pa_cons (pv 0) (pa_cons (pv 1) (pa_cons (pc (E := E0) (h__law_drawn_rows.mono (by decide)) hr hgd (by rfl) pass0 (pa_cons (pv 0) (pa_cons (pv 1) (pa_cons (pc (E := E0) (h__law_draw.mono (by decide)) hr hgd (by rfl) pass0 (pa_cons (pv 0) (pa_cons pe_int pa_nil))) pa_nil)))) pa_nil)))))), ?_⟩
  rintro n ⟨h1, h5⟩
  have h1 : 1 ≤ n := h1
  have h5 : n ≤ 5 := h5
  repeat walk_at "dl"
  refine c_draw (n := 8) ⟨by decide, by decide⟩ fun r hr => ?_
  repeat walk_at "dl"
  refine c_mk (n, r) ⟨h1, h5, by show r ≤ 7; omega⟩ fun A ⟨rows, k1, k2, e⟩ => ?_
  subst e
  repeat walk_at "dl"
  refine C.le3 (le_L rows) (c_mk (n, rows) ⟨h1, h5, k1, k2⟩ fun A h => h)
end
end K89
/-! DLs: min(xs, key=lambda x: (len(x), x)) of a list of tuples. -/
namespace DL
open PySem PySem.Spec PySem.W PyProof.Rows L2
section
variable {prog : Program} {w : World} {A : Around} {E : Value → Shared → Prop} {s : Shared} {mg mb : PySem.Str → Option Value}
/-- (len(x), x) -/
abbrev keyBody (x : PySem.Str) (q1 q2 q3 q4 q5 : Pos) (k : Nat) : Expr := .Tuple [.Call (.Name "len" q1) [.Name x q2] [] q3, .Name x q4] k q5
/-- the lambda's scope: its parameter, len -/
structure KeyS (x : PySem.Str) (scope : Scope) : Prop where
  kind : scope.kind = .function
  co : scope.isCoroutine = false
  gen : scope.isGenerator = false
  cell : ∀ y ∈ scope.names, y.2 ≠ .cell
  free : ∀ y ∈ scope.names, y.2 ≠ .free
  own : scope.names.lookup x = some .local
  len : scope.names.lookup ("len" : PySem.Str) = some .globalImplicit
theorem key_call {f c' t : Addr} {x qual : PySem.Str} {params : Arguments} {scope : Scope} {pm ctv : Value} {items : Array Value} {q1 q2 q3 q4 q5 : Pos} {k : Nat} {Q : Value → Shared → Prop} (S : KeyS x scope) (hroom : A.depth < recursionLimit)
    (of : s.heap.get? f = some (kla_obj "<lambda>" qual params (keyBody x q1 q2 q3 q4 q5 k) scope [] pm c' ctv)) (hcd : s.heap.CodeRec (.ref c') qual)
    (hbind : bindArgs (kla_fn "<lambda>" qual params (keyBody x q1 q2 q3 q4 q5 k) scope [] pm (.ref c') ctv) ⟨[.ref t], []⟩ = pure [(x, .ref t)])
    (hg : s.heap.Ns mainGlobals mg) (hm : mg "len" = none) (hb : s.heap.Ns builtinsNs mb) (hmb : mb "len" = some (.builtin "len")) (lim : s.heap.NoLimit) (ht : IsTup s.heap t items) (hfit : (items.size : Int) < 2 ^ 63) (hdx : (x == ("__debug__" : PySem.Str)) = false)
    (h : ∀ (a : Addr) (h' : Heap) (tk t0 : Nat), s.heap.objs.size ≤ a → (∀ b o, s.heap.get? b = some o → h'.get? b = some o) → h'.get? a = some { cls := .type "tuple", data := .seq #[.int items.size t0, .ref t] } → Q (.ref a) { s with heap := h', toks := tk }) :
    wpAny (model prog w) A (call (.ref f) [.ref t]) Q E s := by
  refine wpAny_call (kla_callFunE hroom of rfl S.co S.gen rfl hcd ?_)
  rw [hbind]
  refine wpAny_pure (wpAny_newFunctionEnv S.cell (fun y hy => by
    rw [List.mem_singleton.mp hy]
    exact S.own) (fun h₁ hns hsb => ⟨lim.fresh _ hsb, ?_⟩) S.kind)
  have kp : ∀ b o, s.heap.get? b = some o → h₁.get? b = some o := fun b o e => hsb.extBut b o (Nat.ne_of_lt (Heap.lt_size e)) (Heap.get?_push_of_some _ e)
  refine kla_codeExpr ?_
  have nm : ∀ (q : Pos) (s2 : Shared) (Q2 : Value → Shared → Prop) (E2 : Value → Shared → Prop) (M2 : Model) (A2 : Around), s2.heap.Ns s.heap.objs.size (fun y => ([(x, Value.ref t)] : List (PySem.Str × Value)).reverse.lookup y) → Q2 (.ref t) s2 →
      wpAny M2 A2 (eval (.Name x q) (envX qual scope s.heap.objs.size f (.ref c') [])) Q2 E2 s2 := fun q s2 Q2 E2 M2 A2 hn hq =>
    wpAny_Name (wpAny_loadName_local S.kind S.own hn (by show ([(x, Value.ref t)] : List (PySem.Str × Value)).reverse.lookup x = some (.ref t); simp) hq) hdx
  have ht1 : IsTup h₁ t items := by
    obtain ⟨o, e, r⟩ := ht
    exact ⟨o, kp _ _ e, r⟩
  refine wpAny_Tuple_spliced (Calls.spliced_cons ?_)
  refine wpAny_Call_Name_kw (Calls.Name_function_global S.kind S.len (Calls.loadGlobal_builtin (hg.keeps kp) hm (hb.keeps kp) hmb ?_))
  refine PyProof.Rows.callWith_builtin1 (Calls.spliced_cons (nm _ _ _ _ _ _ hns (Calls.spliced_nil ?_))) rfl rfl
  refine len_tuple ht1 hfit ?_
  refine Calls.spliced_cons (nm _ _ _ _ _ _ hns (Calls.spliced_nil ⟨by show 2 ≤ sizeLine; decide, ?_⟩))
  have hsz : s.heap.objs.size ≤ h₁.objs.size := by
    have h1 := hsb.1
    rw [Heap.size_push] at h1
    rw [h1]
    exact Nat.le_succ _
  exact h h₁.objs.size _ _ _ hsz (fun b o e => Heap.get?_push_of_some _ (kp b o e)) (Heap.get?_push_size _ rfl)
end
section
variable {X : Cx} {pins : List (Addr × Obj)} {σ : L2.St} {H : Hp} {s : Shared}
/-- what the making of a lambda leaves of the abstract heap: it, or its table grown by one new code object -/
def Made (H : Hp) (P c' : Addr) (q : PySem.Str) (H1 : Hp) : Prop := H1 = H ∨ ∃ ps more, H P = some (.tbl ps) ∧ H c' = none ∧ (TriplesOk (ps ++ more).toList ∧ ∀ (pos : Pos) (cv : Value), codeAmong pos (ps ++ more).toList = some cv → codeAmong pos ps.toList = some cv ∨ cv = .ref c') ∧ H1 = upd (upd H P (.tbl (ps ++ more))) c' (LamX.CodeO c' q)
theorem lam_make3 {c P : Addr} {q : PySem.Str} {params : Arguments} {body : Expr} {scope : Scope} {pos : Pos} {E : Value → Shared → Prop} {Q : Value → Shared → Prop} (I : Inv X pins σ H s) (TB : LamX.TabB X.base X.mg c P) (hcode : X.env.code = .ref c)
    (hq : X.env.qual ++ "<lambda>" = q) (hT : LamX.TabS H P q) (hdef : defaultsOf params X.env = ([], [])) (hfree : ∀ y ∈ scope.names, y.2 ≠ .free)
    (h : ∀ (f c' : Addr) (pm ctv : Value) (H1 : Hp) (s' : Shared), Inv X pins σ H1 s' → Made H P c' q H1 → LamX.TabS H1 P q →
      s'.heap.get? f = some (kla_obj "<lambda>" q params body scope (cloFrom X.env.cells scope.names []) pm c' ctv) → H1 f = none → f ∉ frs X.stack → H1 c' = some (LamX.CodeO c' q) → Q (.ref f) s') :
    wpAny (model X.prog X.w) X.A (eval (.Lambda params body scope pos) X.env) Q E s := by
  obtain ⟨ps, hP, ht, ha⟩ := hT
  refine kla_eval hdef ?_
  rw [hq]
  have hcl := closure_ok (env := X.env) (scope := scope) (fun y hy e => absurd e (hfree y hy))
  have bP : s.heap.BuiltinsAt X.mg P := TB.bm.keeps I.bk
  have hP' : s.heap.get? P = some { cls := .none, data := .fields ps } := I.hok P _ hP
  have nofr : ∀ f, s.heap.objs.size ≤ f → f ∉ frs X.stack := fun f hf z => by
    rcases List.mem_cons.mp (I.stkSub _ z) with e | e
    · exact absurd (e ▸ I.lt) (Nat.not_lt_of_le hf)
    · exact I.nofs hf e
  cases hc : codeAmong pos ps.toList with
  | some cv =>
    obtain ⟨c', e, hco⟩ := ha pos cv hc
    subst e
    refine kla_makeFunctionHit (mg := X.mg) (c := c) (P := P) (ps := ps) hcl I.ok.glob (I.mod.glob.keeps I.bk) hcode (TB.code.keeps I.bk) hP' ht hc bP fun ctv h' tk hx hsz => ?_
    exact h h'.objs.size c' ((X.mg "__name__").getD .none) ctv H _ (I.kept fun b o e => Heap.get?_push_of_some _ (hx b o e)) (.inl rfl) ⟨ps, hP, ht, ha⟩ (Heap.get?_push_size _ rfl) (I.hok.fresh hsz) (nofr _ hsz) hco
  | none =>
    refine kla_makeFunction (mg := X.mg) (c := c) (P := P) (ps := ps) hcl I.ok.glob (I.mod.glob.keeps I.bk) hcode (TB.code.keeps I.bk) hP' ht hc TB.gP bP fun c' ctv h' tk hx hge hlt hrec htb => ?_
    obtain ⟨c2, oc, vs, t, e2, hoc, hd, hv⟩ := hrec
    cases e2
    have hsz : s.heap.objs.size ≤ h'.objs.size := Nat.le_trans hge (Nat.le_of_lt hlt)
    have nC : H c' = none := I.hok.fresh hge
    have nP : P ≠ c' := ne_of_none hP nC
    have I1 := LamX.inv_table (q := q) (t' := tk) (more := #[rawInt pos.line, rawInt pos.col, .ref c']) (h' := h'.push (kla_obj "<lambda>" q params body scope (cloFrom X.env.cells scope.names []) ((X.mg "__name__").getD .none) c' ctv)) I hP
      (fun b o hb e => Heap.get?_push_of_some _ (hx b o hb e)) (Heap.get?_push_of_some _ htb) hge ⟨oc, vs, t, Heap.get?_push_of_some _ hoc, hd, hv⟩
    have old : ∀ b o, H b = some o → (∀ ps, o ≠ .tbl ps) → upd (upd H P (.tbl (ps ++ #[rawInt pos.line, rawInt pos.col, .ref c']))) c' (LamX.CodeO c' q) b = some o := fun b o e n => by
      rw [upd_ne (ne_of_none e nC), upd_ne (fun z => n ps (by rw [z, hP] at e; exact (Option.some.inj e).symm))]
      exact e
    have tr : TriplesOk (ps ++ #[rawInt pos.line, rawInt pos.col, .ref c']).toList ∧ ∀ (p' : Pos) (cv : Value), codeAmong p' (ps ++ #[rawInt pos.line, rawInt pos.col, .ref c']).toList = some cv → codeAmong p' ps.toList = some cv ∨ cv = .ref c' := by
      rw [Array.toList_append]
      exact ⟨PySem.TriplesOk_snoc _ _ _ _ ht, fun p' cv hcv => LamX.among_app _ ht hcv⟩
    refine h h'.objs.size c' ((X.mg "__name__").getD .none) ctv _ _ I1 (.inr ⟨ps, _, hP, nC, tr, rfl⟩) ⟨_, by rw [upd_ne nP, upd_same], tr.1, fun p' cv hcv => ?_⟩ (Heap.get?_push_size _ rfl) ?_ (nofr _ hsz) upd_same
    · rcases tr.2 p' cv hcv with z | z
      · obtain ⟨c0, e1, e2⟩ := ha p' cv z
        exact ⟨c0, e1, old _ _ e2 LamX.codeO_ne⟩
      · exact ⟨c', z, upd_same⟩
    · rw [upd_ne (Nat.ne_of_gt hlt), upd_ne (Nat.ne_of_gt (Nat.lt_of_lt_of_le (Heap.lt_size hP') hsz))]
      exact I.hok.fresh hsz
end
/-- how facts see it -/
theorem made_grow {Hf H H1 : Hp} {P c' : Addr} (s : Same Hf H) (hf : LamX.TabS Hf P lamQ) (m : Made H P c' lamQ H1) : ∃ Hf1, Grow Hf H Hf1 H1 := by
  rcases m with e | ⟨ps, more, hP, nC, tr, e⟩
  · subst e
    exact ⟨Hf, Grow.refl s⟩
  obtain ⟨ps0, hfP, ht, ha⟩ := hf
  have e0 : ps0 = ps := by
    have := s P _ hfP
    rw [hP] at this
    cases this
    rfl
  subst e0
  subst e
  have nP : P ≠ c' := ne_of_none hP nC
  have nf : Hf c' = none := s.free nC
  have kf : ∀ b o, Hf b = some o → (∀ ps, o ≠ .tbl ps) → upd (upd Hf P (.tbl (ps0 ++ more))) c' (LamX.CodeO c' lamQ) b = some o := fun b o e n => by
    rw [upd_ne (ne_of_none e nf), upd_ne (fun z => n ps0 (by rw [z, hfP] at e; exact (Option.some.inj e).symm))]
    exact e
  refine ⟨upd (upd Hf P (.tbl (ps0 ++ more))) c' (LamX.CodeO c' lamQ), ⟨kf, fun b ht0 => ?_, fun b e => ?_⟩, fun b o e q => ?_, fun b e => ?_, fun b o e => ?_, fun b o e n => ?_⟩
  · obtain ⟨p1, a1, a2, a3⟩ := ht0
    by_cases w : b = P
    · subst w
      refine ⟨_, by rw [upd_ne nP, upd_same], tr.1, fun pos cv hc => ?_⟩
      rcases tr.2 pos cv hc with z | z
      · obtain ⟨c0, e1, e2⟩ := ha pos cv z
        exact ⟨c0, e1, kf _ _ e2 LamX.codeO_ne⟩
      · exact ⟨c', z, upd_same⟩
    · refine ⟨p1, by rw [upd_ne (ne_of_none a1 nf), upd_ne w]; exact a1, a2, fun pos cv hc => ?_⟩
      obtain ⟨c0, e1, e2⟩ := a3 pos cv hc
      exact ⟨c0, e1, kf _ _ e2 LamX.codeO_ne⟩
  · by_cases w : b = c'
    · subst w; rw [upd_same] at e; cases e
    · rw [upd_ne w] at e
      by_cases w2 : b = P
      · subst w2; rw [upd_same] at e; cases e
      · rwa [upd_ne w2] at e
  · rcases q with q | q
    · rw [upd_ne (ne_of_none e nC), upd_ne (fun z => by rw [z, hfP] at q; cases q)]
      exact e
    · rw [upd_ne (ne_of_none e nC), upd_ne (fun z => q ps0 (by rw [z, hP] at e; exact (Option.some.inj e).symm))]
      exact e
  · by_cases w : b = c'
    · subst w; rw [upd_same] at e; cases e
    · rw [upd_ne w] at e
      by_cases w2 : b = P
      · subst w2; rw [upd_same] at e; cases e
      · rwa [upd_ne w2] at e
  · by_cases w : b = c'
    · subst w; rw [upd_same] at e ⊢; exact e
    · rw [upd_ne w] at e ⊢
      by_cases w2 : b = P
      · subst w2; rw [upd_same] at e ⊢; exact e
      · rw [upd_ne w2] at e ⊢; exact s b o e
  · rw [upd_ne (ne_of_none e nC), upd_ne (fun z => by rw [z, hfP] at n; cases n)]
    exact n
/-! ### the call of min -/
def kd (ds : List PyData) : PyData := .tuple [.int (ds.length : Nat), .tuple ds]
def keyLt (dss : List (List PyData)) (i j : Nat) : Bool := match dss[i]?, dss[j]? with
  | some d, some e => PySem.W.dataLt (kd d) (kd e)
  | _, _ => false
section
variable {X : Cx} {pins : List (Addr × Obj)} {σ : L2.St} {H : Hp} {s : Shared}
theorem min_key {k0 : Nat} {f c' a : Addr} {x : PySem.Str} {params : Arguments} {scope : Scope} {pm ctv : Value} {q1 q2 q3 q4 q5 : Pos} {k : Nat} {xs : List V} {dss : List (List PyData)} {Q : VK} (I : Inv X pins σ H s) (hr : Room k0 X.A) (hc : X.calm = true) (S : KeyS x scope) (hlen : X.mg "len" = none) (hdx : (x == ("__debug__" : PySem.Str)) = false)
    (of : s.heap.get? f = some (kla_obj "<lambda>" lamQ params (keyBody x q1 q2 q3 q4 q5 k) scope [] pm c' ctv)) (hco : H c' = some (LamX.CodeO c' lamQ))
    (hbind : ∀ v : Value, bindArgs (kla_fn "<lambda>" lamQ params (keyBody x q1 q2 q3 q4 q5 k) scope [] pm (.ref c') ctv) ⟨[v], []⟩ = pure [(x, v)])
    (hs : SqL X.K H a xs) (hd : DpAll X.K H xs (dss.map .tuple)) (hn : 0 < xs.length) (hdep : ∀ d ∈ dss, (kd d).depth ≤ 60) (halk : ∀ d ∈ dss, ∀ e ∈ dss, PySem.W.alike (kd d) (kd e) = true)
    (h : ∀ y, xs[argBest (keyLt dss) (xs.length - 1)]? = some y → Q y H) :
    wpAny (model X.prog X.w) X.A (call (.builtin "min") [.ref a] [(Str.ofString "key", .ref f)]) (EP X pins σ Q) X.xe s := by
  have hh := I.ok.hd hc
  obtain ⟨its, rv, hl, hz⟩ := I.list hs
  have lenI := rv.length
  have lenD := dpAll_len hd
  rw [List.length_map] at lenD
  obtain ⟨mb, b1, b2⟩ := I.mod.blt
  have hmb : mb "len" = some (.builtin "len") := (b2 "len" (by decide)).trans (by decide +kernel)
  refine call_min_walkK (A := X.A) (iter_any hl.isList fun s₂ e2 st hne => ?_)
  subst e2
  have W := Walks.list (prog := X.prog) (w := X.w) (A := X.A.in1) hh s.heap.objs.size a hne its.toArray
  -- what stays
  let J : Shared → Prop := fun s' => s'.os = s.os ∧ s'.gens = s.gens ∧ s'.drawn = s.drawn ∧ ∀ b o, s.heap.get? b = some o → s'.heap.get? b = some o
  have invJ : ∀ s', J s' → Inv X pins σ H s' := fun s' ⟨j1, j2, j3, j4⟩ => by
    have e : s' = { s with heap := s'.heap, toks := s'.toks } := by
      cases s'
      cases s
      cases j1
      cases j2
      cases j3
      rfl
    rw [e]
    exact I.kept j4
  let S2 : Addr := (s.heap.push { cls := .type "list_iterator", data := .fields #[.ref a, .int 0 0] }).objs.size
  have hS2 : S2 = s.heap.objs.size + 1 := Heap.size_push ..
  let V1 : Nat → Value → Shared → Prop := fun i v s' => ∃ (b : Addr) (u : Value) (ds : List PyData) (t0 : Nat), v = .ref b ∧ its[i]? = some u ∧ dss[i]? = some ds ∧ s'.heap.get? b = some { cls := .type "tuple", data := .seq #[.int (ds.length : Nat) t0, u] } ∧ b ≠ S2 ∧ b ≠ s.heap.objs.size
  have old : ∀ (b : Addr) (o : Obj), s.heap.get? b = some o → b ∉ S2 :: [s.heap.objs.size] := fun b o e hm => by
    have hlt := Heap.lt_size e
    rcases List.mem_cons.mp hm with z | z
    · rw [z, hS2] at hlt
      exact Nat.lt_irrefl _ (Nat.lt_of_succ_lt hlt)
    · rw [List.mem_singleton.mp z] at hlt
      exact Nat.lt_irrefl _ hlt
  refine ⟨s.heap.objs.size, [s.heap.objs.size, a], [s.heap.objs.size], _, its.length, _, _, J, V1, keyLt dss, rfl, by simpa using W.toS, st, fun b hb => ?_, by omega, ⟨fun s1 s' j m => ?_, fun i v s1 s' vv m => ?_, fun i v s1 o Q1 E1 hi hP j hst hSo hq => ?_, fun i j ki kj s1 Q1 E1 jj vi vj hq => ?_⟩, ⟨rfl, rfl, rfl, fun b o e => Heap.get?_push_of_some _ e⟩, fun v s' hP j => ?_⟩
  · show b < (s.heap.push _).objs.size
    rw [Heap.size_push]
    have e' : b = s.heap.objs.size ∨ b = a := by simpa using hb
    rcases e' with z | z
    · rw [z]; exact Nat.lt_succ_self _
    · obtain ⟨_, e, _⟩ := hl.isList
      rw [z]; exact Nat.lt_succ_of_lt (Heap.lt_size e)
  · obtain ⟨j1, j2, j3, j4⟩ := j
    refine ⟨m.os.trans j1, ?_, m.drawn.trans j3, fun b o e => m.heap b o (old b o e) (j4 b o e)⟩
    have g : s'.gens = s1.gens := m.gens
    rw [g, j2]
  · obtain ⟨b, u, ds, t0, e1, e2, e3, e4, e5, e6⟩ := vv
    refine ⟨b, u, ds, t0, e1, e2, e3, m.heap b _ (fun hm => ?_) e4, e5, e6⟩
    rcases List.mem_cons.mp hm with z | z
    · exact e5 z
    · exact e6 (List.mem_singleton.mp z)
  · have hu : its[i]? = some v := by simpa using hP
    have hi2 : i < xs.length := by omega
    have hx : xs[i]? = some xs[i] := List.getElem?_eq_getElem hi2
    have hds : dss[i]? = some dss[i] := List.getElem?_eq_getElem (by omega)
    obtain ⟨u, hu2, ru⟩ := rv.get hx
    rw [hu] at hu2
    cases hu2
    obtain ⟨d, hd1, hdp⟩ := dpAll_gets hd hx
    rw [List.getElem?_map, hds] at hd1
    cases hd1
    obtain ⟨t, ys, ex, h1, h2⟩ := dp_tup hdp
    rw [ex] at ru
    obtain rfl : v = Value.ref t := ru
    have I1 := invJ s1 j
    obtain ⟨its2, rv2, pl2, hz2⟩ := I1.tuple h1
    obtain ⟨⟨oc, vs, tt, hoc, hdc, hvc⟩, _, _⟩ := I1.hok c' _ hco
    have e9 : its2.toArray.size = (dss[i]).length := by rw [List.size_toArray, ← rv2.length, dpAll_len h2]
    refine key_call (mg := X.mg) (mb := mb) S hr.depth (j.2.2.2 _ _ of) ⟨c', oc, vs, tt, rfl, hoc, hdc, hvc⟩ (hbind _) (I1.mod.glob.keeps I1.bk) hlen (b1.keeps I1.bk) hmb (I1.nolimit) pl2 (by
      have := line63
      rw [List.size_toArray, ← rv2.length]
      omega) hdx fun b h' tk t0 hge hk hb => ?_
    have hSlt := Heap.lt_size hSo
    refine hq (.ref b) _ ⟨j.1, j.2.1, j.2.2.1, fun b o e => hk b o (j.2.2.2 b o e)⟩ (W.frame _ _ _ hst fun b _ o e => hk b o e) (hk _ _ hSo) ⟨b, _, dss[i], t0, rfl, hu, hds, by rw [← e9]; exact hb, ?_, ?_⟩ fun i2 v2 vv => ?_
    · exact Nat.ne_of_gt (Nat.lt_of_lt_of_le hSlt hge)
    · exact Nat.ne_of_gt (Nat.lt_of_lt_of_le (Nat.lt_of_succ_lt (by rw [← hS2]; exact hSlt : s.heap.objs.size + 1 < _)) hge)
    · obtain ⟨b, u, ds, t0, e1, e2, e3, e4, e5, e6⟩ := vv
      exact ⟨b, u, ds, t0, e1, e2, e3, hk _ _ e4, e5, e6⟩
  · obtain ⟨b, u, ds, t0, rfl, e2, e3, e4, e5, e6⟩ := vi
    obtain ⟨b', u', ds', t0', rfl, e2', e3', e4', e5', e6'⟩ := vj
    have I1 := invJ s1 jj
    have rd : ∀ {i : Nat} {b : Addr} {u : Value} {ds : List PyData} {t0 : Nat}, its[i]? = some u → dss[i]? = some ds → s1.heap.get? b = some { cls := .type "tuple", data := .seq #[.int (ds.length : Nat) t0, u] } → ∃ as, Reads s1.heap (.ref b) (kd ds) as := fun {i b u ds t0} g1 g2 g3 => by
      have hi : i < xs.length := by have := (List.getElem?_eq_some_iff.mp g1).1; omega
      have hx : xs[i]? = some xs[i] := List.getElem?_eq_getElem hi
      obtain ⟨u2, hu2, ru⟩ := rv.get hx
      rw [g1] at hu2
      cases hu2
      obtain ⟨d, hd1, hdp⟩ := dpAll_gets hd hx
      rw [List.getElem?_map, g2] at hd1
      cases hd1
      obtain ⟨as, r⟩ := Dp.reads I1 _ _ _ hdp ru
      exact ⟨_, .tuple g3 rfl rfl (.cons (.int _ _) (.cons r .nil))⟩
    obtain ⟨as, r1⟩ := rd e2 e3 e4
    obtain ⟨bs, r2⟩ := rd e2' e3' e4'
    have m1 := hdep ds (List.mem_of_getElem? e3)
    have hmin := Nat.min_le_left (kd ds).depth (kd ds').depth
    have hun := hr.un
    refine rcLt_alike (kd ds) (kd ds') X.A.in1 s1 _ _ as bs r1 r2 (halk ds (List.mem_of_getElem? e3) ds' (List.mem_of_getElem? e3')) (fun z => by cases z) (by show X.A.units + 1 + _ < _; omega) X.prog X.w _ _ ?_
    unfold keyLt at hq
    rw [e3, e3'] at hq
    exact hq
  · rw [← lenI] at hP
    have hP' : its[argBest (keyLt dss) (xs.length - 1)]? = some v := by simpa using hP
    have hlt : argBest (keyLt dss) (xs.length - 1) < xs.length := by have := (List.getElem?_eq_some_iff.mp hP').1; omega
    have hx := List.getElem?_eq_getElem hlt
    obtain ⟨u, hu, ru⟩ := rv.get hx
    rw [hP'] at hu
    cases hu
    exact ⟨_, H, invJ s' j, ru, h _ hx⟩
end
/-! ### the expression -/
def tMinKey (K : PySem.W.Frag) (P : Addr) (te : TE) : TE := fun σ H Q => te σ H fun v H1 => ∃ (a : Addr) (xs : List V) (dss : List (List PyData)), v = .ref a ∧ SqL K H1 a xs ∧ DpAll K H1 xs (dss.map .tuple) ∧ 0 < xs.length ∧ (∀ d ∈ dss, (kd d).depth ≤ 60) ∧
  (∀ d ∈ dss, ∀ e ∈ dss, PySem.W.alike (kd d) (kd e) = true) ∧ LamX.TabS H1 P lamQ ∧ ∀ (c' : Addr) (H2 : Hp) (y : V), Made H1 P c' lamQ H2 → xs[argBest (keyLt dss) (xs.length - 1)]? = some y → Q y H2
theorem clo_nil {cells : List (PySem.Str × Addr)} {names : List (PySem.Str × NameKind)} (h : ∀ y ∈ names, y.2 ≠ .free) : cloFrom cells names [] = [] := by
  cases e : cloFrom cells names [] with
  | nil => rfl
  | cons p r =>
    have hm : p ∈ cloFrom cells names [] := by rw [e]; exact List.mem_cons_self
    rcases cloFrom_mem (show (p.1, p.2) ∈ cloFrom cells names [] from hm) with z | ⟨z, _⟩
    · cases z
    · exact absurd rfl (h _ z)
theorem made_sm {H H1 : Hp} {P c' : Addr} (hf : LamX.TabS H P lamQ) (m : Made H P c' lamQ H1) : Sm H H1 := by
  obtain ⟨Hf1, g⟩ := made_grow (Same.refl H) hf m
  exact g.f.trans g.sub
section
variable {X : Cx}
theorem pe_minKey {k0 : Nat} {e : Expr} {te : TE} {c P : Addr} {x : PySem.Str} {params : Arguments} {scope : Scope} {q1 q2 q3 q4 q5 p1 lpos kp pos : Pos} {k : Nat} (hr : Room k0 X.A) (hc : X.calm = true) (hg : Gl X "min") (hm : X.mg "min" = none) (he : PE X e te) (TB : LamX.TabB X.base X.mg c P) (hcode : X.env.code = .ref c)
    (hq : X.env.qual ++ "<lambda>" = lamQ) (S : KeyS x scope) (hlen : X.mg "len" = none) (hdx : (x == ("__debug__" : PySem.Str)) = false) (hdef : defaultsOf params X.env = ([], []))
    (hbind : ∀ (pm c' ctv v : Value), bindArgs (kla_fn "<lambda>" lamQ params (keyBody x q1 q2 q3 q4 q5 k) scope [] pm c' ctv) ⟨[v], []⟩ = pure [(x, v)])
    (hst : starEach [e] X.env = (false, eval e X.env) :: starEach [] X.env := by rfl) :
    PE X (.Call (.Name "min" p1) [e] [⟨some "key", .Lambda params (keyBody x q1 q2 q3 q4 q5 k) scope lpos, kp⟩] pos) (tMinKey X.K P te) := by
  refine ⟨fun pins s σ H Q I h => ?_⟩
  refine wpAny_Call_Name_kw (ld_blt I hg hm (by decide +kernel : bootBuiltins "min" = some (.builtin "min")) ?_)
  refine callWith_kw (args_cons (thn (he.run pins s σ H _ I h) fun v s1 ⟨y, H1, I1, r1, a, xs, dss, ey, hs, hd, hn, hdep, halk, hT, hQ⟩ => args_nil ?_) hst) (by rw [hst]; rfl) (by rw [hst]; rfl) rfl rfl
  subst ey
  obtain rfl : v = Value.ref a := r1
  refine PyProof.Rows.kws_cons (lam_make3 I1 TB hcode hq hT hdef S.free fun f c' pm ctv H2 s2 I2 mk tb of _ _ hco => PyProof.Rows.kws_nil ?_)
  rw [clo_nil S.free] at of
  have sm := made_sm hT mk
  exact min_key I2 hr hc S hlen hdx of hco (hbind _ _ _) (same_l sm hs) (dpAll_mono sm _ _ hd) hn hdep halk fun z hz => hQ c' H2 z mk hz
end
/-! ### by facts -/
/-- the lambda's table stands at P -/
def isTab (P : Addr) : Fact := ⟨fun _ H => LamX.TabS H P lamQ, fun e h => e.t P h⟩
def both2 (A B : Fact) : Fact := ⟨fun v H => A.ok v H ∧ B.ok v H, fun e h => ⟨A.mono e h.1, B.mono e h.2⟩⟩
abbrev withTab (A : Fact) (P : Addr) : Fact := both2 A (isTab P)
theorem le_wt {A : Fact} {P : Addr} : Le (withTab A P) A := fun _ _ h => h.1
/-- the first of the tuples with the least (length, tuple) -/
def minKeyM {α : Type} [Enc α] (xs : List (List α)) : List α := xs.getD (argBest (keyLt (xs.map fun x => x.map Enc.enc)) (xs.length - 1)) []
theorem argBest_le (bt : Nat → Nat → Bool) : ∀ n, argBest bt n ≤ n
  | 0 => Nat.le_refl _
  | n + 1 => by
    show (if bt (n + 1) (argBest bt n) then n + 1 else argBest bt n) ≤ n + 1
    split
    · exact Nat.le_refl _
    · exact Nat.le_succ_of_le (argBest_le bt n)
section
variable {K : PySem.W.Frag} {ρ : Rho} {𝒜 : Fact → Prop} {te : TE}
theorem w_varL {i : Nat} {A B : Fact} (h : ρ[i]? = some (Slot.fact A)) (l : Le A B) (k : 𝒜 B) : W K (tVar i) ρ 𝒜 := fun σ Ot Hf H Q e q => by
  obtain ⟨v, h1, h2⟩ := e.at_ i A h
  exact ⟨v, h1, q v Hf H B (Grow.refl e.hf) (l _ _ h2) k⟩
/-- the table's standing is carried over to a value -/
theorem w_wt {P : Addr} {i : Nat} {B : Fact} (hi : ρ[i]? = some (Slot.fact (withTab B P))) (h : W K te ρ fun A => 𝒜 (withTab A P)) : W K te ρ 𝒜 := fun σ Ot Hf H Q e q =>
  h σ Ot Hf H Q e fun v Hf' H' A g a k => by
    obtain ⟨u, _, h2⟩ := e.at_ i _ hi
    exact q v Hf' H' (withTab A P) g ⟨a, g.f.t P h2.2⟩ k
theorem w_minKey {α : Type} [Enc α] [Lay α] [Alk α] {P : Addr} {i : Nat} {B : Fact} (hi : ρ[i]? = some (Slot.fact (withTab B P))) (hd : Lay.d α ≤ 50) (h : W K te ρ fun A => ∃ xs : List (List α), Le A (Is K (PL.mk xs)) ∧ xs ≠ [] ∧ 𝒜 (Is K (minKeyM xs))) :
    W K (tMinKey K P te) ρ 𝒜 := fun σ Ot Hf H Q e q =>
  h σ Ot Hf H _ e fun v H1f H1 A g a ⟨xs, l, hne, k⟩ => by
    obtain ⟨u, _, h2⟩ := e.at_ i _ hi
    have tf : LamX.TabS H1f P lamQ := g.f.t P h2.2
    obtain ⟨p, vs, rfl, hs, hda⟩ := dp_lst (l _ _ a)
    have hm : xs.map Enc.enc = (xs.map fun x => x.map Enc.enc).map PyData.tuple := by
      rw [List.map_map]
      rfl
    have hlen : vs.length = xs.length := by rw [dpAll_len hda, List.length_map]
    have hpos : 0 < xs.length := List.length_pos_iff.mpr hne
    refine ⟨p, vs, xs.map fun x => x.map Enc.enc, rfl, same_l (Sm.of g.sub) hs, by rw [← hm]; exact dpAll_mono (Sm.of g.sub) _ _ hda, by omega, fun d hd' => ?_, fun d hd1 f hf1 => ?_, tf.ext g.sub, fun c' H2 y mk hy => ?_⟩
    · obtain ⟨x, _, rfl⟩ := List.mem_map.mp hd'
      have h1 : PyData.depthAll (x.map Enc.enc) ≤ Lay.d α := depAll x
      show (PyData.tuple [.int _, .tuple (x.map Enc.enc)]).depth ≤ 60
      simp only [PyData.depth, PyData.depthAll]
      omega
    · obtain ⟨x, _, rfl⟩ := List.mem_map.mp hd1
      obtain ⟨z, _, rfl⟩ := List.mem_map.mp hf1
      unfold kd
      rw [PySem.W.alike, PySem.W.alikeAll, PySem.W.alikeAll, PySem.W.alikeAll, PySem.W.alike, PySem.W.alike, alkAll x z]
      rfl
    · obtain ⟨Hf2, g2⟩ := made_grow g.sub tf mk
      obtain ⟨d, e1, e2⟩ := dpAll_gets hda hy
      rw [List.getElem?_map] at e1
      have hlt : argBest (keyLt (xs.map fun x => x.map Enc.enc)) (xs.length - 1) < xs.length := by
        have := argBest_le (keyLt (xs.map fun x => x.map Enc.enc)) (xs.length - 1)
        omega
      rw [hlen, List.getElem?_eq_getElem hlt] at e1
      cases e1
      refine q y Hf2 H2 (Is K (minKeyM xs)) (g.trans g2) ?_ k
      unfold minKeyM
      rw [List.getD_eq_getElem?_getD, List.getElem?_eq_getElem hlt]
      exact dp_mono g2.f _ _ e2
end
end DL
/-! K89q: the program's defs, further. -/
namespace K89
open PySem PySem.Spec PyProof.Rows L2 DL
section
variable {P : Program} {w : World} {K : PySem.W.Frag} {mg : PySem.Str → Option Value} {base : Heap}
local macro_rules | `(tactic| walk_at "dl") => `(tactic| first
  | with_reducible refine ss_ret ?_ | with_reducible refine ss_seq ?_ | with_reducible refine ss_if ?_ | with_reducible refine ss_next ?_ | with_reducible refine ss_retN ?_
  | refine w_var (by rfl) ?_ | with_reducible refine w_lit ?_ | with_reducible refine w_bl ?_ | with_reducible refine w_non ?_ | with_reducible refine w_str ?_ | with_reducible refine w_val ?_
  | with_reducible refine w_op ?_ | with_reducible refine w_cb ?_ | with_reducible refine w_call ?_ | with_reducible refine wa_cons ?_ | with_reducible refine wa_nil ?_
  | with_reducible refine wt_test ?_ | with_reducible refine wt_B ?_ | with_reducible refine wt_not ?_ | with_reducible refine wt_yes ?_ | with_reducible refine wt_and ?_ | with_reducible refine wt_or ?_
  | with_reducible refine w_andV ?_ | with_reducible refine w_orV ?_ | with_reducible refine w_notV ?_ | with_reducible refine w_if ?_ | with_reducible refine w_chain ?_
  | with_reducible refine wo_none ?_ | with_reducible refine wo_some ?_
  | with_reducible refine r_eq ?_ | with_reducible refine r_ne ?_ | with_reducible refine r_lt ?_ | with_reducible refine r_add ?_ | with_reducible refine r_and ?_ | with_reducible refine r_shr ?_ | with_reducible refine r_ltn ?_ | with_reducible refine r_gtn ?_ | with_reducible refine r_len ?_
  | with_reducible refine r_inT ?_ | with_reducible refine r_notInT ?_ | with_reducible refine r_inL ?_
  | with_reducible refine c_lenT ?_ | with_reducible refine c_lenP ?_ | with_reducible refine r_fst ?_ | with_reducible refine r_snd ?_ | with_reducible refine g_name ?_ | with_reducible refine g_pair ?_ | with_reducible refine gs_name ?_ | with_reducible refine gs_nil ?_)
/-- the patterns found that are parts -/
def partsIn (found : List Part) (p : Part) : List Part := found.filter fun q => isPart q p
def firstW (found : List Part) (p : Part) : Option Part := if partsIn found p = [] then none else some (minKeyM (partsIn found p))
def sp_first_within (K : PySem.W.Frag) (Pt : Addr) : Sp := mkSp (fun t : List Part × Part => [withTab (Is K t.1) Pt, Is K t.2]) (fun t => t.1.length ≤ 10000 ∧ ∀ q ∈ t.1, q.length ≤ 1000) fun t A => A = Is K (firstW t.1 t.2)
/-- what the lambda's making asks -/
structure LamT (K : PySem.W.Frag) (mg : PySem.Str → Option Value) (base : Heap) (Pt c : Addr) : Prop where
  tb : LamX.TabB base mg c Pt
  cd : ∀ (f : Addr) (oc : Value) (od : Option Addr) (osl : Array (Option Value)) (fd' : FuncData), mg "first_within" = some (.ref f) → K.lookup f = some ⟨oc, od, .func fd', osl⟩ → fd'.code = .ref c
theorem d_first_within {Pt c : Addr} (T : TF K mg) (L : LamT K mg base Pt c) (h_is_part : Has P w K mg base CX0 1 "is_part" ["partial", "other"] (sp_is_part K)) : Has P w K mg base CX0 2 "first_within" ["found", "partial"] (sp_first_within K Pt) := by
  obtain ⟨f, fd, F, hm, hb⟩ := T.d_first_within
  refine fn_factsC F sc_first_within hm hb (fun _ => by first | rfl | (split <;> rfl)) fun cdv ⟨oc, od, osl, fd', lk, hcd⟩ A outer s H E hr hgd => ?_
  have S := sc_first_within
  have hcd : cdv = .ref c := hcd.symm.trans (L.cd f oc od osl fd' hm lk)
  have TB := L.tb
  refine ⟨(tSeq (tAsg (tLc (iTup K (tVar 0)) (gName 3) (tB (tCall (sp_is_part K) [] E0 (tCons (tVar 3) (tCons (tVar 1) tNil)))) (tVar 3) [3]) (gName 2)) (tRet (tIf (tTest (tOp (rNeD K) (tVar 2) (tLst tNil))) (tMinKey K Pt (tVar 2)) (tC .non)))), (pss_cons (ps_setLc (i := 2) (own := [("pattern", 3)]) (g := (gName 3)) (tt := (tB (tCall (sp_is_part K) [] E0 (tCons (tVar 3) (tCons (tVar 1) tNil))))) (te := (tVar 3)) (by rfl) S.nd rfl rfl (sw_true rfl rfl rfl (by rfl)) (pi_tup (pv 0)) (blkOk_by (by rfl)) (fun _ _ _ _ _ => (pg_name (i := 3) S.nd rfl (by first | exact Or.inl rfl | exact Or.inr rfl))) (fun _ _ _ _ _ => pts_one (pt_val (pc (E := E0) (h_is_part.mono (by decide)) hr hgd (by rfl) pass0 (pa_cons (pv 3) (pa_cons (pv 1) pa_nil))))) (fun _ _ _ _ _ => (pv 3))) (pss_one (ps_ret (pe_ifExp (pt_cmpR (op_neD hr.units) (pv 2) (pe_lst pa_nil) (nomark _)) (pe_minKey hr (by rfl) (by rfl) T.n_min (pv 2) TB (by exact hcd) (by rfl) ⟨rfl, rfl, rfl, by decide +kernel, by decide +kernel, rfl, rfl⟩ T.n_len (by decide) (by rfl) (fun _ _ _ _ => by rfl)) pe_non)))), ?_⟩
  rintro ⟨found, p⟩ ⟨h1, h2⟩
  dsimp only at h1 h2
  have hpl : (partsIn found p).length ≤ 10000 := Nat.le_trans (List.length_filter_le _ _) h1
  refine ss_seq (ss_set (w_new (wn_comp (fun q : Part => isPart q p) (fun q => q) (js := [3]) (by decide) (wx_tup (α := Part) ?_))))
  repeat walk_at "dl"
  refine ⟨found, le_wt, Nat.le_trans h1 (by decide), fun q hq => ?_, ?_⟩
  · repeat walk_at "dl"
    refine c_mk (q, p) (h2 q hq) fun A e => ?_
    subst e
    refine is_x ⟨rfl, fun _ => ?_⟩
    repeat walk_at "dl"
    exact Le.refl _
  · rw [List.map_id']
    repeat walk_at "dl"
    refine w_nil (r_notNil (le_L (partsIn found p)) ?_)
    refine is_x ⟨fun hb => ?_, fun hb => ?_⟩
    · have hne : partsIn found p ≠ [] := fun z => by
        rw [z] at hb
        cases hb
      refine w_minKey (α := Lit) (i := 0) (by rfl) (by decide) ?_
      repeat walk_at "dl"
      refine ⟨partsIn found p, le_L _, hne, ?_⟩
      show Is K _ = Is K (firstW found p)
      unfold firstW
      rw [if_neg hne]
      rfl
    · have he : partsIn found p = [] := by
        cases e : partsIn found p with
        | nil => rfl
        | cons a l => rw [e] at hb; cases hb
      repeat walk_at "dl"
      show Is K _ = Is K (firstW found p)
      unfold firstW
      rw [if_pos he]
      rfl
def sp_pattern_within (K : PySem.W.Frag) (Pt : Addr) : Sp := mkSp (fun t : Rule × Part => [withTab (Is K t.1) Pt, Is K t.2]) (fun t => OkRule t.1 ∧ SortOk t.1 ∧ OkPart t.1.1 t.2 ∧ (patternsM t.1).length ≤ 10000 ∧ ∀ q ∈ patternsM t.1, q.length ≤ 1000) fun t A => A = Is K (firstW (patternsM t.1) t.2)
theorem sm_fst {Pt : Addr} {r : Rule} {ρ : Rho} {𝒜 : Fact → Prop} (h : ρ[0]? = some (Slot.fact (withTab (Is K r) Pt))) (k : 𝒜 (Is K r)) : W K (tVar 0) ρ 𝒜 := w_varL h le_wt k
theorem d_pattern_within {Pt : Addr} (T : TF K mg) (h_first_within : Has P w K mg base CX0 2 "first_within" ["found", "partial"] (sp_first_within K Pt)) (h_patterns_in : Has P w K mg base CX0 3 "patterns_in" ["rule"] (sp_patterns_in K)) (h_require_partial : Has P w K mg base CX0 5 "require_partial" ["size", "partial"] (sp_require_partial K)) (h_require_rule : Has P w K mg base CX0 5 "require_rule" ["rule"] (sp_require_rule K)) : Has P w K mg base CX0 6 "pattern_within" ["rule", "partial"] (sp_pattern_within K Pt) := by
  obtain ⟨f, fd, F, hm, hb⟩ := T.d_pattern_within
  refine fn_facts F sc_pattern_within hm hb (fun _ => by first | rfl | (split <;> rfl)) fun cdv A outer s H E hr hgd => ?_
  have S := sc_pattern_within
  refine ⟨(tSeq (tDrop (tCall (sp_require_rule K) [] E0 (tCons (tVar 0) tNil))) (tSeq (tDrop (tCall (sp_require_partial K) [] E0 (tCons (tOp (rIx K) (tVar 0) (tC (.int 0))) (tCons (tVar 1) tNil)))) (tRet (tCall (sp_first_within K Pt) [] E0 (tCons (tCall (sp_patterns_in K) [] E0 (tCons (tVar 0) tNil)) (tCons (tVar 1) tNil)))))), (pss_cons (ps_expr (pc (E := E0) (h_require_rule.mono (by decide)) hr hgd (by rfl) pass0 (pa_cons (pv 0) pa_nil))) (pss_cons (ps_expr (pc (E := E0) (h_require_partial.mono (by decide)) hr hgd (by rfl) pass0 (pa_cons (pe_ix ix_seq (pv 0) pe_int (fun _ _ => rfl)) (pa_cons (pv 1) pa_nil)))) (pss_one (ps_ret (pc (E := E0) (h_first_within.mono (by decide)) hr hgd (by rfl) pass0 (pa_cons (pc (E := E0) (h_patterns_in.mono (by decide)) hr hgd (by rfl) pass0 (pa_cons (pv 0) pa_nil)) (pa_cons (pv 1) pa_nil))))))), ?_⟩
  rintro ⟨r, p⟩ ⟨h1, h2, h3, h4, h5⟩
  dsimp only at h1 h2 h3 h4 h5
  refine ss_seq (ss_drop ?_)
  refine w_call (wa_cons (sm_fst (r := r) (by rfl) ?_))
  repeat walk_at "dl"
  refine c_mk r h1 fun A e => ?_
  refine ss_seq (ss_drop ?_)
  refine w_call (wa_cons (w_op (sm_fst (r := r) (by rfl) ?_)))
  repeat walk_at "dl"
  refine c_mk (r.1, p) h3 fun A e => ?_
  refine ss_ret ?_
  refine w_call (wa_cons (w_wt (P := Pt) (i := 0) (B := Is K r) (by rfl) ?_))
  refine w_call (wa_cons (sm_fst (r := r) (by rfl) ?_))
  repeat walk_at "dl"
  refine c_mk r ⟨h1.1.2.1, h1.1.2.2.2.1, h1.1.2.2.1, h2⟩ fun A e => ?_
  subst e
  repeat walk_at "dl"
  exact c_mk (patternsM r, p) ⟨h4, h5⟩ fun A e => e
end
end K89
/-! DLt: defs that may raise one own error, without a dict. -/
namespace DL
open PySem PySem.Spec PyProof.Rows L2
/-- a promise: the result, or the error cls -/
def mkSpE {τ : Type} (cls : Value) (args : τ → List Fact) (pre : τ → Prop) (res : τ → Fact → Prop) (exc : τ → Prop) : Sp := fun vs H Q E => ∃ (t : τ) (Hf : Hp), Same Hf H ∧ AllOk (args t) vs Hf ∧ pre t ∧
  (∀ (v : V) (Hf' H' : Hp) (A : Fact), Grow Hf H Hf' H' → A.ok v Hf' → res t A → Q v H') ∧ ∀ (Hf' H' : Hp), Grow Hf H Hf' H' → exc t → E cls none H'
section
variable {P : Program} {w : World} {K : PySem.W.Frag} {mg : Str → Option Value} {base : Heap}
theorem fn_factsE {x qual : Str} {st : Stmt} {f : Addr} {fd : FuncData} {N ps : List Str} {k : Nat} {τ : Type} {cls : Value} {args : τ → List Fact} {pre : τ → Prop} {res : τ → Fact → Prop} {exc : τ → Prop} (F : Fun K x qual st f fd) (S : FnScope N ps (defScope st)) (hm : mg x = some (.ref f))
    (hbd : Binds K fd ps []) (hlen : ∀ t, (args t).length = ps.length)
    (hbody : ∀ (cdv : Value) (A : Around) (outer : List Env) (s : Shared) (H : Hp) (E : XK), Room k (A.deeper (envOfC qual (defScope st) s.heap.objs.size f cdv)) → A.guards = some [] →
      ∃ t tb, PSs (cxOf (L2N.CX P w) P w K mg base N qual (defScope st) f cdv A outer s H E) (defBody st) t ∧ (∀ D σ H', tb { D with bk := fun _ H2 => E cls none H2 } σ H' → t D σ H') ∧ ∀ a : τ, pre a → SS K tb (startR N (args a)) { nx := fun _ => res a (Is K ()), rt := res a, bk := fun _ => exc a }) :
    Has P w K mg base (L2N.CX P w) (k + 1) x ps (mkSpE cls args pre res exc) := by
  obtain ⟨oc, od, kV, doc, pm, an, cdv, ct, osl, rfl, lk, hcd⟩ := F.ex
  refine ⟨⟨f, _, fn_body lk hcd S (fun vs H Q E ⟨t, Hf, s, a, _⟩ => ?_) fun A outer s H vs Q E hr hg ⟨a, Hf, sm, al, hp, q, qe⟩ => ?_, hm, F.kp, hbd⟩⟩
  · rw [← allOk_len a]
    exact hlen t
  · obtain ⟨t, tb, h1, hb, h2⟩ := hbody cdv A outer s H E hr hg
    refine ⟨t, h1, hb _ _ _ ?_⟩
    have e := env_start (K := K) (N := N) sm al
    refine h2 a hp _ (start N vs) _ Hf H e (fun σ' Hf' H' ρ' s1 e1 z => ?_) (fun v Hf' H' B s1 s2 s3 dj b z => ?_) (fun σ' Hf' H' ρ' s1 e1 z => ?_) (fun _ _ _ _ _ _ z => z.elim)
    · exact q .non Hf' H' (Is K ()) (grow_start sm s1 e1.hf e1.ot e1.dj) Dp.non z
    · exact q v Hf' H' B (grow_start sm s1 s2 s3 dj) b z
    · exact qe Hf' H' (grow_start sm s1 e1.hf e1.ot e1.dj) z
/-- a call of such a def where it does not raise -/
theorem c_mkE {τ : Type} {cls : Value} {args : τ → List Fact} {pre : τ → Prop} {res : τ → Fact → Prop} {exc : τ → Prop} {E : XK} {𝒜 : Fact → Prop} (t : τ) (hp : pre t) (hx : ¬ exc t) (k : ∀ A, res t A → 𝒜 A) : C (fun vs H Q => mkSpE cls args pre res exc (vs ++ []) H Q E) (args t) 𝒜 := fun vs Hf H Q s as q => by
  show mkSpE cls args pre res exc (vs ++ []) H Q E
  rw [List.append_nil]
  exact ⟨t, Hf, s, as, hp, fun v Hf' H' A g a z => q v Hf' H' A g a (k A z), fun _ _ _ z => absurd z hx⟩
/-- what is known of an own error's class -/
structure ExcK (K : PySem.W.Frag) (mg : Str → Option Value) (x : Str) (C : Addr) : Prop where
  g : mg x = some (.ref C)
  ex : ∃ (newId initId : String) (bm : List Value), ExcBaseFacts "ValueError" newId initId bm ∧ PySem.W.excIn K C bm newId = true
  kp : PySem.W.keepIn K (.ref C) = true
  sub : PySem.W.subIn K (.ref C) (.type "BaseException") = some true
  ty : PySem.W.typeIn K (.ref C) = some (.type "type")
end
end DL
/-! K89r: the program's defs, further. -/
namespace K89
open PySem PySem.Spec PyProof.Rows L2 DL
section
variable {P : Program} {w : World} {K : PySem.W.Frag} {mg : PySem.Str → Option Value} {base : Heap}
local macro_rules | `(tactic| walk_at "dl") => `(tactic| first
  | with_reducible refine ss_ret ?_ | with_reducible refine ss_seq ?_ | with_reducible refine ss_if ?_ | with_reducible refine ss_next ?_ | with_reducible refine ss_retN ?_
  | refine w_var (by rfl) ?_ | with_reducible refine w_lit ?_ | with_reducible refine w_bl ?_ | with_reducible refine w_non ?_ | with_reducible refine w_str ?_ | with_reducible refine w_val ?_
  | with_reducible refine w_op ?_ | with_reducible refine w_cb ?_ | with_reducible refine w_call ?_ | with_reducible refine wa_cons ?_ | with_reducible refine wa_nil ?_
  | with_reducible refine wt_test ?_ | with_reducible refine wt_B ?_ | with_reducible refine wt_not ?_ | with_reducible refine wt_yes ?_ | with_reducible refine wt_and ?_ | with_reducible refine wt_or ?_
  | with_reducible refine w_andV ?_ | with_reducible refine w_orV ?_ | with_reducible refine w_notV ?_ | with_reducible refine w_if ?_ | with_reducible refine w_chain ?_
  | with_reducible refine wo_none ?_ | with_reducible refine wo_some ?_
  | with_reducible refine r_eq ?_ | with_reducible refine r_ne ?_ | with_reducible refine r_lt ?_ | with_reducible refine r_add ?_ | with_reducible refine r_and ?_ | with_reducible refine r_shr ?_ | with_reducible refine r_ltn ?_ | with_reducible refine r_gtn ?_ | with_reducible refine r_len ?_
  | with_reducible refine r_inT ?_ | with_reducible refine r_notInT ?_ | with_reducible refine r_inL ?_
  | with_reducible refine c_lenT ?_ | with_reducible refine c_lenP ?_ | with_reducible refine r_fst ?_ | with_reducible refine r_snd ?_ | with_reducible refine g_name ?_ | with_reducible refine g_pair ?_ | with_reducible refine gs_name ?_ | with_reducible refine gs_nil ?_)
/-- the raise of an own error -/
abbrev tRz (E : XK) (c : Value) : TS := fun _ _ H => E c none H
def ruleE (n : Nat) (ps : List Part) : Rule := (n, rowsWithout n ps)
def sp_rule_of_patterns (K : PySem.W.Frag) (Ce : Addr) : Sp := mkSpE (.ref Ce) (fun t : Nat × List Part => [Is K t.1, Is K t.2]) (fun t => 1 ≤ t.1 ∧ FitPs t.1 t.2) (fun t A => both t.1 (rowsWithout t.1 t.2) = true ∧ A = Is K (ruleE t.1 t.2)) fun t => both t.1 (rowsWithout t.1 t.2) = false
theorem lt_irr (r : List Nat) : lt r r = false := PySem.W.dataLt_self _
theorem lt_app : ∀ {r q : List Nat} (a b : List Nat), r.length = q.length → lt r q = true → lt (r ++ a) (q ++ b) = true
  | [], [], _, _, _, h => by rw [lt_irr] at h; cases h
  | [], _ :: _, _, _, hl, _ => by simp at hl
  | _ :: _, [], _, _, hl, _ => by simp at hl
  | x :: r, y :: q, a, b, hl, h => by
    rw [List.cons_append, List.cons_append, lt_cons]
    rw [lt_cons] at h
    by_cases e : x = y
    · rw [if_pos e] at h ⊢
      exact lt_app a b (by simpa using hl) h
    · rw [if_neg e] at h ⊢
      exact h
theorem lt_01 : ∀ r : List Nat, lt (r ++ [0]) (r ++ [1]) = true
  | [] => by rw [List.nil_append, List.nil_append, lt_cons, if_neg (by decide), lt_nat]; rfl
  | x :: r => by rw [List.cons_append, List.cons_append, lt_cons, if_pos rfl]; exact lt_01 r
theorem rowsOf_pw : ∀ n, (rowsOf n).Pairwise fun r q => lt r q = true
  | 0 => List.pairwise_singleton _ _
  | n + 1 => by
    have ih := rowsOf_pw n
    have hl : ∀ r ∈ rowsOf n, r.length = n := fun r hr => (rowsOf_len1 hr).1
    show ((rowsOf n).flatMap fun r => [r ++ [0], r ++ [1]]).Pairwise _
    generalize rowsOf n = l at ih hl
    induction l with
    | nil => exact List.Pairwise.nil
    | cons r l ih2 =>
      obtain ⟨k1, k2⟩ := List.pairwise_cons.mp ih
      rw [List.flatMap_cons]
      refine List.pairwise_append.mpr ⟨?_, ih2 k2 fun q hq => hl q (List.mem_cons_of_mem _ hq), fun x hx y hy => ?_⟩
      · refine List.pairwise_cons.mpr ⟨fun y hy => ?_, List.pairwise_singleton _ _⟩
        rw [List.mem_singleton.mp hy]
        exact lt_01 r
      · obtain ⟨q, hq, hy2⟩ := List.mem_flatMap.mp hy
        have e := (hl r List.mem_cons_self).trans (hl q (List.mem_cons_of_mem _ hq)).symm
        have hx2 : x = r ++ [0] ∨ x = r ++ [1] := by simpa using hx
        have hy3 : y = q ++ [0] ∨ y = q ++ [1] := by simpa using hy2
        rcases hx2 with z | z <;> rcases hy3 with z2 | z2 <;> rw [z, z2] <;> exact lt_app _ _ e (k1 q hq)
theorem without_pre {n : Nat} {ps : List Part} (h1 : 1 ≤ n) (h7 : n ≤ 7) : PreRule (ruleE n ps) :=
  ⟨h1, h7, fun x hx => rowsOf_len1 (List.mem_filter.mp hx).1, Nat.le_trans (List.length_filter_le _ _) (Nat.le_trans (rows_len h7) (by decide)), asc_of ((rowsOf_pw n).filter _)⟩
theorem d_rule_of_patterns {Ce : Addr} (T : TF K mg) (X : ExcK K mg "InvalidRule" Ce) (h_is_rule : Has P w K mg base CX0 4 "is_rule" ["value"] (sp_is_rule K)) (h_require_partials : Has P w K mg base CX0 6 "require_partials" ["size", "partials"] (sp_require_partials K))
    (h_require_size : Has P w K mg base CX0 3 "require_size" ["size"] (sp_require_size K)) (h_rows_without : Has P w K mg base CX0 2 "rows_without" ["size", "partials"] (sp_rows_without K)) :
    Has P w K mg base (L2N.CX P w) 7 "rule_of_patterns" ["size", "partials"] (sp_rule_of_patterns K Ce) := by
  obtain ⟨f, fd, F, hm, hb⟩ := T.d_rule_of_patterns
  obtain ⟨newId, initId, bm, xb, xi⟩ := X.ex
  refine fn_factsE F sc_rule_of_patterns hm hb (fun _ => by first | rfl | (split <;> rfl)) fun cdv A outer s H E hr hgd => ?_
  have S := sc_rule_of_patterns
  refine ⟨(tSeq (tDrop (tCall (sp_require_size K) [] E0 (tCons (tVar 0) tNil))) (tSeq (tDrop (tCall (sp_require_partials K) [] E0 (tCons (tVar 0) (tCons (tVar 1) tNil)))) (tSeq (tAsg (tTup (tCons (tVar 0) (tCons (tCall (sp_rows_without K) [] E0 (tCons (tVar 0) (tCons (tVar 1) tNil))) tNil))) (gName 2)) (tSeq (tIfS (tNot (tB (tCall (sp_is_rule K) [] E0 (tCons (tVar 2) tNil)))) (tRz E (.ref Ce)) tNext) (tRet (tVar 2)))))), (tSeq (tDrop (tCall (sp_require_size K) [] E0 (tCons (tVar 0) tNil))) (tSeq (tDrop (tCall (sp_require_partials K) [] E0 (tCons (tVar 0) (tCons (tVar 1) tNil)))) (tSeq (tAsg (tTup (tCons (tVar 0) (tCons (tCall (sp_rows_without K) [] E0 (tCons (tVar 0) (tCons (tVar 1) tNil))) tNil))) (gName 2)) (tSeq (tIfS (tNot (tB (tCall (sp_is_rule K) [] E0 (tCons (tVar 2) tNil)))) tBreak tNext) (tRet (tVar 2)))))), (pss_cons (ps_expr (pc (E := E0) (h_require_size.mono (by decide)) hr hgd (by rfl) pass0 (pa_cons (pv 0) pa_nil))) (pss_cons (ps_expr (pc (E := E0) (h_require_partials.mono (by decide)) hr hgd (by rfl) pass0 (pa_cons (pv 0) (pa_cons (pv 1) pa_nil)))) (pss_cons (ps_set (i := 2) S.nd rfl (by first | exact Or.inl rfl | exact Or.inr rfl) (pe_tup (pa_cons (pv 0) (pa_cons (pc (E := E0) (h_rows_without.mono (by decide)) hr hgd (by rfl) pass0 (pa_cons (pv 0) (pa_cons (pv 1) pa_nil))) pa_nil)))) (pss_cons (ps_if (pt_not (pt_val (pc (E := E0) (h_is_rule.mono (by decide)) hr hgd (by rfl) pass0 (pa_cons (pv 2) pa_nil)))) (pss_one (L2N.ps_raise rfl (L2N.takes_of rfl rfl rfl rfl) (L2N.pmk_own xb xi X.g X.kp (raises_own X.sub X.ty) (by exact rfl)))) pss_nil) (pss_one (ps_ret (pv 2))))))), fun D σ H' h => ?_, ?_⟩
  · dsimp only [tSeq, tIfS, tBreak, tNext, tRz] at h ⊢
    exact h
  rintro ⟨n, ps⟩ ⟨h1, h2⟩
  dsimp only at h1 h2
  repeat walk_at "dl"
  refine ss_drop ?_
  repeat walk_at "dl"
  refine c_mk n ⟨h1, h2.1⟩ fun A e => ?_
  repeat walk_at "dl"
  refine ss_drop ?_
  repeat walk_at "dl"
  refine c_mk (n, ps) h2 fun A e => ?_
  repeat walk_at "dl"
  refine ss_set ?_
  refine w_tup2 (α := Nat) (β := List Row) ?_
  repeat walk_at "dl"
  refine c_mk (n, ps) h2 fun A e => ?_
  subst e
  repeat walk_at "dl"
  refine ⟨n, rowsWithout n ps, ⟨_, _, rfl, Le.refl _, Le.refl _⟩, ?_⟩
  repeat walk_at "dl"
  refine c_mk (ruleE n ps) (without_pre h1 h2.1) fun A e => ?_
  subst e
  refine is_x ⟨fun hb => ?_, fun hb => ?_⟩
  · refine ss_brk ?_
    show both n (rowsWithout n ps) = false
    rwa [Bool.not_eq_true'] at hb
  · repeat walk_at "dl"
    exact ⟨by rwa [Bool.not_eq_false'] at hb, rfl⟩
end
end K89
/-! DLu: t[::-1], t a tuple. -/
namespace DL
open PySem PySem.Spec PyProof.Rows L2 HT
section
variable {prog : Program} {w : World} {A : Around} {E : Value → Shared → Prop} {s : Shared}
theorem sliceApplied_rev {sl : Addr} {vl vu vs : Value} {n : Nat} {Q : Int × Int × Nat → Shared → Prop} (hs : s.heap.IsSliceOf sl vl vu vs) (pl : IsPart vl none) (pu : IsPart vu none) (ps : IsPart vs (some (-1)))
    (h : Q ((n : Int) - 1, -1, n) s) : wpAny (model prog w) A (Builtin.Slice.sliceApplied (.ref sl) (pure (n : Int))) Q E s := by
  obtain ⟨os, hos, hcs, hds⟩ := id hs
  unfold Builtin.Slice.sliceApplied Builtin.Slice.sliceFields
  refine wpAny_bind (wpAny_bind (wpAny_field hos hds (x := vl) rfl (wpAny_bind (wpAny_field hos hds (x := vu) rfl (wpAny_bind (wpAny_field hos hds (x := vs) rfl (wpAny_pure ?_)))))))
  refine wpAny_bind (slicePart_ ps ?_)
  show wpAny _ _ (if ((-1 : Int) == 0) = true then _ else _) _ _ s
  rw [if_neg (by decide)]
  refine wpAny_bind (slicePart_ pl (wpAny_bind (slicePart_ pu (wpAny_bind (wpAny_pure ?_)))))
  have e : Builtin.Slice.sliceAdjust none none (-1) (n : Int) = ((n : Int) - 1, -1) := by
    unfold Builtin.Slice.sliceAdjust
    simp
  have e2 : Builtin.Slice.slicePlaces ((n : Int) - 1) (-1) (-1) = n := by
    unfold Builtin.Slice.slicePlaces
    rw [if_neg (by decide)]
    by_cases hn : n = 0
    · subst hn
      rfl
    · rw [if_pos (by omega)]
      have : ((n : Int) - 1 - -1 - 1) / (- -1) + 1 = n := by
        rw [show (- -1 : Int) = 1 from rfl, Int.ediv_one]
        omega
      rw [this]
      exact Int.toNat_natCast n
  show wpAny _ _ (match Builtin.Slice.sliceAdjust none none (-1) (n : Int) with | (lo, hi) => pure (lo, (-1 : Int), Builtin.Slice.slicePlaces lo hi (-1))) _ _ s
  rw [e]
  show wpAny _ _ (pure (((n : Int) - 1), (-1 : Int), Builtin.Slice.slicePlaces ((n : Int) - 1) (-1) (-1))) _ _ s
  rw [e2]
  exact wpAny_pure h
theorem pick_rev (items : Array Value) : ((List.range items.size).filterMap fun (m : Nat) => items[(((items.size : Nat) : Int) - 1 + (m : Int) * -1).toNat]?).toArray = items.toList.reverse.toArray := by
  have e : (List.range items.size).filterMap (fun (m : Nat) => items[(((items.size : Nat) : Int) - 1 + (m : Int) * -1).toNat]?) = ((List.range items.size).map fun k => items.size - 1 - k).filterMap (items[·]?) := by
    rw [List.filterMap_map]
    congr 1
    funext m
    show items[_]? = items[items.size - 1 - m]?
    congr 1
    omega
  rw [e, PySem.W.krv_range, List.filterMap_reverse, PySem.W.krv_all]
theorem getItem_tuple_rev {t sl : Addr} {items : Array Value} {vl vu vs : Value} {Q : Value → Shared → Prop} (ht : IsTup s.heap t items) (hs : s.heap.IsSliceOf sl vl vu vs) (pl : IsPart vl none) (pu : IsPart vu none) (ps : IsPart vs (some (-1)))
    (h : Q (.ref s.heap.objs.size) { s with heap := s.heap.push { cls := .type "tuple", data := .seq items.toList.reverse.toArray } }) (hsz : items.size ≤ sizeLine) : wpAny (model prog w) A (getItem (.ref t) (.ref sl)) Q E s := by
  have htake : sizeOk (.seq items.toList.reverse.toArray) := by
    show items.toList.reverse.toArray.size ≤ sizeLine
    rw [List.size_toArray, List.length_reverse, Array.length_toList]
    exact hsz
  obtain ⟨os, hos, hcs, hds⟩ := id hs
  have hTs : s.TypeIs (.ref sl) "slice" := ⟨os, hos, hcs⟩
  unfold getItem
  try with_reducible refine wpAny_holding ?_
  first | refine wpAny_bind (wpAny_pure ?_) | skip
  refine wpAny_bind (wpAny_sequenceKey ht.typeIs (by decide) ?_)
  refine wpAny_bind (wpAny_callSpecial?_slot (name := Str.ofString "__getitem__") ht.typeIs PyProof.Rows.slot_tuple_getitem
    (wpAny_call_entry PyProof.Rows.slot_tuple_getitem ht.typeIs entry_tuple_getitem ?_ (args_tuple_getitem _ _)))
  show wpAny _ _ (Builtin.Tuple.tupleItemsOf (.ref t) >>= _) _ _ s
  refine wpAny_bind (tupleItemsOf_ ht ?_)
  refine wpAny_bind (wpAny_typeOf hTs ?_)
  rw [if_pos (by decide)]
  refine wpAny_bind (sliceApplied_rev hs pl pu ps ?_)
  have hno : ¬ ((((items.size : Nat) : Int) - 1 == 0 && (-1 : Int) == 1 && items.size == items.size) = true) := by
    intro q
    rw [Bool.and_eq_true, Bool.and_eq_true] at q
    exact absurd q.1.2 (by decide)
  show wpAny _ _ (if ((((items.size : Nat) : Int) - 1 == 0 && (-1 : Int) == 1 && items.size == items.size)) = true then _ else _) _ _ s
  rw [if_neg hno, pick_rev]
  first
    | exact wpAny_bind (m := Builtin.Tuple.tupleExact _) (wpAny_newObj_type (wpAny_pure ⟨_, rfl, wpAny_pure h⟩) htake)
    | exact wpAny_bind (m := Builtin.Tuple.tupleExact _) (wpAny_newObj_type (wpAny_bind (wpAny_pure (wpAny_pure ⟨_, rfl, wpAny_pure h⟩))) htake)
    | exact wpAny_bind (wpAny_bind (m := Builtin.Tuple.tupleExact _) (wpAny_newObj_type (wpAny_pure (wpAny_pure ⟨_, rfl, wpAny_pure h⟩)) htake))
    | exact wpAny_bind (wpAny_bind (m := Builtin.Tuple.tupleExact _) (wpAny_newObj_type (wpAny_pure ⟨_, rfl, wpAny_pure h⟩) htake))
end
def tRevT (K : PySem.W.Frag) (te : TE) : TE := fun σ H Q => te σ H fun x H1 => ∃ a xs, x = .ref a ∧ SqT K H1 a xs ∧ ∀ p, H1 p = none → Q (.ref p) (upd H1 p (.tup xs.reverse))
section
variable {X : Cx}
theorem pe_revT {e : Expr} {te : TE} {k : Nat} {p1 p2 p3 pos : Pos} (he : PE X e te) : PE X (.Subscript e (.Slice none none (some (.UnaryOp .USub (.Constant (.int 1) k p1) p2)) p3) pos) (tRevT X.K te) := by
  refine ⟨fun pins s σ H Q I h => Subscript_ (thn (he.run pins s σ H _ I h) fun v s1 ⟨x, H1, I1, r1, a, xs, ex, hx, q⟩ => ?_)⟩
  subst ex
  cases r1
  have step : PO X (some (.UnaryOp .USub (.Constant (.int 1) k p1) p2)) (tPart (tUn (rU fun i => .int (-i)) (tC (.int 1)))) := po_some (pe_un un_neg pe_int)
  refine wpAny_Slice (thn (po_none.run pins s1 σ H1 (fun o H2 => o = none ∧ H2 = H1) I1 ⟨rfl, rfl⟩) fun vl s2 ⟨l, H2, I2, pl, el, e2⟩ => ?_)
  subst el e2
  refine thn (po_none.run pins s2 σ H2 (fun o H3 => o = none ∧ H3 = H2) I2 ⟨rfl, rfl⟩) fun vu s3 ⟨u, H3, I3, pu, eu, e3⟩ => ?_
  subst eu e3
  refine thn (step.run pins s3 σ H3 (fun o H4 => o = some (-1) ∧ H4 = H3) I3 ⟨1, rfl, -1, rfl, rfl, rfl⟩) fun vs s4 ⟨o, H4, I4, ps, eo, e4⟩ => ?_
  subst eo e4
  have I5 : Inv X pins σ H4 { s4 with heap := s4.heap.push { cls := .type "slice", data := .fields #[vl, vu, vs] } } := I4.kept (t' := s4.toks) fun b ob q => Heap.get?_push_of_some _ q
  obtain ⟨its, r, ht, hz⟩ := I5.tuple hx
  have hlen := r.length
  show wpAny (model X.prog X.w) X.A (subscriptTail e (.Slice none none (some (.UnaryOp .USub (.Constant (.int 1) k p1) p2)) p3) (.ref a) (.ref s4.heap.objs.size)) (EP X pins σ Q) X.xe { s4 with heap := s4.heap.push { cls := .type "slice", data := .fields #[vl, vu, vs] } }
  refine tail_any (ops := [.ref a, .ref s4.heap.objs.size]) ht.typeIs (PyProof.Rows.slot_tuple_getitem.lookup) ?_ (by with_unfolding_all rfl)
  refine getItem_tuple_rev ht (Heap.IsSliceOf.new _ vl vu vs) pl pu ps ?_ (by rw [List.size_toArray]; omega)
  refine ⟨.ref _, _, I5.laid (t' := s4.toks) (o := .tup xs.reverse) (fun b ob q => Heap.get?_push_of_some _ q) (Nat.le_refl _) ?_, rfl, q _ (I5.hok.fresh (Nat.le_refl _))⟩
  exact ⟨by rw [List.length_reverse]; exact hz, _, r.reverse, ⟨_, Heap.get?_push_size _ rfl, rfl, _, rfl⟩⟩
end
theorem dpAll_rev {K : PySem.W.Frag} {H : Hp} : ∀ {ds : List PyData} {vs : List V}, DpAll K H vs ds → DpAll K H vs.reverse ds.reverse
  | [], _, h => by cases h; exact .nil
  | d :: ds, _, h => by
    cases h with
    | cons h1 h2 =>
      rw [List.reverse_cons, List.reverse_cons]
      exact dpAll_app (dpAll_rev h2) (.cons h1 .nil)
theorem w_revT {K : PySem.W.Frag} {ρ : Rho} {𝒜 : Fact → Prop} {te : TE} {α : Type} [Enc α] (h : W K te ρ fun A => ∃ xs : List α, Le A (Is K xs) ∧ 𝒜 (Is K xs.reverse)) : W K (tRevT K te) ρ 𝒜 := fun σ Ot Hf H Q e q =>
  h σ Ot Hf H _ e fun v H1f H1 A g a ⟨xs, l, k⟩ => by
    obtain ⟨p, vs, rfl, h1, h2⟩ := dp_tup (l _ _ a)
    refine ⟨p, vs, rfl, same_t (Sm.of g.sub) h1, fun t ht => ?_⟩
    have g2 := Grow.new (o := .tup vs.reverse) g.sub ht
    refine q (.ref t) _ _ (Is K xs.reverse) (g.trans g2) (.tup (.inl (.inl upd_same)) ?_) k
    rw [List.map_reverse]
    exact dpAll_rev (dpAll_mono g2.f _ _ h2)
end DL
/-! DLv: walks, comprehensions, set(list), sorted(set) while an exception is handled. -/
namespace DL
open PySem PySem.Spec PyProof.Rows L2 HotX
section
variable {prog : Program} {w : World} {A : Around} {E : Value → Shared → Prop} {s : Shared}
theorem next_list_end_hot {it l x1 : Addr} {i : Nat} {items : Array Value} {Q : Option Value → Shared → Prop} (hot : HotAt A x1 s.heap) (hxi : x1 ≠ it) (hit : s.heap.IsListIter it l i) (hl : s.heap.IsList l items) (hx : items[i]? = none)
    (hQ : ∀ h', Heap.ExtBut it s.heap h' → Q none { s with heap := h' }) : wpAny (model prog w) A (pyNext (.ref it)) Q E s := by
  obtain ⟨o, ho, hc, hd⟩ := id hit
  obtain ⟨ol, hol, _, nl, hdl⟩ := hl
  obtain ⟨hh, o1, vs1, h1, d1, c1⟩ := hot
  unfold pyNext
  refine wpAny_bind (wpAny_attempt (wpAny_callSpecial?_slot (name := Str.ofString "__next__") hit.typeIs slot_listiter_next
    (wpAny_call_entry slot_listiter_next hit.typeIs entry_listiter_next ?_ (args_listiter_next _))))
  show wpAny _ _ (field (.ref it) 0 >>= _) _ _ s
  refine wpAny_bind (wpAny_field ho hd (x := .ref l) rfl ?_)
  show wpAny _ _ (if (Value.ref l == Value.none) = true then _ else _) _ _ s
  rw [if_neg (show ¬ ((Value.ref l == Value.none) = true) from Bool.false_ne_true)]
  show wpAny _ _ (field (.ref it) 1 >>= _) _ _ s
  refine wpAny_bind (wpAny_field ho hd (x := .int i 0) rfl ?_)
  show wpAny _ _ (seqItems? (.ref l) >>= _) _ _ s
  refine wpAny_bind (wpAny_seqItems hol hdl ?_)
  simp only [Int.toNat_natCast, hx]
  refine wpAny_bind (wpAny_rule (wpAny_bind (wpAny_setField ho hd (by simp) ?_)))
  show wpAny _ _ (newExc (.type "StopIteration") [] >>= _) _ _ _
  refine wpAny_bind ?_
  simp only [newExc, newTuple]
  refine wpAny_bind (wpAny_newObj_type ?_ (by size_fits))
  refine wpAny_bind (m := firstArgMember _ _) (wpAny_of_eq (a := Value.none) (by first | rfl | (simp only [firstArgMember]; rfl)) ?_)
  refine wpAny_newObj_type ?_ (by size_fits)
  have k1 := (Heap.get?_update_other s.heap (Obj.mapFields (·.setIfInBounds 0 Value.none)) (Ne.symm hxi)).trans h1
  refine raiseNew_hot ⟨hh, o1, vs1, Heap.get?_push_of_some _ (Heap.get?_push_of_some _ k1), d1, c1⟩ (Nat.ne_of_lt (Heap.lt_size (Heap.get?_push_of_some _ k1))) (Heap.get?_push_size _ rfl) rfl (by first | (simp; done) | (simp; omega)) ?_
  refine wpAny_bind (wpAny_isInstance (T := "StopIteration") (b := true) ⟨_, Heap.get?_update_self _ (Heap.get?_push_size _ rfl) rfl, rfl⟩ isSubtype_stop ?_)
  refine wpAny_pure (hQ _ fun b ob hb e => ?_)
  have kb := (Heap.get?_update_other s.heap (Obj.mapFields (·.setIfInBounds 0 Value.none)) (Ne.symm hb)).trans e
  rw [Heap.get?_update_other _ _ (Nat.ne_of_gt (Heap.lt_size (Heap.get?_push_of_some _ kb)))]
  exact Heap.get?_push_of_some _ (Heap.get?_push_of_some _ kb)
end
section
variable {P : Program} {w : World} {A : Around} {E : Value → Shared → Prop} {s : Shared} {it a x1 : Addr} {i sl : Nat} {es : Array (Int × Value)} {ep : Nat} {t : SetTable}
theorem stop_hot {h0 : Heap} {Q : Option Value → Shared → Prop} (hot : HotAt A x1 s.heap) (hxi : x1 ≠ it) (hk : ∀ b o, b ≠ it → s.heap.get? b = some o → h0.get? b = some o)
    (hQ : ∀ h', Heap.ExtBut it s.heap h' → Q none { s with heap := h' }) :
    wpAny (model P w) A.in1 (newExc (.type "StopIteration") [] >>= fun e => (raiseNew e : Sem Fin)) (fun _ _ => False)
      (fun e s' => wpAny (model P w) A (do if ← isInstance e (.type "StopIteration") then pure none else throw e) Q E s') { s with heap := h0 } := by
  obtain ⟨hh, o1, vs1, h1, d1, c1⟩ := hot
  have k1 := hk _ _ hxi h1
  refine wpAny_bind ?_
  simp only [newExc, newTuple]
  refine wpAny_bind (wpAny_newObj_type ?_ (by size_fits))
  refine wpAny_bind (m := firstArgMember _ _) (wpAny_of_eq (a := Value.none) (by first | rfl | (simp only [firstArgMember]; rfl)) ?_)
  refine wpAny_newObj_type ?_ (by size_fits)
  refine raiseNew_hot ⟨hh, o1, vs1, Heap.get?_push_of_some _ (Heap.get?_push_of_some _ k1), d1, c1⟩ (Nat.ne_of_lt (Heap.lt_size (Heap.get?_push_of_some _ k1))) (Heap.get?_push_size _ rfl) rfl (by first | (simp; done) | (simp; omega)) ?_
  refine wpAny_bind (wpAny_isInstance (T := "StopIteration") (b := true) ⟨_, Heap.get?_update_self _ (Heap.get?_push_size _ rfl) rfl, rfl⟩ isSubtype_stop ?_)
  refine wpAny_pure (hQ _ fun b o hb e => ?_)
  have kb := hk b o hb e
  rw [Heap.get?_update_other _ _ (Nat.ne_of_gt (Heap.lt_size (Heap.get?_push_of_some _ kb)))]
  exact Heap.get?_push_of_some _ (Heap.get?_push_of_some _ kb)
theorem next_end_hot {Q : Option Value → Shared → Prop} (hot : HotAt A x1 s.heap) (hxi : x1 ≠ it) (hit : IsSI s.heap it (.int (sl : Int) 0) i a es.size ep) (ha : SetAt s.heap a es ep t) (hf : t.fits es.size = true)
    (hN : ∀ (A' : Around) (E' : Value → Shared → Prop) (Q' : Option (Value × Nat) → Shared → Prop), Q' none s → wpAny (model P w) A' (setNext a sl i ep) Q' E' s)
    (hQ : ∀ h', Heap.ExtBut it s.heap h' → Q none { s with heap := h' }) :
    wpAny (model P w) A (pyNext (.ref it)) Q E s := by
  obtain ⟨o, ho, hc, hd⟩ := id hit
  obtain ⟨oa, hoa, _, hda⟩ := id ha
  unfold pyNext
  refine wpAny_bind (wpAny_attempt (wpAny_callSpecial?_slot (name := Str.ofString "__next__") hit.typeIs slot_si_next
    (wpAny_call_entry slot_si_next hit.typeIs entry_si_next ?_ (args_si_next _))))
  unfold Builtin.«set_iterator.__next__»
  refine wpAny_bind (m := slotArgs "__next__" 0 _) (wpAny_pure ?_)
  refine wpAny_bind (wpAny_fieldsOf ho hd ?_)
  show wpAny _ _ (setEntries a >>= _) _ _ s
  refine wpAny_bind (wpAny_setEntries_of hoa hda hf ?_)
  refine wp_if_neg (by simp) ?_
  try refine wpAny_bind (wpAny_pure ?_)
  show wpAny _ _ (setNext a sl i ep >>= _) _ _ s
  refine wpAny_bind (hN _ _ _ ?_)
  show wpAny _ _ (setField (.ref it) 2 .none >>= _) _ _ s
  refine wpAny_bind (wpAny_setField ho hd (by simp) ?_)
  refine wpAny_mono (stop_hot (s := s) (it := it) (Q := Q) (E := E) hot hxi (fun b ob hb e => ?_) hQ) (fun _ _ z => z.elim) fun e s' z => z
  exact (Heap.get?_update_other _ _ (Ne.symm hb)).trans e
theorem next_drawn_end_hot {p : Addr} {ys : List Nat} {Q : Option Value → Shared → Prop} (hot : HotAt A x1 s.heap) (hxi : x1 ≠ it) (hit : IsSI s.heap it (.ref p) i a es.size ep) (ha : SetAt s.heap a es ep t) (hf : t.fits es.size = true)
    (hp : s.heap.get? p = some { cls := .type "tuple", data := .seq (ys.map fun (k : Nat) => rawInt (k : Int)).toArray }) (hj : ys[i]? = none)
    (hQ : ∀ h', Heap.ExtBut it s.heap h' → Q none { s with heap := h' }) :
    wpAny (model P w) A (pyNext (.ref it)) Q E s := by
  obtain ⟨o, ho, hc, hd⟩ := id hit
  obtain ⟨oa, hoa, _, hda⟩ := id ha
  unfold pyNext
  refine wpAny_bind (wpAny_attempt (wpAny_callSpecial?_slot (name := Str.ofString "__next__") hit.typeIs slot_si_next
    (wpAny_call_entry slot_si_next hit.typeIs entry_si_next ?_ (args_si_next _))))
  unfold Builtin.«set_iterator.__next__»
  refine wpAny_bind (m := slotArgs "__next__" 0 _) (wpAny_pure ?_)
  refine wpAny_bind (wpAny_fieldsOf ho hd ?_)
  show wpAny _ _ (setEntries a >>= _) _ _ s
  refine wpAny_bind (wpAny_setEntries_of hoa hda hf ?_)
  refine wp_if_neg (by simp) ?_
  try refine wpAny_bind (wpAny_pure ?_)
  show wpAny _ _ (seqItems? (.ref p) >>= _) _ _ s
  refine wpAny_bind (wpAny_seqItems hp rfl ?_)
  have hij : (ys.map fun (k : Nat) => rawInt (k : Int)).toArray[(Int.toNat (i : Int))]? = none := by simp [hj]
  dsimp only
  rw [hij]
  show wpAny _ _ (setField (.ref it) 0 (rawInt 0) >>= _) _ _ s
  refine wpAny_bind (wpAny_setField ho hd (by simp) ?_)
  have ho1 := Heap.get?_update_self (Obj.mapFields (·.setIfInBounds 0 (rawInt 0))) ho (Obj.isFreed_of_fields (Obj.data_mapFields hd _))
  have hd1 := Obj.data_mapFields hd (·.setIfInBounds 0 (rawInt 0))
  show wpAny _ _ (setField (.ref it) 2 .none >>= _) _ _ _
  refine wpAny_bind (wpAny_setField ho1 hd1 (by simp) ?_)
  refine wpAny_mono (stop_hot (s := s) (it := it) (Q := Q) (E := E) hot hxi (fun b ob hb e => ?_) hQ) (fun _ _ z => z.elim) fun e s' z => z
  exact (Heap.get?_update_other _ _ (Ne.symm hb)).trans ((Heap.get?_update_other _ _ (Ne.symm hb)).trans e)
end
/-- the handled exception's object, as it stands -/
def HotObj (x1 : Addr) (h : Heap) : Prop := ∃ (o : Obj) (vs : Array Value), h.get? x1 = some o ∧ o.data = .fields vs ∧ vs[2]? = some .none
theorem HotObj.at_ {x1 : Addr} {h h' : Heap} (x : HotObj x1 h) (k : ∀ o, h.get? x1 = some o → h'.get? x1 = some o) : HotObj x1 h' := let ⟨o, vs, e, r⟩ := x; ⟨o, vs, k o e, r⟩
section
variable {P : Program} {w : World} {A : Around} {a I x1 : Addr} {es : Array (Int × Value)} {ep : Nat} {t : SetTable}
theorem walks_listH (hh : A.handled = some (.ref x1)) (hxI : x1 ≠ I) (hne : a ≠ I) (items : Array Value) :
    Walks P w A I [I, a, x1] [I] items.size (fun i v => items[i]? = some v) (fun i h => h.IsListIter I a i ∧ h.IsList a items ∧ HotObj x1 h) where
  sub := fun b hb => by simp at hb; simp [hb]
  frame := fun _ _ _ st hk => ⟨st.1.at fun o e => hk I (by simp) o e, st.2.1.at fun o e => hk a (by simp) o e, st.2.2.at_ fun o e => hk x1 (by simp) o e⟩
  item := fun i s Q E hi st hQ => by
    refine wpAny_pyNext_list_item st.1 st.2.1 (x := items[i]) (by simp [hi]) fun h' hit' hs' => ?_
    exact hQ _ h' s.toks (by simp [hi]) ⟨hit', st.2.1.extBut hs'.extBut hne, st.2.2.at_ fun o e => hs'.extBut x1 o hxI e⟩ fun b o hb e => hs'.extBut b o (fun h => hb (by simp [h])) e
  done := fun s Q E st hQ => by
    refine next_list_end_hot ⟨hh, st.2.2⟩ hxI st.1 st.2.1 (by simp) fun h' he' => hQ h' s.toks fun b o hb e => he' b o (fun h => hb (by simp [h])) e
  self := fun _ _ _ _ st hQ => wpAny_pyIter_listiter st.1 hQ
end
end DL
/-! DLw: a set's members gathered and sorted while an exception is handled. -/
namespace DL
open PySem PySem.Spec PyProof.Rows L2 HotX
section
variable {P : Program} {w : World} {A : Around} {a I x1 : Addr} {es : Array (Int × Value)} {ep : Nat} {t : SetTable}
theorem walks_textH (hh : A.handled = some (.ref x1)) (hxI : x1 ≠ I) (hne : a ≠ I) (hf : t.fits es.size = true) (hbt : w.params.followText "set-order" = true) :
    Walks P w A I [I, a, x1] [I] (pickOrder (w.params.setOrder a ep) es).size (fun j v => ((pickOrder (w.params.setOrder a ep) es)[j]?).map (·.2) = some v)
      (fun i h => IsSI h I (.int ((0 : Nat) : Int) 0) i a es.size ep ∧ SetAt h a es ep t ∧ HotObj x1 h) where
  sub := fun b hb => by simp at hb; simp [hb]
  frame := fun _ _ _ st hk => ⟨st.1.at fun o e => hk I (by simp) o e, st.2.1.at fun o e => hk a (by simp) o e, st.2.2.at_ fun o e => hk x1 (by simp) o e⟩
  item := fun i s Q E hi st hQ => by
    have e := Array.getElem?_eq_getElem hi
    refine next_item (x := ((pickOrder (w.params.setOrder a ep) es)[i]).2) (nx := 0) st.1 st.2.1 hf (fun A' E' Q' h => setNext_text st.2.1 hf hbt (by rw [e]; exact h)) fun h' hit' hs' => ?_
    exact hQ _ h' s.toks (congrArg (Option.map fun q : Int × Value => q.2) e) ⟨hit', st.2.1.at fun o q => hs'.extBut a o hne q, st.2.2.at_ fun o q => hs'.extBut x1 o hxI q⟩ fun b o hb q => hs'.extBut b o (fun z => hb (by simp [z])) q
  done := fun s Q E st hQ => by
    have e : (pickOrder (w.params.setOrder a ep) es)[(pickOrder (w.params.setOrder a ep) es).size]? = none := Array.getElem?_eq_none (Nat.le_refl _)
    refine next_end_hot ⟨hh, st.2.2⟩ hxI st.1 st.2.1 hf (fun A' E' Q' h => setNext_text st.2.1 hf hbt (by rw [e]; exact h)) fun h' he' => ?_
    exact hQ h' s.toks fun b o hb q => he' b o (fun z => hb (by simp [z])) q
  self := fun _ _ _ _ st hQ => iter_self st.1 hQ
theorem walks_ledH (hh : A.handled = some (.ref x1)) (hxI : x1 ≠ I) (hne : a ≠ I) (hf : t.fits es.size = true) (r : Ris t.place.toList) (hbt : w.params.followText "set-order" = false)
    (hdr : (!t.plain && decide (es.size > 1)) = false) (hl : t.led = true) :
    Walks P w A I [I, a, x1] [I] es.size (fun j v => (es[j]?).map (·.2) = some v)
      (fun i h => IsSI h I (.int ((slotAt t i : Nat) : Int) 0) i a es.size ep ∧ SetAt h a es ep t ∧ HotObj x1 h) where
  sub := fun b hb => by simp at hb; simp [hb]
  frame := fun _ _ _ st hk => ⟨st.1.at fun o e => hk I (by simp) o e, st.2.1.at fun o e => hk a (by simp) o e, st.2.2.at_ fun o e => hk x1 (by simp) o e⟩
  item := fun i s Q E hi st hQ => by
    have hps : t.place.size = es.size := by
      simp only [SetTable.fits, Bool.and_eq_true, beq_iff_eq] at hf
      exact hf.1
    have hip : i < t.place.size := by rw [hps]; exact hi
    have e := Array.getElem?_eq_getElem hi
    have e2 := Array.getElem?_eq_getElem hip
    have hb := below_slotAt r (Nat.le_of_lt hip)
    have hnx : slotAt t (i + 1) = t.place[i] + 1 := by
      show (t.place.toList[i]?.getD 0) + 1 = _
      rw [Array.getElem?_toList, e2] <;> rfl
    refine next_item (x := (es[i]).2) (nx := t.place[i] + 1) st.1 st.2.1 hf (fun A' E' Q' h => setNext_led st.2.1 hf hbt hdr hl (by rw [hb, e, e2]; exact h)) fun h' hit' hs' => ?_
    exact hQ _ h' s.toks (congrArg (Option.map fun q : Int × Value => q.2) e) ⟨by rw [hnx]; exact hit', st.2.1.at fun o q => hs'.extBut a o hne q, st.2.2.at_ fun o q => hs'.extBut x1 o hxI q⟩ fun b o hb q => hs'.extBut b o (fun z => hb (by simp [z])) q
  done := fun s Q E st hQ => by
    have hps : t.place.size = es.size := by
      simp only [SetTable.fits, Bool.and_eq_true, beq_iff_eq] at hf
      exact hf.1
    have e : es[es.size]? = none := Array.getElem?_eq_none (Nat.le_refl _)
    have e2 : t.place[es.size]? = none := Array.getElem?_eq_none (Nat.le_of_eq hps)
    have hb : SetTable.below t.place (slotAt t es.size) = es.size := below_slotAt r (Nat.le_of_eq hps.symm)
    refine next_end_hot ⟨hh, st.2.2⟩ hxI st.1 st.2.1 hf (fun A' E' Q' h => setNext_led st.2.1 hf hbt hdr hl (by rw [hb, e, e2]; exact h)) fun h' he' => ?_
    exact hQ h' s.toks fun b o hb q => he' b o (fun z => hb (by simp [z])) q
  self := fun _ _ _ _ st hQ => iter_self st.1 hQ
theorem walks_drawnH {p : Addr} {ys : List Nat} (hh : A.handled = some (.ref x1)) (hxI : x1 ≠ I) (hne : a ≠ I) (hpe : p ≠ I) (hf : t.fits es.size = true) (hy : ∀ j ∈ ys, j < es.size) :
    Walks P w A I [I, a, p, x1] [I] ys.length (fun j v => (ys[j]?).bind (fun q => (es[q]?).map (·.2)) = some v)
      (fun i h => IsSI h I (.ref p) i a es.size ep ∧ SetAt h a es ep t ∧ h.get? p = some { cls := .type "tuple", data := .seq (ys.map fun (k : Nat) => rawInt (k : Int)).toArray } ∧ HotObj x1 h) where
  sub := fun b hb => by simp at hb; simp [hb]
  frame := fun _ _ _ st hk => ⟨st.1.at fun o e => hk I (by simp) o e, st.2.1.at fun o e => hk a (by simp) o e, hk p (by simp) _ st.2.2.1, st.2.2.2.at_ fun o e => hk x1 (by simp) o e⟩
  item := fun i s Q E hi st hQ => by
    have e := List.getElem?_eq_getElem hi
    have hlt : ys[i] < es.size := hy _ (List.getElem_mem hi)
    have e2 := Array.getElem?_eq_getElem hlt
    refine next_drawn_item st.1 st.2.1 hf st.2.2.1 e e2 fun h' hit' hs' => ?_
    have hpv : (ys[i]?).bind (fun q => (es[q]?).map (·.2)) = some (es[ys[i]]'hlt).2 := by
      rw [e]
      show (es[ys[i]]?).map (·.2) = _
      rw [e2] <;> rfl
    exact hQ _ h' s.toks hpv ⟨hit', st.2.1.at fun o q => hs'.extBut a o hne q, hs'.extBut p _ hpe st.2.2.1, st.2.2.2.at_ fun o q => hs'.extBut x1 o hxI q⟩ fun b o hb q => hs'.extBut b o (fun z => hb (by simp [z])) q
  done := fun s Q E st hQ => by
    have e : ys[ys.length]? = none := List.getElem?_eq_none (Nat.le_refl _)
    refine next_drawn_end_hot ⟨hh, st.2.2.2⟩ hxI st.1 st.2.1 hf st.2.2.1 e fun h' he' => ?_
    exact hQ h' s.toks fun b o hb q => he' b o (fun z => hb (by simp [z])) q
  self := fun _ _ _ _ st hQ => iter_self st.1 hQ
end
section
variable {P : Program} {w : World} {A : Around} {E : Value → Shared → Prop} {s : Shared} {a x1 : Addr} {es : Array (Int × Value)} {ep : Nat} {t : SetTable}
/-- what iter(set) gives there -/
def SetItH (P : Program) (w : World) (s : Shared) (a x1 : Addr) (es : Array (Int × Value)) (s₂ : Shared) (I : Addr) : Prop :=
  ∃ (fp : List Addr) (St : Nat → Heap → Prop) (out : List Value) (Pv : Nat → Value → Prop), (∀ b o, s.heap.get? b = some o → s₂.heap.get? b = some o) ∧ s₂.gens = s.gens ∧ s₂.os = s.os ∧ s₂.toks = s.toks ∧
    s.heap.objs.size ≤ I ∧ (∀ b ∈ fp, b = a ∨ b = x1 ∨ s.heap.objs.size ≤ b) ∧ out.Perm (es.toList.map (·.2)) ∧ (∀ A' : Around, A'.handled = some (.ref x1) → Walks P w A' I fp [I] out.length Pv St) ∧
    (∀ j v, Pv j v → out[j]? = some v) ∧ St 0 s₂.heap
theorem SetItH.of {s₂ : Shared} {I : Addr} {fp : List Addr} {St : Nat → Heap → Prop} {out : List Value} {Pv : Nat → Value → Prop} {n : Nat} (W : ∀ A' : Around, A'.handled = some (.ref x1) → Walks P w A' I fp [I] n Pv St) (hn : out.length = n)
    (k : ∀ b o, s.heap.get? b = some o → s₂.heap.get? b = some o) (g : s₂.gens = s.gens) (ho : s₂.os = s.os) (tk : s₂.toks = s.toks) (hI : s.heap.objs.size ≤ I) (hfp : ∀ b ∈ fp, b = a ∨ b = x1 ∨ s.heap.objs.size ≤ b)
    (hp : out.Perm (es.toList.map (·.2))) (hPv : ∀ j v, Pv j v → out[j]? = some v) (hst : St 0 s₂.heap) : SetItH P w s a x1 es s₂ I := by
  subst hn
  exact ⟨fp, St, out, Pv, k, g, ho, tk, hI, hfp, hp, W, hPv, hst⟩
theorem iter_setH {Q : Value → Shared → Prop} (hot : HotObj x1 s.heap) (ha : SetAt s.heap a es ep t) (hf : t.fits es.size = true) (hsz : es.size < scanBound) (r : Ris t.place.toList)
    (hl : w.params.followText "set-order" = true ∨ t.led = true) (hQ : ∀ s₂ I, SetItH P w s a x1 es s₂ I → Q (.ref I) s₂) : wpAny (model P w) A (pyIter (.ref a)) Q E s := by
  obtain ⟨o, ho, hc, hd⟩ := id ha
  have hT : s.TypeIs (.ref a) "set" := ⟨o, ho, hc⟩
  have hlt : a < s.heap.objs.size := Heap.lt_size ho
  have hx : x1 < s.heap.objs.size := by obtain ⟨_, _, e, _⟩ := hot; exact Heap.lt_size e
  refine wpAny_pyIter_slot hT F.slot_set_iter (wpAny_call_entry F.slot_set_iter hT entry_s_iter ?_ (F.args_set_iter_1 _))
  unfold Builtin.«frozenset.__iter__»
  refine wpAny_bind (m := Builtin.Frozenset.slot0 "__iter__" _) (wpAny_of_eq (a := a) (by rfl) ?_)
  refine wpAny_bind (m := Builtin.Frozenset.sizeOf a) ?_
  unfold Builtin.Frozenset.sizeOf
  refine wpAny_bind (wpAny_setEntries_of ho hd hf (wpAny_pure ?_))
  first | refine wpAny_bind (setDrawn_at ha hf ?_) | refine wpAny_bind (wpAny_bind (setDrawn_at ha hf ?_))
  cases hb : w.params.followText "set-order" with
  | true =>
    refine wp_if_neg (by simp) ?_
    first | refine wpAny_bind (wpAny_pure ?_) | refine wpAny_pure ?_
    refine wpAny_bind (wpAny_setEpoch_of ho hd hf ?_)
    refine wpAny_bind (wpAny_newObj_type (wpAny_pure ⟨_, rfl, "set_iterator", _, ⟨_, Heap.get?_push_size _ rfl, rfl⟩, slot_si_next.lookup, ?_⟩))
    have hp := pick_perm (w.params.setOrder a ep) es
    have hlen : ((pickOrder (w.params.setOrder a ep) es).toList.map (·.2)).length = (pickOrder (w.params.setOrder a ep) es).size := by rw [List.length_map, Array.length_toList]
    refine hQ _ _ (SetItH.of (fun A' hA' => walks_textH (P := P) (ep := ep) hA' (Nat.ne_of_lt hx) (Nat.ne_of_lt hlt) hf hb) hlen (fun b u e => Heap.get?_push_of_some _ e) rfl rfl rfl (Nat.le_refl _) (fun b hb' => ?_) (hp.map _)
      (fun j v q => ?_) ⟨⟨_, Heap.get?_push_size _ rfl, rfl, rfl⟩, ha.at fun u e => Heap.get?_push_of_some _ e, hot.at_ fun u e => Heap.get?_push_of_some _ e⟩)
    · have e' : b = s.heap.objs.size ∨ b = a ∨ b = x1 := by simpa using hb'
      rcases e' with z | z | z
      · exact .inr (.inr (Nat.le_of_eq z.symm))
      · exact .inl z
      · exact .inr (.inl z)
    · rw [List.getElem?_map, Array.getElem?_toList]; exact q
  | false =>
    have hled : t.led = true := hl.resolve_left (by rw [hb]; exact Bool.false_ne_true)
    cases hdr : (!t.plain && decide (es.size > 1)) with
    | false =>
      refine wp_if_neg (by simp) ?_
      first | refine wpAny_bind (wpAny_pure ?_) | refine wpAny_pure ?_
      refine wpAny_bind (wpAny_setEpoch_of ho hd hf ?_)
      refine wpAny_bind (wpAny_newObj_type (wpAny_pure ⟨_, rfl, "set_iterator", _, ⟨_, Heap.get?_push_size _ rfl, rfl⟩, slot_si_next.lookup, ?_⟩))
      have hlen : (es.toList.map (·.2)).length = es.size := by rw [List.length_map, Array.length_toList]
      refine hQ _ _ (SetItH.of (fun A' hA' => walks_ledH (P := P) (ep := ep) hA' (Nat.ne_of_lt hx) (Nat.ne_of_lt hlt) hf r hb hdr hled) hlen (fun b u e => Heap.get?_push_of_some _ e) rfl rfl rfl (Nat.le_refl _) (fun b hb' => ?_) (List.Perm.refl _)
        (fun j v q => ?_) ⟨⟨_, Heap.get?_push_size _ rfl, rfl, rfl⟩, ha.at fun u e => Heap.get?_push_of_some _ e, hot.at_ fun u e => Heap.get?_push_of_some _ e⟩)
      · have e' : b = s.heap.objs.size ∨ b = a ∨ b = x1 := by simpa using hb'
        rcases e' with z | z | z
        · exact .inr (.inr (Nat.le_of_eq z.symm))
        · exact .inl z
        · exact .inr (.inl z)
      · rw [List.getElem?_map, Array.getElem?_toList]; exact q
    | true =>
      refine wp_if_pos rfl ?_
      refine wpAny_bind (drawOrder_at _ _ _ _ (Nat.le_of_eq List.length_range) fun ys d hp => ?_)
      have hyl : ys.length = es.size := by rw [hp.length_eq, List.length_range]
      have hsl : (ys.map fun (k : Nat) => rawInt (k : Int)).length ≤ sizeLine := by rw [List.length_map, hyl]; exact fits_of_scanBound hsz
      first | refine wpAny_bind (wpAny_newTuple ?_ hsl) | refine wpAny_newTuple ?_ hsl
      have ho2 : (s.heap.push { cls := .type "tuple", data := .seq (ys.map fun (k : Nat) => rawInt (k : Int)).toArray }).get? a = some o := Heap.get?_push_of_some _ ho
      refine wpAny_bind (wpAny_setEpoch_of ho2 hd hf ?_)
      refine wpAny_bind (wpAny_newObj_type (wpAny_pure ⟨_, rfl, "set_iterator", _, ⟨_, Heap.get?_push_size _ rfl, rfl⟩, slot_si_next.lookup, ?_⟩))
      have hsz2 : (s.heap.push { cls := .type "tuple", data := .seq (ys.map fun (k : Nat) => rawInt (k : Int)).toArray }).objs.size = s.heap.objs.size + 1 := size_push' _ _
      have hne : a ≠ (s.heap.push { cls := .type "tuple", data := .seq (ys.map fun (k : Nat) => rawInt (k : Int)).toArray }).objs.size := by rw [hsz2]; exact Nat.ne_of_lt (Nat.lt_succ_of_lt hlt)
      have hxI : x1 ≠ (s.heap.push { cls := .type "tuple", data := .seq (ys.map fun (k : Nat) => rawInt (k : Int)).toArray }).objs.size := by rw [hsz2]; exact Nat.ne_of_lt (Nat.lt_succ_of_lt hx)
      have hpe : s.heap.objs.size ≠ (s.heap.push { cls := .type "tuple", data := .seq (ys.map fun (k : Nat) => rawInt (k : Int)).toArray }).objs.size := by rw [hsz2]; omega
      have hys : ∀ j ∈ ys, j < es.size := fun j hj => List.mem_range.mp (hp.mem_iff.mp hj)
      have hpm : (ys.map fun q => ((es[q]?).map (·.2)).getD Value.none).Perm (es.toList.map (·.2)) := by
        rw [← range_map es]
        exact hp.map _
      refine hQ _ _ (SetItH.of (fun A' hA' => walks_drawnH (P := P) (w := w) (ep := ep) (t := t) hA' hxI hne hpe hf hys) (List.length_map _) (fun b u e => Heap.get?_push_of_some _ (Heap.get?_push_of_some _ e)) rfl rfl rfl ?_ (fun b hb' => ?_) hpm
        (fun j v q => ?_) ⟨⟨_, Heap.get?_push_size _ rfl, rfl, rfl⟩, ha.at fun u e => Heap.get?_push_of_some _ (Heap.get?_push_of_some _ e), Heap.get?_push_of_some _ (Heap.get?_push_size _ rfl), hot.at_ fun u e => Heap.get?_push_of_some _ (Heap.get?_push_of_some _ e)⟩)
      · rw [hsz2]; exact Nat.le_succ _
      · have e' : b = (s.heap.push { cls := .type "tuple", data := .seq (ys.map fun (k : Nat) => rawInt (k : Int)).toArray }).objs.size ∨ b = a ∨ b = s.heap.objs.size ∨ b = x1 := by simpa using hb'
        rcases e' with z | z | z | z
        · exact .inr (.inr (by rw [z, hsz2]; exact Nat.le_succ _))
        · exact .inl z
        · exact .inr (.inr (Nat.le_of_eq z.symm))
        · exact .inr (.inl z)
      · rw [List.getElem?_map]
        cases hy : ys[j]? with
        | none => rw [hy] at q; cases q
        | some k =>
          rw [hy] at q
          have q' : (es[k]?).map (·.2) = some v := q
          show some (((es[k]?).map (·.2)).getD Value.none) = some v
          rw [q'] <;> rfl
end
section
variable {P : Program} {w : World} {A : Around} {E : Value → Shared → Prop} {s : Shared} {a x1 : Addr} {es : Array (Int × Value)} {ep : Nat} {t : SetTable}
theorem collect_setH {Q : List Value → Shared → Prop} (hh : A.handled = some (.ref x1)) (hot : HotObj x1 s.heap) (ha : SetAt s.heap a es ep t) (hf : t.fits es.size = true) (hsz : es.size < scanBound) (r : Ris t.place.toList)
    (hl : w.params.followText "set-order" = true ∨ t.led = true)
    (hQ : ∀ s' out, (∀ b o, s.heap.get? b = some o → s'.heap.get? b = some o) → s.heap.objs.size ≤ s'.heap.objs.size → s'.gens = s.gens → s'.os = s.os → out.Perm (es.toList.map (·.2)) → Q out s') :
    wpAny (model P w) A (collect (.ref a)) Q E s := by
  obtain ⟨o, ho, hc, hd⟩ := id ha
  have hlt : a < s.heap.objs.size := Heap.lt_size ho
  have hx : x1 < s.heap.objs.size := by obtain ⟨_, _, e, _⟩ := hot; exact Heap.lt_size e
  have hSa : s.heap.objs.size ≠ a := Nat.ne_of_gt hlt
  unfold collect
  refine wpAny_bind (wpAny_runValue (codeAny_builtin F.entry_proto_collect ?_))
  rw [Around.under_plainId F.plain_proto_collect _]
  show wpAny _ A.in1 (newList [] >>= fun l => again (.builtin "list.__iadd__" ⟨[l, .ref a], []⟩)) _ _ s
  refine wpAny_bind (wpAny_newObj_type ?_)
  refine wpAny_pure ⟨plainId_quiet F.plain_list_iadd _, codeAny_builtin F.entry_list_iadd ?_⟩
  rw [Around.under_plainId F.plain_list_iadd _]
  have hS : (s.heap.push { cls := .type "list", data := .seq ([] : List Value).toArray }).get? s.heap.objs.size = some { cls := .type "list", data := .seq ([] : List Value).toArray } := Heap.get?_push_size _ rfl
  have ha1 : SetAt (s.heap.push { cls := .type "list", data := .seq ([] : List Value).toArray }) a es ep t := ha.at fun u e => Heap.get?_push_of_some _ e
  have hz1 : (s.heap.push { cls := .type "list", data := .seq ([] : List Value).toArray }).objs.size = s.heap.objs.size + 1 := size_push' _ _
  show wpAny _ A.in1 (Builtin.List.listExtendWith (.ref s.heap.objs.size) (.ref a) (.ref s.heap.objs.size)) _ _ _
  unfold Builtin.List.listExtendWith
  refine wpAny_bind (wpAny_typeOf (T := "set") ⟨o, Heap.get?_push_of_some _ ho, hc⟩ ?_)
  have h1 : Builtin.List.listSameRef (.ref s.heap.objs.size) (.ref a) = false := by simp [Builtin.List.listSameRef, hSa]
  have h2 : (Value.type "set" == Value.type "list") = false := by decide
  have h3 : (Value.type "set" == Value.type "tuple") = false := by decide
  simp only [h1, h2, h3, Bool.or_false, Bool.false_eq_true, if_false]
  refine wpAny_bind (iter_setH (s := { s with heap := s.heap.push { cls := .type "list", data := .seq ([] : List Value).toArray } }) (hot.at_ fun u e => Heap.get?_push_of_some _ e) ha1 hf hsz r hl fun s₂ I hit => ?_)
  obtain ⟨fp, St, out, Pv, k2, g2, o2, t2, hI, hfp, hp, hW, hPv, hst⟩ := hit
  have hI' : s.heap.objs.size + 1 ≤ I := by rw [← hz1]; exact hI
  have hSf : s.heap.objs.size ∉ fp := fun hm => by
    rcases hfp _ hm with z | z | z
    · exact hSa z
    · rw [← z] at hx; exact Nat.lt_irrefl _ hx
    · have z' : s.heap.objs.size + 1 ≤ s.heap.objs.size := by rw [← hz1]; exact z
      omega
  have ho2 := k2 a o (Heap.get?_push_of_some _ ho)
  have hT2 : s₂.TypeIs (.ref a) "set" := ⟨o, ho2, hc⟩
  refine wpAny_bind (wpAny_holding ?_)
  unfold Builtin.List.listLengthHint
  refine wpAny_bind (wpAny_specialOf hT2 F.slot_set_len.lookup ?_)
  (generalize hid : ("set.__len__" : String) = id0; (fail_if_success (clear hid id0)); wp_delta; rw [show splitId id0 = some ("set", "__len__") from by subst hid; decide +kernel]; subst hid)
  refine wpAny_bind (wpAny_isInstance (b := true) hT2 sub_set_self ?_)
  show wpAny _ A.in1 (typeOf (.ref a) >>= _) _ _ _
  refine wpAny_bind (wpAny_typeOf hT2 ?_)
  refine wpAny_pure ?_
  show wpAny _ A.in1 (rule "list.extend.makes-room" >>= fun _ => Builtin.List.listTouch (.ref s.heap.objs.size) >>= fun _ =>
    again (.builtin "list.extend.loop" ⟨[.ref s.heap.objs.size, .ref I, .ref s.heap.objs.size], []⟩)) _ _ _
  refine wpAny_bind (wpAny_rule ?_)
  have hS2 := k2 _ _ hS
  refine wpAny_bind ?_
  show wpAny _ A.in1 (updateSeq s.heap.objs.size (·.push .none) >>= fun _ => updateSeq s.heap.objs.size (·.pop)) _ _ _
  refine wpAny_bind (wpAny_updateSeq hS2 rfl ?_)
  have hS3 := Heap.get?_update_self (Obj.mapSeq (·.push Value.none)) hS2 rfl
  refine wpAny_updateSeq hS3 rfl ?_
  have hS4 := Heap.get?_update_self (Obj.mapSeq (·.pop)) hS3 rfl
  have oth : ∀ b u, b ≠ s.heap.objs.size → s₂.heap.get? b = some u → ((s₂.heap.update s.heap.objs.size (Obj.mapSeq (·.push Value.none))).update s.heap.objs.size (Obj.mapSeq (·.pop))).get? b = some u :=
    fun b u hb e => (Heap.get?_update_other _ _ (Ne.symm hb)).trans ((Heap.get?_update_other _ _ (Ne.symm hb)).trans e)
  have hn : out.length ≤ sizeLine := by
    rw [hp.length_eq, List.length_map, Array.length_toList]
    exact fits_of_scanBound hsz
  have W := hW A.in1 hh
  have hst2 : St 0 ((s₂.heap.update s.heap.objs.size (Obj.mapSeq (·.push Value.none))).update s.heap.objs.size (Obj.mapSeq (·.pop))) :=
    W.frame 0 _ _ hst fun b hb u e => oth b u (fun z => hSf (z ▸ hb)) e
  refine wpAny_pure ⟨plainId_quiet F.plain_extend_loop _, codeAny_extend_loopS W.toS hn _ hSf _ out.length 0 _ _ _ rfl (Nat.zero_le _) hst2 hS4 (ItemsOf.nil Pv) fun s' acc' c' hm hS' hacc => ?_⟩
  show wpAny _ A (load s.heap.objs.size >>= _) _ _ s'
  refine wpAny_bind (wpAny_load hS' ?_)
  have eo := items_out hacc hPv
  refine wpAny_pure ?_
  show Q acc'.toList s'
  rw [eo]
  refine hQ s' out (fun b u e => ?_) (Nat.le_of_lt (Heap.lt_size hS')) (Eq.trans hm.gens g2) (Eq.trans hm.os o2) hp
  have hbl : b < s.heap.objs.size := Heap.lt_size e
  refine hm.heap b u (fun z => ?_) (oth b u (Nat.ne_of_lt hbl) (k2 b u (Heap.get?_push_of_some _ e)))
  have e' : b = s.heap.objs.size ∨ b = I := by simpa using z
  rcases e' with z | z
  · exact absurd hbl (by rw [z]; exact Nat.lt_irrefl _)
  · exact absurd hbl (by rw [z]; exact Nat.not_lt_of_le (Nat.le_of_succ_le hI'))
theorem sorted_setH {S : Int → Bool} {n : Nat} {Q : Value → Shared → Prop} (R : SetR w s.heap a S n) (hh : A.handled = some (.ref x1)) (hot : HotObj x1 s.heap) (h64 : n < 64)
    (hQ : ∀ s' p (out : Array Value) (c : Nat) (ns : List Int), (∀ b o, s.heap.get? b = some o → s'.heap.get? b = some o) → s'.gens = s.gens → s'.os = s.os → s.heap.objs.size ≤ p →
      s'.heap.get? p = some (seqObj "list" out c) → IntsAre out.toList ns → ns.Pairwise (· < ·) → (∀ k, k ∈ ns ↔ S k = true) → ns.length = n → Q (.ref p) s') :
    wpAny (model P w) A (call (.builtin "sorted") [.ref a]) Q E s := by
  obtain ⟨o, es, ep, t, ho, hex, hd, g, nd, hm, hb, hf, hn, hr, hl⟩ := R
  refine Calls.call_function_entry kind_sorted plain_sorted entry_sorted (args_sorted1 _) ?_
  unfold Builtin.«sorted»
  refine wpAny_bind (m := checkCount "sorted" 1 1 _) (wpAny_pure ?_)
  refine wpAny_bind (collect_setH (A := A.in1) hh hot ⟨o, ho, hex.1, hd⟩ hf hb hr hl fun s1 vs k1 hz g1 o1 pm => ?_)
  have hvl : vs.length = n := by rw [pm.length_eq, List.length_map, Array.length_toList]; exact hn
  have hI : IntsAre vs (vs.map Builtin.Re.reRawOf) := ints_of vs fun v hv => by
    obtain ⟨e, he, q⟩ := List.mem_map.mp (pm.mem_iff.mp hv)
    obtain ⟨k, tk, h1, _⟩ := g e he
    exact ⟨k, tk, by rw [← q]; exact h1⟩
  have pk : (vs.map Builtin.Re.reRawOf).Perm (es.toList.map keyOf) := by
    have q := pm.map Builtin.Re.reRawOf
    rw [List.map_map] at q
    exact q
  refine wpAny_bind (wpAny_newList ?_ (by rw [hvl, sizeLine_eq]; omega))
  have hoL : (s1.heap.push (seqObj "list" vs.toArray 0)).get? s1.heap.objs.size = some (seqObj "list" vs.toArray 0) := Heap.get?_push_size _ rfl
  refine wpAny_bind (wpAny_holding (wpAny_call_entry slot_list_sort ⟨_, hoL, rfl⟩ entry_list_sort (list_sort_tree hoL hI (by rw [hvl]; exact h64) fun out ns' a1 a2 a3 => ⟨_, rfl, ?_⟩) (args_list_sort _)))
  obtain ⟨c, hc⟩ := sortedHeap_at (vs := vs) (out := out) hoL
  have pn : ns'.Perm (es.toList.map keyOf) := a2.trans pk
  refine wpAny_pure ⟨_, rfl, hQ _ s1.heap.objs.size out c ns' (fun b u e => ?_) g1 o1 hz hc a1 (lt_of_le_nodup ns' a3 (pn.nodup_iff.mpr nd)) (fun k => by rw [pn.mem_iff, ← hm k]) ?_⟩
  · have q := k1 b u e
    have hlt := Heap.lt_size q
    show (sortedHeap (s1.heap.push (seqObj "list" vs.toArray 0)) s1.heap.objs.size vs out).get? b = some u
    rw [sortedHeap_old (Nat.ne_of_lt hlt) (by rw [size_push']; exact Nat.lt_succ_of_lt hlt)]
    exact Heap.get?_push_of_some _ q
  · rw [pn.length_eq, List.length_map, Array.length_toList]; exact hn
end
end DL
/-! DLx: set(list), sorted(set) in a context that bears a handled exception. -/
namespace DL
open PySem PySem.Spec PyProof.Rows L2 HotX L2H
section
variable {P : Program} {w : World} {A : Around} {E : Value → Shared → Prop} {s : Shared} {x1 : Addr}
theorem set_ofLH {l : Addr} {items : Array Value} (ns : List Int) {Q : Value → Shared → Prop} (hh : A.handled = some (.ref x1)) (hot : HotObj x1 s.heap) (hl : s.heap.IsList l items) (hit : IntsAre items.toList ns) (hb : ns.length + 1 < scanBound)
    (h : ∀ (h' : Heap) (tk c : Nat), SetR w h' s.heap.objs.size (fun j => decide (j ∈ ns)) c → c ≤ ns.length → (∀ b o, s.heap.get? b = some o → h'.get? b = some o) → Q (.ref s.heap.objs.size) { s with heap := h', toks := tk }) :
    wpAny (model P w) A (call (.type "set") [.ref l]) Q E s := by
  have hlS : l < s.heap.objs.size := by obtain ⟨_, e, _⟩ := hl; exact Heap.lt_size e
  have hx : x1 < s.heap.objs.size := by obtain ⟨_, _, e, _⟩ := hot; exact Heap.lt_size e
  refine set_ofW ns (fun I hI hg => walks_listH (A := A.in1.in1.in1) (show A.in1.in1.in1.handled = some (.ref x1) from hh) (Nat.ne_of_lt (Nat.lt_trans hx hg)) hI items) (fun I hI hm => ?_) (fun I h' h1 h2 k => ⟨h1, h2, hot.at_ fun o e => k x1 o e⟩) hl hit hb h
  have e' : s.heap.objs.size = I ∨ s.heap.objs.size = l ∨ s.heap.objs.size = x1 := by simpa using hm
  rcases e' with z | z | z
  · rw [z] at hI; exact Nat.lt_irrefl _ hI
  · rw [← z] at hlS; exact Nat.lt_irrefl _ hlS
  · rw [← z] at hx; exact Nat.lt_irrefl _ hx
end
section
variable {X : Cx}
theorem HotC.obj {pins : List (Addr × Obj)} {σ : L2.St} {H : Hp} {s : Shared} (c : HotC X) (I : Inv X pins σ H s) : ∃ x1, X.A.handled = some (.ref x1) ∧ HotObj x1 s.heap := let ⟨x1, h1, h2⟩ := c.at I; ⟨x1, h1, h2⟩
theorem cr_setOfLH (hc : HotC X) : CallR X (.type "set") (rSetOfL X.K X.w) := by
  intro pins s σ H xs us Q I r h
  obtain ⟨l, ns, rfl, hl, hz, q⟩ := h
  obtain ⟨x1, h1, h2⟩ := HotC.obj hc I
  rw [Vals.ref1 r]
  obtain ⟨its, rv, pl, _⟩ := I.list hl
  refine set_ofLH ns h1 h2 pl.isList (rv.ints) (by show ns.length + 1 < 4096; omega) fun h' tk c hS hcl hk => ?_
  exact ⟨.ref _, upd H s.heap.objs.size (SetO X.w s.heap.objs.size (fun j => decide (j ∈ ns)) c), I.laid (t' := tk) hk (Nat.le_refl _) (setO_new hS), rfl, q _ c (I.hok.fresh (Nat.le_refl _)) hcl⟩
theorem cr_sortedSetH (hc : HotC X) : CallR X (.builtin "sorted") (rSortedSet X.w) := by
  intro pins s σ H vs us Q I r h
  obtain ⟨a, S, n, rfl, ha, h64, q⟩ := h
  obtain ⟨x1, h1, h2⟩ := HotC.obj hc I
  have R := setO_get I ha
  rw [Vals.ref1 r]
  refine sorted_setH R h1 h2 h64 fun s' p out c ns k g o hp hg hi hs hm hl => ?_
  have hlen : (ns.map V.int).length ≤ sizeLine := by rw [List.length_map, hl, sizeLine_eq]; omega
  have hn : H p = none := I.hok.fresh hp
  have J : Inv X pins σ (upd H p (.lst (ns.map V.int))) { s with heap := s'.heap, gens := s'.gens, drawn := s'.drawn, toks := s'.toks } :=
    I.call (ch := []) (Un.laid k hp hn) (I.hok.laid k hp ⟨hlen, out.toList, c, vals_of_ints hi, hg⟩) (by rw [g]; exact I.bare) (fun _ z => nomatch z)
  have e : s' = { s with heap := s'.heap, gens := s'.gens, drawn := s'.drawn, toks := s'.toks } := by
    cases s'
    cases s
    cases o
    rfl
  rw [e]
  exact ⟨.ref p, _, J, rfl, q ns p hs hm hl hn⟩
end
end DL
/-! DLy: list comprehensions over range and tuples in a context that bears a handled exception; defs called there. -/
namespace DL
open PySem PySem.Spec PyProof.Rows L2 HotX L2H
section
variable {prog : Program} {w : World} {A : Around} {E : Value → Shared → Prop} {s : Shared}
theorem next_tuple_end_hot {it l x1 : Addr} {i : Nat} {items : Array Value} {Q : Option Value → Shared → Prop} (hot : HotAt A x1 s.heap) (hxi : x1 ≠ it) (hit : s.heap.IsTupleIter it l i) (hl : s.heap.IsTuple l items) (hx : items[i]? = none)
    (hQ : ∀ h', Heap.ExtBut it s.heap h' → Q none { s with heap := h' }) : wpAny (model prog w) A (pyNext (.ref it)) Q E s := by
  obtain ⟨o, ho, hc, hd⟩ := id hit
  obtain ⟨ol, hol, _, nl, hdl⟩ := hl
  obtain ⟨hh, o1, vs1, h1, d1, c1⟩ := hot
  unfold pyNext
  refine wpAny_bind (wpAny_attempt (wpAny_callSpecial?_slot (name := Str.ofString "__next__") hit.typeIs F.slot_tuple_iterator_next
    (wpAny_call_entry F.slot_tuple_iterator_next hit.typeIs F.entry_tuple_iterator_next ?_ (F.args_tuple_iterator_next_1 _))))
  show wpAny _ _ (field (.ref it) 0 >>= _) _ _ s
  refine wpAny_bind (wpAny_field ho hd (x := .ref l) rfl ?_)
  show wpAny _ _ (if (Value.ref l == Value.none) = true then _ else _) _ _ s
  rw [if_neg (show ¬ ((Value.ref l == Value.none) = true) from Bool.false_ne_true)]
  show wpAny _ _ (field (.ref it) 1 >>= _) _ _ s
  refine wpAny_bind (wpAny_field ho hd (x := .int i 0) rfl ?_)
  show wpAny _ _ (seqItems? (.ref l) >>= _) _ _ s
  refine wpAny_bind (wpAny_seqItems hol hdl ?_)
  simp only [Int.toNat_natCast, hx]
  refine wpAny_bind (wpAny_rule (wpAny_bind (wpAny_setField ho hd (by simp) ?_)))
  show wpAny _ _ (newExc (.type "StopIteration") [] >>= _) _ _ _
  refine wpAny_bind ?_
  simp only [newExc, newTuple]
  refine wpAny_bind (wpAny_newObj_type ?_ (by size_fits))
  refine wpAny_bind (m := firstArgMember _ _) (wpAny_of_eq (a := Value.none) (by first | rfl | (simp only [firstArgMember]; rfl)) ?_)
  refine wpAny_newObj_type ?_ (by size_fits)
  have k1 := (Heap.get?_update_other s.heap (Obj.mapFields (·.setIfInBounds 0 Value.none)) (Ne.symm hxi)).trans h1
  refine raiseNew_hot ⟨hh, o1, vs1, Heap.get?_push_of_some _ (Heap.get?_push_of_some _ k1), d1, c1⟩ (Nat.ne_of_lt (Heap.lt_size (Heap.get?_push_of_some _ k1))) (Heap.get?_push_size _ rfl) rfl (by first | (simp; done) | (simp; omega)) ?_
  refine wpAny_bind (wpAny_isInstance (T := "StopIteration") (b := true) ⟨_, Heap.get?_update_self _ (Heap.get?_push_size _ rfl) rfl, rfl⟩ isSubtype_stop ?_)
  refine wpAny_pure (hQ _ fun b ob hb e => ?_)
  have kb := (Heap.get?_update_other s.heap (Obj.mapFields (·.setIfInBounds 0 Value.none)) (Ne.symm hb)).trans e
  rw [Heap.get?_update_other _ _ (Nat.ne_of_gt (Heap.lt_size (Heap.get?_push_of_some _ kb)))]
  exact Heap.get?_push_of_some _ (Heap.get?_push_of_some _ kb)
theorem turn_tupleH {P : Program} {w : World} {K : PySem.W.Frag} {tg : Expr} (a it : Addr) : TurnH P w K tg (Itt K a) [it] it (fun i h => h.IsTupleIter it a i) where
  mem := by simp
  obj := fun i h st b hb => by
    have e : b = it := by simpa using hb
    subst e
    obtain ⟨o, e, c, d⟩ := st
    exact ⟨o, e, fun v z => by rw [d] at z; cases z⟩
  keep := fun i h h' st k => st.at fun o e => k it (by simp) o e
  item := by
    intro X hP hw hK hc i pins s σ H E I hf st hg
    subst hP hw hK
    obtain ⟨xs, x, hq, hx⟩ := hg
    obtain ⟨its, rv, p, hz⟩ := I.tuple hq
    obtain ⟨u, hu, ru⟩ := rv.get hx
    obtain ⟨f0, f1, f2, f3, f4, f5⟩ := hf it (by simp)
    refine wpAny_pyNext_tuple_item st (show s.heap.IsTuple a its.toArray from p) (x := u) (by simpa using hu) fun h' st' sb => ?_
    have I1 : Inv X pins σ H { s with heap := h' } := I.turned (t' := s.toks) (fun b o hb e => (sb.2 b hb).trans e) f0 f1 f3 f4 f5
    obtain ⟨o, e, c, d⟩ := id st'
    exact ⟨u, rfl, go_of (s := { s with heap := h' }) e c d (by decide) ⟨x, H, I1, ru, ⟨rfl, fun ys hy => by rw [I.tuple_inj hy hq]; exact hx⟩, st', fun b hb => (hf b hb).1⟩⟩
  done := by
    intro X hP hw hK hc i pins s σ H E I hf st hg
    subst hP hw hK
    obtain ⟨xs, hq, hx⟩ := hg
    obtain ⟨its, rv, p, hz⟩ := I.tuple hq
    obtain ⟨f0, f1, f2, f3, f4, f5⟩ := hf it (by simp)
    obtain ⟨pp, ⟨hh, v1, e1, c1⟩, hp⟩ := hc
    have P1 := I.pin pp (List.mem_append_left _ hp)
    have hl := rv.length
    have ne : pp.1 ≠ it := f5 pp (List.mem_append_left _ hp)
    exact next_tuple_end_hot ⟨hh, pp.2, v1, P1.1, e1, c1⟩ ne st (show s.heap.IsTuple a its.toArray from p) (by simp; omega) fun h' eb => ⟨rfl, I.turned (t' := s.toks) (fun b o hb e => eb b o hb e) f0 f1 f3 f4 f5⟩
  self := fun _ _ _ _ _ st h => wpAny_pyIter_tupleiter st h
end
section
variable {X : Cx}
theorem pi_tupH {tg l : Expr} {tl : TE} (hl : PE X l tl) : PIH X tg l (iTup X.K tl) := by
  refine ⟨fun pins s σ H R I h => ?_⟩
  refine thn (hl.run pins s σ H _ I h) fun v s1 ⟨x, H1, I1, r1, q1⟩ => ?_
  obtain ⟨a, e, ⟨xs, hq⟩, q⟩ := q1
  subst e
  cases r1
  obtain ⟨its, rv, p, hz⟩ := I1.tuple hq
  refine wpAny_pyIter_tuple (show s1.heap.IsTuple a its.toArray from p) ?_
  refine ⟨s1.heap.objs.size, [s1.heap.objs.size], _, _, H1, rfl, I1.kept (t' := s1.toks) fun b o e => Heap.get?_push_of_some _ e, turn_tupleH a _, ⟨_, Heap.get?_push_size _ rfl, rfl, rfl⟩, fun b hb => ?_, q⟩
  have e : b = s1.heap.objs.size := by simpa using hb
  subst e
  exact I1.fpOk (Nat.le_refl _) (I1.hok.fresh (Nat.le_refl _))
/-- the block's context, the handled exception's object kept -/
abbrev blkH (X : Cx) (s : Shared) (H : Hp) (scope : Scope) (cenv : Env) (fp : List Addr) (p : Addr × Obj) : Cx := { X.blk s H scope cenv fp with pn := [p] }
theorem hot_blk {s : Shared} {H : Hp} {scope : Scope} {cenv : Env} {fp : List Addr} {p : Addr × Obj} (h : Hot1 X.A p) : HotC (blkH X s H scope cenv fp p) := ⟨p, h, List.mem_cons_self⟩
theorem inv_pn {p : Addr × Obj} {σ : L2.St} {s0 s : Shared} {H0 H : Hp} {scope : Scope} {cenv : Env} {fp : List Addr} (I : Inv (X.blk s0 H0 scope cenv fp) [] σ H s) (h1 : s.heap.get? p.1 = some p.2) (h2 : H p.1 = none) (h3 : p.1 ≠ cenv.locals) (h4 : p.1 ∉ frs X.stack) (h5 : ∀ v, p.2.data ≠ .cell v) : Inv (blkH X s0 H0 scope cenv fp p) [] σ H s where
  ok := { mod := I.ok.mod, kind := I.ok.kind, glob := I.ok.glob, blt := I.ok.blt, above := I.ok.above, inj := I.ok.inj, has := I.ok.has, cab := I.ok.cab, hd := I.ok.hd, frames := I.ok.frames, stk := I.ok.stk, exf := I.ok.exf, bs := I.ok.bs, bsz := I.ok.bsz, noex := I.ok.noex, exfs := I.ok.exfs, funs := I.ok.funs, frf := I.ok.frf }
  os := I.os
  bare := I.bare
  base := I.base
  loc := I.loc
  cell := I.cell
  free := I.free
  freeC := I.freeC
  pin := fun q hq => by
    have eq : q = p := by simpa using hq
    subst eq
    exact ⟨h1, h2, h3, h4, h5⟩
  hok := I.hok
  len := I.len
/-- one loop of a clause, while an exception is handled -/
theorem clause_runH {Y : Cx} {e tg iter : Expr} {ifs : List Expr} {k : Nat} {leaf : Addr → Env → Sem PySem.Fin → Sem PySem.Fin} (c : Clause e k tg iter ifs leaf) (hc : HotC Y) (hxe : Y.xe = fun _ _ => False) {g : TG} {tt : TT} {Lf : LfR} {vs : List Nat} {pins : List (Addr × Obj)} {σ : L2.St} {H : Hp} {s : Shared} {it D : Addr} {fp : List Addr} {tn : Nat → Heap → Prop} {J : It} {R : Result → Shared → Prop}
    (pg : PG Y tg g) (pt : PTs Y ifs tt) (hl : LeafOk Y leaf vs Lf) (T : TurnH Y.prog Y.w Y.K tg J fp it tn) (I : Inv Y pins (wipe σ vs) H s) (st : tn 0 s.heap) (hst : ∀ (H' : Hp) (s' : Shared), Inv Y pins (wipe σ vs) H' s' → (∀ b ∈ fp, H' b = none) → ∀ b ∈ fp, FpOk Y pins H' b) (hn : ∀ b ∈ fp, H b = none)
    (Nx : Hp → Prop) (W : Nat → Nat → Hp → Prop) (m0 : Nat) (w0 : W 0 m0 H)
    (turn : ∀ i m H, W i m H → (J.stop i H ∧ Nx H) ∨ (J.go i H ∧ ∃ Nx1 : Hp → Prop, (∀ H', Nx1 H' → ∃ m', m' < m ∧ W (i + 1) m' H') ∧ ∀ x H', J.yld i H x H' → g x (wipe σ vs) H' fun σ2 H2 => wipe σ2 vs = wipe σ vs ∧ tt σ2 H2 fun b H3 => if b = true then Lf σ2 D H3 Nx1 else Nx1 H3))
    (fin : ∀ (H' : Hp) (s' : Shared), Inv Y pins (wipe σ vs) H' s' → Nx H' → R (.ok .next) s') :
    codeAny (model Y.prog Y.w) Y.A (.compStart e k (.ref it) (.ref D) Y.env) R s := by
  have loop : codeAny (model Y.prog Y.w) Y.A (.compLoop e k (.ref it) (.ref D) Y.env) R s := by
    refine clause_loop c (fun n s' => ∃ i H', Inv Y pins (wipe σ vs) H' s' ∧ tn i s'.heap ∧ (∀ b ∈ fp, H' b = none) ∧ W i n H') ?_ m0 ⟨0, H, I, st, hn, w0⟩
    rintro n s5 ⟨i, H5, I5, st5, n5, w5⟩
    rcases turn i n H5 w5 with ⟨stop, qq⟩ | ⟨go, Nx1, hNx, step⟩
    · refine thnF (T.done Y rfl rfl rfl hc i pins s5 _ H5 (fun _ _ => False) I5 (hst _ _ I5 n5) st5 stop) fun r s6 ⟨hr, I6⟩ => ?_
      subst hr
      exact fin H5 s6 I6 qq
    · refine thnF (T.item Y rfl rfl rfl hc i pins s5 _ H5 (fun _ _ => False) I5 (hst _ _ I5 n5) st5 go) fun r s6 ⟨u, hr, h6⟩ => ?_
      subst hr
      refine thnF h6 fun _ s7 ⟨x, H7, I7, r7, y7, st7, n7⟩ => ?_
      have I7' := I7.pinned (hst _ _ I7 n7) (T.obj _ _ st7)
      have pgr := pg.run _ s7 _ H7 x u _ I7' r7 (step x H7 y7)
      rw [hxe] at pgr
      refine thnF pgr fun _ s8 ⟨σ8, H8, I8, hw8, q8⟩ => ?_
      have ptr := pt.run _ s8 σ8 H8 _ I8 q8
      rw [hxe] at ptr
      refine thnF ptr fun b s9 ⟨H9, I9, q9⟩ => ?_
      have back : ∀ {σ9 : L2.St} {s' : Shared} {H' : Hp}, Inv Y (pins ++ pinsAt fp s7.heap) σ9 H' s' → wipe σ9 vs = wipe σ8 vs → Nx1 H' → ∃ m, m < n ∧ ∃ i H', Inv Y pins (wipe σ vs) H' s' ∧ tn i s'.heap ∧ (∀ b ∈ fp, H' b = none) ∧ W i m H' := fun {σ9 s' H'} I' hw nx => by
        obtain ⟨m', hm, w'⟩ := hNx H' nx
        have still : ∀ b ∈ fp, ∀ o, s7.heap.get? b = some o → s'.heap.get? b = some o ∧ H' b = none := fun b hb o eo =>
          let z := I'.pin (b, o) (List.mem_append_right _ (List.mem_append_right _ (mem_pinsAt hb eo)))
          ⟨z.1, z.2.1⟩
        obtain ⟨k1, k2⟩ := wipe_kept (hw.trans hw8)
        refine ⟨m', hm, i + 1, H', I'.unpinned.weak k1 k2, T.keep _ _ _ st7 fun b hb o eo => (still b hb o eo).1, fun b hb => ?_, w'⟩
        obtain ⟨o, eo, _⟩ := T.obj _ _ st7 b hb
        exact (still b hb o eo).2
      cases b with
      | false =>
        simp only [Bool.false_eq_true, if_false] at q9 ⊢
        exact back I9 rfl q9
      | true =>
        simp only [if_true] at q9 ⊢
        exact fun cont Qc hk => hl _ σ8 H9 s9 D Nx1 I9 q9 cont Qc _ fun s10 σ10 H10 I10 hw10 nx => hk s10 (back I10 hw10 nx)
  exact clause_start c loop (T.self Y.A 0 _ _ _ st loop)
/-- e makes a new object by mk, while an exception is handled -/
theorem pe_gcH {e tg iter : Expr} {ifs : List Expr} {scope : Scope} {own : List (PySem.Str × Nat)} {pos' : Pos} {gs : List Comprehension} {mk : Sem Value} {ob : Obj} {o0 : Addr → HO} {leaf : Addr → Env → Sem PySem.Fin → Sem PySem.Fin} {wi : TI} {g : TG} {tt : TT} {Lf : LfR} (c : Clause e 0 tg iter ifs leaf) (hc : HotC X) (hN : X.N.Nodup)
    (hev : eval e X.env = comprehension e scope X.env pos' mk false (eval iter X.env) none)
    (hcl : clausesOf e = ⟨tg, iter, ifs, 0⟩ :: gs)
    (hmk : ∀ (s : Shared) (Q : Value → Shared → Prop), Q (.ref s.heap.objs.size) { s with heap := s.heap.push ob } → wpAny (model X.prog X.w) X.A mk Q X.xe s)
    (hob : ∀ (H : Hp) (h : Heap), sysModules < h.objs.size → ObjOk X.prog X.w (upd H h.objs.size (o0 h.objs.size)) (h.push ob) h.objs.size (o0 h.objs.size))
    (hi : PIH X tg iter wi) (ok : BlkOk X.N X.env.scope scope own)
    (hg : ∀ (s : Shared) (H : Hp) (C : Addr) (cl : List (PySem.Str × Addr)) (fp : List Addr) (p : Addr × Obj), HotC (blkH X s H scope (compEnvC scope cl C X.env) fp p) → PG (blkH X s H scope (compEnvC scope cl C X.env) fp p) tg g) (ht : ∀ (s : Shared) (H : Hp) (C : Addr) (cl : List (PySem.Str × Addr)) (fp : List Addr) (p : Addr × Obj), HotC (blkH X s H scope (compEnvC scope cl C X.env) fp p) → PTs (blkH X s H scope (compEnvC scope cl C X.env) fp p) ifs tt)
    (hl : ∀ (s : Shared) (H : Hp) (C : Addr) (cl : List (PySem.Str × Addr)) (fp : List Addr) (p : Addr × Obj), HotC (blkH X s H scope (compEnvC scope cl C X.env) fp p) → LeafOk (blkH X s H scope (compEnvC scope cl C X.env) fp p) leaf (own.map (·.2)) Lf) (hs : ∀ x, foldedSetIterable iter X.env x = pure x := by intro _; rfl) :
    PE X e (tGc o0 wi g tt Lf (own.map (·.2))) := by
  refine ⟨fun pins s σ H Q I h => ?_⟩
  rw [hev]
  obtain ⟨p, hot, hp⟩ := id hc
  have hfree : ∀ y ∈ scope.names, y.2 = .free → ∃ c, X.env.cells.lookup y.1 = some c := fun y hy e => by
    rcases ok.free y hy e with k | k
    · exact I.ok.has _ (.inl k)
    · exact I.ok.has _ (.inr k)
  refine wpAny_comprehension_free (use := none) hcl hs (closure_ok hfree) ok.kind (fun y hy e => by rw [ok.uniq y hy, e])
    (thn (hi.run pins s σ H _ I h) fun xv s1 hx => thn hx fun itv s2 h2 => ?_)
  obtain ⟨it, fp, tn, J, H2, ee, I2, T, st2, f2, q⟩ := h2
  subst ee
  refine hmk s2 _ (newEnv_comp ?_)
  have hDn : H2 s2.heap.objs.size = none := I2.hok.fresh (Nat.le_refl _)
  obtain ⟨W, ⟨m0, w0⟩, turn⟩ := q _ hDn
  have new := hob H2 s2.heap I2.big
  have keep : ∀ b o, s2.heap.get? b = some o → (s2.heap.push ob).get? b = some o := fun b o eo => Heap.get?_push_of_some _ eo
  have I3 : Inv X pins σ (upd H2 s2.heap.objs.size (o0 s2.heap.objs.size)) { s2 with heap := s2.heap.push ob } := I2.laid (t' := s2.toks) keep (Nat.le_refl _) new
  have fpl : ∀ b ∈ fp, b < s2.heap.objs.size := fun b hb => by
    obtain ⟨o, eo, _⟩ := T.obj _ _ st2 b hb
    exact Heap.lt_size eo
  have f3 : ∀ b ∈ fp, FpOk X pins (upd H2 s2.heap.objs.size (o0 s2.heap.objs.size)) b ∧ b < (s2.heap.push ob).objs.size := fun b hb => by
    have hlt := fpl b hb
    refine ⟨⟨?_, (f2 b hb).2⟩, by rw [Heap.size_push]; exact Nat.lt_succ_of_lt hlt⟩
    rw [upd_ne (Nat.ne_of_lt hlt)]
    exact (f2 b hb).1
  have st3 : tn 0 (s2.heap.push ob) := T.keep _ _ _ st2 fun b _ o eo => keep b o eo
  clear new keep fpl
  generalize s2.heap.objs.size = D at *
  generalize upd H2 D (o0 D) = H3 at *
  generalize hs3 : ({ s2 with heap := s2.heap.push ob } : Shared) = s3 at *
  have e3 : s2.heap.push ob = s3.heap := by rw [← hs3]
  rw [e3] at f3 st3
  have I4 := block_start I3 ok hN f3
  have P3 := I3.pin p (List.mem_append_left _ hp)
  have hot' : HotC (blkH X s3 H3 scope (compEnvC scope (cellsFrom (s3.heap.objs.size + 1) scope.names (cloFrom X.env.cells scope.names [])) s3.heap.objs.size X.env) fp p) := hot_blk hot
  have pg := hg s3 H3 s3.heap.objs.size (cellsFrom (s3.heap.objs.size + 1) scope.names (cloFrom X.env.cells scope.names [])) fp p hot'
  have pt := ht s3 H3 s3.heap.objs.size (cellsFrom (s3.heap.objs.size + 1) scope.names (cloFrom X.env.cells scope.names [])) fp p hot'
  have pl := hl s3 H3 s3.heap.objs.size (cellsFrom (s3.heap.objs.size + 1) scope.names (cloFrom X.env.cells scope.names [])) fp p hot'
  show codeAny _ _ (.compStart e 0 (.ref it) (.ref D) (compEnvC scope (cellsFrom (s3.heap.objs.size + 1) scope.names (cloFrom X.env.cells scope.names [])) s3.heap.objs.size X.env)) (compPost (model X.prog X.w) X.A X.xe none _ (.ref D) s3.heap.objs.size) { s3 with heap := pushCells (s3.heap.push { cls := .type "dict", data := .dict #[] }) scope.names }
  have cL0 : (compEnvC scope (cellsFrom (s3.heap.objs.size + 1) scope.names (cloFrom X.env.cells scope.names [])) s3.heap.objs.size X.env).locals = s3.heap.objs.size := rfl
  have nst : p.1 ∉ frs X.stack := fun hm => (List.mem_cons.mp (I3.stkSub p.1 hm)).elim P3.2.2.1 P3.2.2.2.1
  have I4H := inv_pn (p := p) I4 (pushCells_keeps _ _ _ _ (Heap.get?_push_of_some _ P3.1)) P3.2.1 (by rw [cL0]; exact Nat.ne_of_lt (Heap.lt_size P3.1)) nst P3.2.2.2.2
  clear cL0
  generalize hce : compEnvC scope (cellsFrom (s3.heap.objs.size + 1) scope.names (cloFrom X.env.cells scope.names [])) s3.heap.objs.size X.env = ce at I4 I4H pg pt pl hot' ⊢
  have cL : ce.locals = s3.heap.objs.size := by subst hce; rfl
  have st4 : tn 0 (pushCells (s3.heap.push { cls := .type "dict", data := .dict #[] }) scope.names) := T.keep _ _ _ st3 fun b _ o eo => pushCells_keeps _ _ _ _ (Heap.get?_push_of_some _ eo)
  refine clause_runH (Y := blkH X s3 H3 scope ce fp p) c hot' rfl pg pt pl T I4H st4 (fun H' s' I' hn b hb => ⟨hn b hb, (I'.ok.exf b hb).1, I'.ok.exfs b hb, .inl hb, fun x c eo => (I'.ok.exf b hb).2 x c eo, fun p' hp' => ?_⟩)
    (fun b hb => (f3 b hb).1.1) (fun H' => Q (.ref D) H') W m0 w0 turn fun H' s6 I6 qq => ?_
  · have ep : p' = p := by simpa using hp'
    subst ep
    exact (f3 b hb).1.2.2.2.2.2 p' (List.mem_append_left _ hp)
  have I7 : Inv X pins σ H' s6 := I3.call' (ch := fp) I6.os I6.base I6.hok I6.bare fun b hb => ⟨(f3 b hb).1.2.2.2.1, (f3 b hb).1.2.1, (f3 b hb).1.2.2.2.2.1, (f3 b hb).1.2.2.2.2.2⟩
  have nC : H' s3.heap.objs.size = none := by
    have z : H' ce.locals = none := I6.free
    rw [cL] at z
    exact z
  obtain ⟨m, hn, _⟩ := I6.loc
  have hn : s6.heap.Ns ce.locals m := hn
  rw [cL] at hn
  obtain ⟨g0, g1, g2, g3, g4, g5⟩ := I3.fpOk (Nat.le_refl _) nC
  exact ⟨m, hn, fun h'' sb => ⟨.ref D, H', I7.turned (t' := s6.toks) (fun b o hb eo => (sb.2 b hb).trans eo) g0 g1 g3 g4 g5, rfl, qq⟩⟩
/-! ### lists -/
def leafList (elt : Expr) (D : Addr) (env : Env) (cont : Sem PySem.Fin) : Sem PySem.Fin := do
  (do let _ ← call (.builtin "list.append") [.ref D, ← eval elt env])
  cont
def LfLst (te : TE) : LfR := fun σ D H Nx => te σ H fun y H1 => ∃ acc, H1 D = some (.lst acc) ∧ acc.length < sizeLine ∧ Nx (upd H1 D (.lst (acc ++ [y])))
theorem leaf_list {Y : Cx} {elt : Expr} {te : TE} (hxe : Y.xe = fun _ _ => False) (he : PE Y elt te) (vs : List Nat) : LeafOk Y (leafList elt) vs (LfLst te) := by
  intro pins σ H s D Nx I h cont Qc Ec hk
  unfold leafList
  have pr := he.run _ s σ H _ I h
  rw [hxe] at pr
  refine wpAny_bind (wpAny_bind (thnF pr fun u s1 ⟨y, H1, I1, r1, acc, hD, hn, nx⟩ => ?_))
  refine wpAny_bind (app_ok (X := Y) I1 hD hn r1 fun s2 I2 => wpAny_pure (hk s2 σ _ I2 rfl nx))
theorem list_clause (elt tg iter : Expr) (ifs : List Expr) (scope : Scope) (pos : Pos) : Clause (.ListComp elt [⟨tg, iter, ifs, 0⟩] scope pos) 0 tg iter ifs (leafList elt) :=
  ⟨fun _ _ _ => rfl, ⟨_, rfl, rfl, rfl⟩, fun _ _ _ _ => ⟨rfl, rfl⟩, fun _ _ _ _ _ => ⟨rfl, rfl⟩⟩
theorem pe_lcH {elt tg iter : Expr} {ifs : List Expr} {scope : Scope} {own : List (PySem.Str × Nat)} {pos : Pos} {wi : TI} {g : TG} {tt : TT} {te : TE} (hc : HotC X) (hN : X.N.Nodup) (hi : PIH X tg iter wi) (ok : BlkOk X.N X.env.scope scope own)
    (hg : ∀ (s : Shared) (H : Hp) (C : Addr) (cl : List (PySem.Str × Addr)) (fp : List Addr) (p : Addr × Obj), HotC (blkH X s H scope (compEnvC scope cl C X.env) fp p) → PG (blkH X s H scope (compEnvC scope cl C X.env) fp p) tg g) (ht : ∀ (s : Shared) (H : Hp) (C : Addr) (cl : List (PySem.Str × Addr)) (fp : List Addr) (p : Addr × Obj), HotC (blkH X s H scope (compEnvC scope cl C X.env) fp p) → PTs (blkH X s H scope (compEnvC scope cl C X.env) fp p) ifs tt)
    (he : ∀ (s : Shared) (H : Hp) (C : Addr) (cl : List (PySem.Str × Addr)) (fp : List Addr) (p : Addr × Obj), HotC (blkH X s H scope (compEnvC scope cl C X.env) fp p) → PE (blkH X s H scope (compEnvC scope cl C X.env) fp p) elt te) (hs : ∀ x, foldedSetIterable iter X.env x = pure x := by intro _; rfl) :
    PE X (.ListComp elt [⟨tg, iter, ifs, 0⟩] scope pos) (tLc wi g tt te (own.map (·.2))) :=
  pe_gcH (o0 := fun _ => .lst []) (Lf := LfLst te) (list_clause elt tg iter ifs scope pos) hc hN (eval_ListComp _ _ _ _) rfl (fun s Q h => wpAny_newObj_type h (by show 0 ≤ sizeLine; decide)) (fun H h _ => ⟨Nat.zero_le _, [], 0, .nil, Heap.get?_push_size _ rfl⟩) hi ok hg ht
    (fun s H C cl fp p hh => leaf_list (Y := blkH X s H scope (compEnvC scope cl C X.env) fp p) rfl (he s H C cl fp p hh) _) hs
end
end DL
/-! DLz: defs called while an exception is handled, by facts; try: x = f(..) except E as e: return .. -/
namespace DL
open PySem PySem.Spec PyProof.Rows L2 HotX L2H
theorem RoomH.units {k : Nat} {A : Around} (r : L2H.RoomH k A) : A.units + 64 < cLine := by have := r.un; omega
section
variable {P : Program} {w : World} {K : PySem.W.Frag} {mg : Str → Option Value} {base : Heap}
structure HasH (P : Program) (w : World) (K : PySem.W.Frag) (mg : Str → Option Value) (base : Heap) (CX : CXT) (k : Nat) (x : Str) (ps : List Str) (sp : Sp) : Prop where
  ex : ∃ f fd, FnH P w K mg base CX k f fd ps sp ∧ mg x = some (.ref f) ∧ PySem.W.keepIn K (.ref f) = true ∧ Binds K fd ps []
theorem fn_factsH {x qual : Str} {st : Stmt} {f : Addr} {fd : FuncData} {N ps : List Str} {k : Nat} {τ : Type} {args : τ → List Fact} {pre : τ → Prop} {res : τ → Fact → Prop} (F : Fun K x qual st f fd) (S : FnScope N ps (defScope st)) (hm : mg x = some (.ref f))
    (hbd : Binds K fd ps []) (hlen : ∀ t, (args t).length = ps.length)
    (hbody : ∀ (cdv : Value) (A : Around) (outer : List Env) (s : Shared) (H : Hp) (E : XK) (p : Addr × Obj), HotC (cxH CX0 P w K mg base N qual (defScope st) f cdv A outer s H E p) → RoomH k (A.deeper (envOfC qual (defScope st) s.heap.objs.size f cdv)) →
      ∃ t, PSs (cxH CX0 P w K mg base N qual (defScope st) f cdv A outer s H E p) (defBody st) t ∧ ∀ a : τ, pre a → SS K t (startR N (args a)) { nx := fun _ => res a (Is K ()), rt := res a }) :
    HasH P w K mg base CX0 (k + 1) x ps (mkSp args pre res) := by
  obtain ⟨oc, od, kV, doc, pm, an, cdv, ct, osl, rfl, lk, hcd⟩ := F.ex
  refine ⟨⟨f, _, fn_ofH lk hcd S (fun vs H Q E ⟨t, Hf, s, a, _⟩ => ?_) fun A outer s H vs Q E p hot hr ⟨a, Hf, sm, al, hp, q⟩ => ?_, hm, F.kp, hbd⟩⟩
  · rw [← allOk_len a]
    exact hlen t
  · obtain ⟨t, h1, h2⟩ := hbody cdv A outer s H E p ⟨p, hot, List.mem_cons_self⟩ hr
    refine ⟨t, h1, ?_⟩
    have e := env_start (K := K) (N := N) sm al
    refine h2 a hp { nx := fun _ H' => Q .non H', rt := Q } (start N vs) _ Hf H e (fun σ' Hf' H' ρ' s1 e1 z => ?_) (fun v Hf' H' B s1 s2 s3 dj b z => ?_) (fun _ _ _ _ _ _ z => z.elim) (fun _ _ _ _ _ _ z => z.elim)
    · exact q .non Hf' H' (Is K ()) (grow_start sm s1 e1.hf e1.ot e1.dj) Dp.non z
    · exact q v Hf' H' B (grow_start sm s1 s2 s3 dj) b z
end
section
variable {X : Cx} {k : Nat} {ps : List Str} {sp : Sp} {x : Str} {p pos : Pos} {e : Expr} {es : List Expr} {t : TA}
theorem pass0H : ∀ σ : L2.St, PassesAt CX0 X σ E0 := fun _ _ _ _ _ _ _ z => z.elim
/-- f(e, ..) while an exception is handled -/
theorem pcH (h : HasH X.prog X.w X.K X.mg X.base CX0 k x ps sp) (hr : RoomH k X.A) (hc : HotC X) (hg : Gl X x) (ha : PA X (e :: es) t) (hdb : (x == ("__debug__" : Str)) = false := by decide)
    (he : starEach (e :: es) X.env = (false, eval e X.env) :: starEach es X.env := by rfl) (hpl : (backTo pos (starEach es X.env)).any (·.1) = false := by rfl) : PE X (.Call (.Name x p) (e :: es) [] pos) (tCall sp [] E0 t) := by
  obtain ⟨f, fd, F, hm, hk, hb⟩ := h.ex
  have q := pe_callH (q := p) (pos := pos) (E := fun _ => E0) F hr hc hg hm hk hb pass0H ha hdb he hpl
  have e2 : tCall sp [] E0 t = tCallS sp (fun _ => E0) t := by
    funext σ H Q
    show t σ H (fun vs H1 => sp (vs ++ []) H1 Q E0) = t σ H fun vs H1 => sp vs H1 Q E0
    congr 1
    funext vs H1
    rw [List.append_nil]
  rw [e2]
  exact q
theorem hot_suite {X : Cx} {a : Addr} {oe : Obj} {cls : Value} {d : Option Addr} {pn : List (Addr × Obj)} (hz : L2N.Zn cls d oe) (hd : ∃ vs, oe.data = .fields vs) : HotC (X.suite a ((a, oe) :: pn)) := by
  obtain ⟨vs, hd⟩ := hd
  exact ⟨(a, oe), ⟨rfl, vs, hd, hz.2.2 vs hd⟩, List.mem_cons_self⟩
theorem roomSuite {j k : Nat} {A : Around} {a : Addr} (hr : Room k A) (h : j ≤ k) : RoomH j (A.mark (some (.ref a))) := ⟨((roomH_of hr).mono h).dp, ((roomH_of hr).mono h).un⟩
theorem takes0N {X : Cx} : L2N.Takes X (fun _ _ _ _ => False) := fun _ _ x => by
  obtain ⟨_, _, _, _, _, _, _, _, _, _, _, _, _, _, _, _, z⟩ := x
  exact z.elim
theorem passE0 {X : Cx} : Passes (L2N.CX X.prog X.w) X E0 := fun _ _ _ _ _ _ _ ⟨_, _, _, _, _, _, _, _, _, _, _, _, z⟩ => z.elim
/-- a call that may raise, in a try -/
theorem pcS {W : L2.WX} (h : Has X.prog X.w X.K X.mg X.base (L2N.CX X.prog X.w) k x ps sp) (hr : Room k X.A) (hgd : X.A.guards = some []) (hg : Gl X x) (tk : L2N.Takes X W) (ha : PA X (e :: es) t) (hdb : (x == ("__debug__" : Str)) = false := by decide)
    (he : starEach (e :: es) X.env = (false, eval e X.env) :: starEach es X.env := by rfl) (hpl : (backTo pos (starEach es X.env)).any (·.1) = false := by rfl) : PE X (.Call (.Name x p) (e :: es) [] pos) (tCallS sp (WE W) t) := by
  obtain ⟨f, fd, F, hm, hk, hb⟩ := h.ex
  refine ⟨fun pins s σ H Q I hq => wpAny_Call_Name_kw (ld_glob I hg hm ?_ hdb)⟩
  refine PySem.W.callWith_K (h₀ := X.base) I.ok.mod.kin hk (thn (ha.run pos pins s σ H _ I hq) fun us s1 ⟨vs, H1, I1, r, q⟩ => ⟨I1.kIn, ?_⟩) he hpl
  have hl : us.length = ps.length := r.length.symm.trans (F.len _ _ _ _ q)
  have bd := hb s1 us I1.kIn (by rw [List.append_nil]; exact hl)
  rw [List.append_nil] at bd
  refine wpAny_call (codeAny_mono (F.run X.A X.stack s1 H1 ⟨us, []⟩ us vs Q (WE W σ) hr hgd I1.env0 bd r q) fun res s' hq => ?_)
  cases res with
  | error e => exact L2N.passAt tk σ pins H1 s1 e s' I1 hq
  | ok fl =>
    cases fl with
    | ret u => exact I1.after hq
    | next => exact hq.elim
    | brk => exact hq.elim
    | cont => exact hq.elim
end
section
variable {K : PySem.W.Frag} {ρ : Rho} {P : Post}
/-- try: x = f(..) except c as e: a suite that returns -/
theorem ss_try {c cls : Value} {i j : Nat} {ta : TA} {tsu : TS} {Wout : L2.WX} {τ : Type} {args : τ → List Fact} {pre : τ → Prop} {res : τ → Fact → Prop} {exc : τ → Prop} (hx : PySem.W.exmOne K cls c = some true)
    (h : WA K ta ρ fun As => ∃ t : τ, As = args t ∧ pre t ∧ (∀ A, res t A → P.nx (ρ.set j (.fact A))) ∧ (exc t → SS K tsu (ρ.set i .no) { nx := fun _ => False, rt := P.rt })) :
    SS K (fun D σ H => tAsg (tCallS (mkSpE cls args pre res exc) (WE (wAs K c i (fun _ _ _ => tsu) Wout D)) ta) (gName j) D σ H) ρ P := fun D σ Ot Hf H e a b _ _ =>
  h σ Ot Hf H _ e fun vs Hf' H' As g as ⟨t, eq, hp, hn, he⟩ => by
    subst eq
    refine ⟨t, Hf', g.sub, as, hp, fun v Hf2 H2 A g2 a2 z => ?_, fun Hf2 H2 g2 x => ?_⟩
    · exact a _ Hf2 H2 _ (g.f.trans g2.f) (((e.grow g).grow g2).setF a2) (hn A z)
    · refine ⟨true, hx, fun _ y hy => ?_, fun z => by cases z⟩
      exact he x _ (σ.set i (some (.ref y))) Ot Hf2 H2 ((e.grow g).grow g2).setN (fun _ _ _ _ _ _ z => z.elim) (fun v Hf3 H3 A s1 s2 s3 dj az z => b v Hf3 H3 A ((g.f.trans g2.f).trans s1) s2 s3 dj az z) (fun _ _ _ _ _ _ z => z.elim) (fun _ _ _ _ _ _ z => z.elim)
end
end DL
/-! K89s: the law's defs, further. -/
namespace K89
open PySem PySem.Spec PyProof.Rows L2 DL
section
variable {P : Program} {w : World} {K : PySem.W.Frag} {mg : PySem.Str → Option Value} {base : Heap}
local macro_rules | `(tactic| walk_at "dl") => `(tactic| first
  | with_reducible refine ss_ret ?_ | with_reducible refine ss_seq ?_ | with_reducible refine ss_if ?_ | with_reducible refine ss_next ?_ | with_reducible refine ss_retN ?_
  | refine w_var (by rfl) ?_ | with_reducible refine w_lit ?_ | with_reducible refine w_bl ?_ | with_reducible refine w_non ?_ | with_reducible refine w_str ?_ | with_reducible refine w_val ?_
  | with_reducible refine w_op ?_ | with_reducible refine w_cb ?_ | with_reducible refine w_call ?_ | with_reducible refine wa_cons ?_ | with_reducible refine wa_nil ?_
  | with_reducible refine wt_test ?_ | with_reducible refine wt_B ?_ | with_reducible refine wt_not ?_ | with_reducible refine wt_yes ?_ | with_reducible refine wt_and ?_ | with_reducible refine wt_or ?_
  | with_reducible refine w_andV ?_ | with_reducible refine w_orV ?_ | with_reducible refine w_notV ?_ | with_reducible refine w_if ?_ | with_reducible refine w_chain ?_
  | with_reducible refine wo_none ?_ | with_reducible refine wo_some ?_
  | with_reducible refine r_eq ?_ | with_reducible refine r_ne ?_ | with_reducible refine r_lt ?_ | with_reducible refine r_add ?_ | with_reducible refine r_and ?_ | with_reducible refine r_shr ?_ | with_reducible refine r_ltn ?_ | with_reducible refine r_gtn ?_ | with_reducible refine r_len ?_
  | with_reducible refine r_inT ?_ | with_reducible refine r_notInT ?_ | with_reducible refine r_inL ?_
  | with_reducible refine c_lenT ?_ | with_reducible refine c_lenP ?_ | with_reducible refine r_fst ?_ | with_reducible refine r_snd ?_ | with_reducible refine g_name ?_ | with_reducible refine g_pair ?_ | with_reducible refine gs_name ?_ | with_reducible refine gs_nil ?_)
def sp__law_is_ruleT (K : PySem.W.Frag) : Sp := mkSp (fun t : Nat × List Row => [Is K t.1, Is K t.2]) (fun t => (∀ r ∈ t.2, OkRow t.1 r) ∧ t.2.length < 60 ∧ t.1 ≤ 7) fun t A => A = Is K (both t.1 t.2)
theorem r__law_is_ruleT (t : Nat × List Row) (h : (∀ r ∈ t.2, OkRow t.1 r) ∧ t.2.length < 60 ∧ t.1 ≤ 7) :
    SS K (tRet (tOp (rEqD K) (tLc (iRng1 (tCons (tVar 0) tNil)) (gName 2) (tTest (tOp (rNeD K) (tCB (rSortedSet w) (tCons (tCB (rSetOfL K w) (tCons (tLc (iTup K (tVar 1)) (gName 3) tYes (tOp (rIx K) (tVar 3) (tVar 2)) [3]) tNil)) tNil)) (tLst (tCons (tC (.int 0)) (tCons (tC (.int 1)) tNil))))) (tC (.int 1)) [2]) (tLst tNil))) (startR ["size", "rows", "key", "row"] [Is K t.1, Is K t.2]) { nx := fun _ => Is K () = Is K (both t.1 t.2), rt := fun A => A = Is K (both t.1 t.2) } := by
  obtain ⟨n, rows⟩ := t
  obtain ⟨h1, h2, h7⟩ := h
  dsimp only at h1 h2 h7
  repeat walk_at "dl"
  refine w_none (fun k : Nat => !decide (0 ∈ col rows k ∧ 1 ∈ col rows k)) (js := [2]) (by decide) (wx_range ?_)
  repeat walk_at "dl"
  refine ⟨_, n, rfl, Le.refl _, Nat.le_trans h7 (by decide), fun k hk => ?_, ?_⟩
  · have hk' := List.mem_range.mp hk
    repeat walk_at "dl"
    refine w_new (wn_mapT (fun r : Row => r.getD k 0) (js := [3]) (by decide) (wx_tup (α := Row) ?_))
    repeat walk_at "dl"
    refine ⟨rows, Le.refl _, Nat.le_trans (Nat.le_of_lt h2) (by decide), fun r hr => ?_, ?_⟩
    · repeat walk_at "dl"
      exact r_ixT (getD_some (by rw [(h1 r hr).1]; exact hk')) (Le.refl _)
    repeat walk_at "dl"
    refine c_setL (K := K) (ys := col rows k) (le_L _) (by unfold col; rw [List.length_map]; exact h2) ?_
    repeat walk_at "dl"
    refine c_new (K := K) (cn_sortSet (ys := col rows k) (by unfold col; rw [List.length_map]; exact h2) fun zs pw hm => ?_)
    refine w_new (wn_lstL (α := Nat) ?_)
    repeat walk_at "dl"
    refine ⟨[0, 1], ⟨Le.refl _, Le.refl _, trivial⟩, by decide, ?_⟩
    refine R.le (le_L zs) (le_L [0, 1]) (r_neD (shp (PL.mk zs) (by decide)) (shp (PL.mk [0, 1]) (by decide)) ?_)
    refine ⟨_, Le.refl _, ?_⟩
    rw [Bool.eq_iff_iff, Bool.not_eq_true', Bool.not_eq_true', decide_eq_false_iff_not, ← Bool.not_eq_true, (EqvL.eqv (PL.mk zs) (PL.mk [0, 1]))]
    rw [PL.mk.injEq, two_sorted pw hm fun m hm => ?_]
    obtain ⟨r, hr, rfl⟩ := List.mem_map.mp hm
    exact getD_le (h1 r hr).2 k
  · show Is K _ = Is K (both n rows)
    unfold both
    congr 1
    refine congrArg (List.all (List.range n)) (funext fun i => ?_)
    rw [Bool.not_not]
theorem d__law_is_ruleT (T : TF K mg) : Has P w K mg base CX0 1 "_law_is_rule" ["size", "rows"] (sp__law_is_ruleT K) := by
  obtain ⟨f, fd, F, hm, hb⟩ := T.d__law_is_rule
  refine fn_facts F sc__law_is_rule hm hb (fun _ => by first | rfl | (split <;> rfl)) fun cdv A outer s H E hr hgd => ?_
  have S := sc__law_is_rule
  exact ⟨(tRet (tOp (rEqD K) (tLc (iRng1 (tCons (tVar 0) tNil)) (gName 2) (tTest (tOp (rNeD K) (tCB (rSortedSet w) (tCons (tCB (rSetOfL K w) (tCons (tLc (iTup K (tVar 1)) (gName 3) tYes (tOp (rIx K) (tVar 3) (tVar 2)) [3]) tNil)) tNil)) (tLst (tCons (tC (.int 0)) (tCons (tC (.int 1)) tNil))))) (tC (.int 1)) [2]) (tLst tNil))), (pss_one (ps_ret (pe_cmpR (op_eqD hr.units) (pe_lc (own := [("key", 2)]) (g := (gName 2)) (tt := (tTest (tOp (rNeD K) (tCB (rSortedSet w) (tCons (tCB (rSetOfL K w) (tCons (tLc (iTup K (tVar 1)) (gName 3) tYes (tOp (rIx K) (tVar 3) (tVar 2)) [3]) tNil)) tNil)) (tLst (tCons (tC (.int 0)) (tCons (tC (.int 1)) tNil)))))) (te := (tC (.int 1))) (by rfl) S.nd (pi_range1 (by rfl) T.n_range (pa_cons (pv 0) pa_nil)) (blkOk_by (by rfl)) (fun _ _ _ _ _ => (pg_name (i := 2) S.nd rfl (by first | exact Or.inl rfl | exact Or.inr rfl))) (fun _ _ _ _ _ => pts_one (pt_cmpR (op_neD hr.units) (pe_callB (cr_sortedSet (by rfl)) (by rfl) T.n_sorted bt_sorted (pa_cons (pe_callTy (cr_setOfL (by rfl)) (by rfl) T.n_set bt_set (pa_cons (pe_lc (own := [("row", 3)]) (g := (gName 3)) (tt := tYes) (te := (tOp (rIx K) (tVar 3) (tVar 2))) (by rfl) S.nd (pi_tup (pv 1)) (blkOk_by (by rfl)) (fun _ _ _ _ _ => (pg_name (i := 3) S.nd rfl (by first | exact Or.inl rfl | exact Or.inr rfl))) (fun _ _ _ _ _ => pts_nil) (fun _ _ _ _ _ => (pe_ix ix_seq (pv 3) (pv 2) (fun _ _ => rfl)))) pa_nil)) pa_nil)) (pe_lst (pa_cons pe_int (pa_cons pe_int pa_nil))) (nomark _))) (fun _ _ _ _ _ => pe_int)) (pe_lst pa_nil) (nomark _)))), r__law_is_ruleT⟩
open L2H in
theorem h__law_is_ruleT (T : TF K mg) : HasH P w K mg base CX0 1 "_law_is_rule" ["size", "rows"] (sp__law_is_ruleT K) := by
  obtain ⟨f, fd, F, hm, hb⟩ := T.d__law_is_rule
  refine fn_factsH F sc__law_is_rule hm hb (fun _ => by first | rfl | (split <;> rfl)) fun cdv A outer s H E p hc hr => ?_
  have S := sc__law_is_rule
  exact ⟨(tRet (tOp (rEqD K) (tLc (iRng1 (tCons (tVar 0) tNil)) (gName 2) (tTest (tOp (rNeD K) (tCB (rSortedSet w) (tCons (tCB (rSetOfL K w) (tCons (tLc (iTup K (tVar 1)) (gName 3) tYes (tOp (rIx K) (tVar 3) (tVar 2)) [3]) tNil)) tNil)) (tLst (tCons (tC (.int 0)) (tCons (tC (.int 1)) tNil))))) (tC (.int 1)) [2]) (tLst tNil))), (pss_one (ps_ret (pe_cmpR (op_eqD (RoomH.units hr)) (pe_lcH (own := [("key", 2)]) (g := (gName 2)) (tt := (tTest (tOp (rNeD K) (tCB (rSortedSet w) (tCons (tCB (rSetOfL K w) (tCons (tLc (iTup K (tVar 1)) (gName 3) tYes (tOp (rIx K) (tVar 3) (tVar 2)) [3]) tNil)) tNil)) (tLst (tCons (tC (.int 0)) (tCons (tC (.int 1)) tNil)))))) (te := (tC (.int 1))) hc S.nd (pi_range1H (by rfl) T.n_range (pa_cons (pv 0) pa_nil)) (blkOk_by (by rfl)) (fun _ _ _ _ _ _ hh => (pg_name (i := 2) S.nd rfl (by first | exact Or.inl rfl | exact Or.inr rfl))) (fun _ _ _ _ _ _ hh => pts_one (pt_cmpR (op_neD (RoomH.units hr)) (pe_callB (cr_sortedSetH hh) (by rfl) T.n_sorted bt_sorted (pa_cons (pe_callTy (cr_setOfLH hh) (by rfl) T.n_set bt_set (pa_cons (pe_lcH (own := [("row", 3)]) (g := (gName 3)) (tt := tYes) (te := (tOp (rIx K) (tVar 3) (tVar 2))) hh S.nd (pi_tupH (pv 1)) (blkOk_by (by rfl)) (fun _ _ _ _ _ _ hh => (pg_name (i := 3) S.nd rfl (by first | exact Or.inl rfl | exact Or.inr rfl))) (fun _ _ _ _ _ _ hh => pts_nil) (fun _ _ _ _ _ _ hh => (pe_ix ix_seq (pv 3) (pv 2) (fun _ _ => rfl)))) pa_nil)) pa_nil)) (pe_lst (pa_cons pe_int (pa_cons pe_int pa_nil))) (nomark _))) (fun _ _ _ _ _ _ hh => pe_int)) (pe_lst pa_nil) (nomark _)))), r__law_is_ruleT⟩
end
end K89
/-! K89t: the law's defs, further. -/
namespace K89
open PySem PySem.Spec PyProof.Rows L2 DL
section
variable {P : Program} {w : World} {K : PySem.W.Frag} {mg : PySem.Str → Option Value} {base : Heap}
local macro_rules | `(tactic| walk_at "dl") => `(tactic| first
  | with_reducible refine ss_ret ?_ | with_reducible refine ss_seq ?_ | with_reducible refine ss_if ?_ | with_reducible refine ss_next ?_ | with_reducible refine ss_retN ?_
  | refine w_var (by rfl) ?_ | with_reducible refine w_lit ?_ | with_reducible refine w_bl ?_ | with_reducible refine w_non ?_ | with_reducible refine w_str ?_ | with_reducible refine w_val ?_
  | with_reducible refine w_op ?_ | with_reducible refine w_cb ?_ | with_reducible refine w_call ?_ | with_reducible refine wa_cons ?_ | with_reducible refine wa_nil ?_
  | with_reducible refine wt_test ?_ | with_reducible refine wt_B ?_ | with_reducible refine wt_not ?_ | with_reducible refine wt_yes ?_ | with_reducible refine wt_and ?_ | with_reducible refine wt_or ?_
  | with_reducible refine w_andV ?_ | with_reducible refine w_orV ?_ | with_reducible refine w_notV ?_ | with_reducible refine w_if ?_ | with_reducible refine w_chain ?_
  | with_reducible refine wo_none ?_ | with_reducible refine wo_some ?_
  | with_reducible refine r_eq ?_ | with_reducible refine r_ne ?_ | with_reducible refine r_lt ?_ | with_reducible refine r_add ?_ | with_reducible refine r_and ?_ | with_reducible refine r_shr ?_ | with_reducible refine r_ltn ?_ | with_reducible refine r_gtn ?_ | with_reducible refine r_len ?_
  | with_reducible refine r_inT ?_ | with_reducible refine r_notInT ?_ | with_reducible refine r_inL ?_
  | with_reducible refine c_lenT ?_ | with_reducible refine c_lenP ?_ | with_reducible refine r_fst ?_ | with_reducible refine r_snd ?_ | with_reducible refine g_name ?_ | with_reducible refine g_pair ?_ | with_reducible refine gs_name ?_ | with_reducible refine gs_nil ?_)
/-- what the plain law owes -/
structure Plain : Prop where
  sort : ∀ r : Rule, OkRule r → SortOk r
  len : ∀ r : Rule, OkRule r → (patternsM r).length ≤ 2187
  ok : ∀ r : Rule, OkRule r → ∀ q ∈ patternsM r, OkPart r.1 q
  cov : ∀ (n : Nat) (ps : List Part), 1 ≤ n → FitPs n ps → both n (rowsWithout n ps) = true → ∀ p ∈ ps, ∃ q ∈ patternsM (ruleE n ps), isPart q p = true
theorem rw_small {n : Nat} (h : n ≤ 5) (ps : List Part) : (rowsWithout n ps).length ≤ 32 := Nat.le_trans (List.length_filter_le _ _) (rows32 h)
def sp__law_given_right (K : PySem.W.Frag) : Sp := mkSp (fun n : Nat => [isS, Is K n]) (fun n => 1 ≤ n ∧ n ≤ 4) fun _ A => A = Is K true
theorem d__law_given_right {C_InvalidRule : Addr} (T : TF K mg) (PL : Plain) (X_InvalidRule : ExcK K mg "InvalidRule" C_InvalidRule) (hx : PySem.W.exmOne K (.ref C_InvalidRule) (.ref C_InvalidRule) = some true)
    (h__law_draw : Has P w K mg base CX0 1 "_law_draw" ["stream", "total"] (sp__law_draw K)) (h__law_partial : Has P w K mg base CX0 3 "_law_partial" ["stream", "size", "most"] (sp__law_partial K))
    (h__law_without : Has P w K mg base CX0 2 "_law_without" ["size", "partials"] (sp__law_without K)) (h_rule_of_patterns : Has P w K mg base (L2N.CX P w) 7 "rule_of_patterns" ["size", "partials"] (sp_rule_of_patterns K C_InvalidRule))
    (hh__law_is_rule : HasH P w K mg base CX0 1 "_law_is_rule" ["size", "rows"] (sp__law_is_ruleT K)) (h__law_is_rule : Has P w K mg base CX0 1 "_law_is_rule" ["size", "rows"] (sp__law_is_ruleT K))
    (h_patterns : Has P w K mg base CX0 6 "patterns" ["rule"] (sp_patterns K)) (h__law_is_part : Has P w K mg base CX0 1 "_law_is_part" ["partial", "other"] (sp__law_is_part K)) :
    Has P w K mg base CX0 8 "_law_given_right" ["stream", "size"] (sp__law_given_right K) := by
  obtain ⟨f, fd, F, hm, hb⟩ := T.d__law_given_right
  refine fn_facts F sc__law_given_right hm hb (fun _ => by first | rfl | (split <;> rfl)) fun cdv A outer s H E hr hgd => ?_
  have S := sc__law_given_right
  refine ⟨(tSeq (tAsg (tCB (rTupA K) (tCons (tLc (iRng1 (tCons (tOp (rI0 fun i j => .int (i + j)) (tC (.int 1)) (tCall (sp__law_draw K) [] E0 (tCons (tVar 0) (tCons (tC (.int 5)) tNil)))) tNil)) (gName 3) tYes (tCall (sp__law_partial K) [] E0 (tCons (tVar 0) (tCons (tVar 1) (tCons (tC (.int 3)) tNil)))) [3]) tNil)) (gName 2)) (tSeq (tAsg (tCall (sp__law_without K) [] E0 (tCons (tVar 1) (tCons (tVar 2) tNil))) (gName 4)) (tSeq (fun D σ H => tAsg (tCallS (sp_rule_of_patterns K C_InvalidRule) (WE (wAs K (.ref C_InvalidRule) 6 (fun _ _ _ => tRet (tNotV (tCall (sp__law_is_ruleT K) [] E0 (tCons (tVar 1) (tCons (tVar 4) tNil))))) (fun _ _ _ _ => False) D)) (tCons (tVar 1) (tCons (tVar 2) tNil))) (gName 5) D σ H) (tSeq (tIfS (tOr (tTest (tOp (rNeD K) (tVar 5) (tTup (tCons (tVar 1) (tCons (tVar 4) tNil))))) (tNot (tB (tCall (sp__law_is_ruleT K) [] E0 (tCons (tVar 1) (tCons (tVar 4) tNil)))))) (tRet (tC (.bl false))) tNext) (tSeq (tAsg (tCall (sp_patterns K) [] E0 (tCons (tVar 5) tNil)) (gName 7)) (tRet (tOp (rEqD K) (tLc (iTup K (tVar 2)) (gName 8) (tTest (tOp (rEqD K) (tLc (iTup K (tVar 7)) (gName 9) (tB (tCall (sp__law_is_part K) [] E0 (tCons (tVar 9) (tCons (tVar 8) tNil)))) (tC (.int 1)) [9]) (tLst tNil))) (tVar 8) [8]) (tLst tNil)))))))), (pss_cons (ps_set (i := 2) S.nd rfl (by first | exact Or.inl rfl | exact Or.inr rfl) (pe_callTy call_tuple_of (by rfl) T.n_tuple bt_tuple (pa_cons (pe_lc (own := [("turn", 3)]) (g := (gName 3)) (tt := tYes) (te := (tCall (sp__law_partial K) [] E0 (tCons (tVar 0) (tCons (tVar 1) (tCons (tC (.int 3)) tNil))))) (by rfl) S.nd (pi_range1 (by rfl) T.n_range (pa_cons (pe_op op_add pe_int (pc (E := E0) (h__law_draw.mono (by decide)) hr hgd (by rfl) pass0 (pa_cons (pv 0) (pa_cons pe_int pa_nil)))) pa_nil)) (blkOk_by (by rfl)) (fun _ _ _ _ _ => (pg_name (i := 3) S.nd rfl (by first | exact Or.inl rfl | exact Or.inr rfl))) (fun _ _ _ _ _ => pts_nil) (fun _ _ _ _ _ => (pc (E := E0) (h__law_partial.mono (by decide)) hr hgd (by rfl) pass0 (pa_cons (pv 0) (pa_cons (pv 1) (pa_cons pe_int pa_nil)))))) pa_nil))) (pss_cons (ps_set (i := 4) S.nd rfl (by first | exact Or.inl rfl | exact Or.inr rfl) (pc (E := E0) (h__law_without.mono (by decide)) hr hgd (by rfl) pass0 (pa_cons (pv 1) (pa_cons (pv 2) pa_nil)))) (pss_cons (L2N.ps_try_as (i := 6) rfl rfl S.nd rfl rfl ⟨by rfl, by decide, .inl X_InvalidRule.g⟩ takes0N (fun W pn xe tk po => pss_one (ps_set (i := 5) S.nd rfl (Or.inl rfl) (pcS (h_rule_of_patterns.mono (by decide)) hr hgd (by rfl) tk (pa_cons (pv 1) (pa_cons (pv 2) pa_nil))))) (fun a oe cls d pn hz hd => pss_one (ps_ret (pe_not (pcH hh__law_is_rule (roomSuite hr (by decide)) (hot_suite hz hd) (by rfl) (pa_cons (pv 1) (pa_cons (pv 4) pa_nil))))))) (pss_cons (ps_if (PW.pt (pw_or (pt_cmpR (op_neD hr.units) (pv 5) (pe_tup (pa_cons (pv 1) (pa_cons (pv 4) pa_nil))) (nomark _)) (pw_or1 (pt_not (pt_val (pc (E := E0) (h__law_is_rule.mono (by decide)) hr hgd (by rfl) pass0 (pa_cons (pv 1) (pa_cons (pv 4) pa_nil)))))))) (pss_one (ps_ret pe_bl)) pss_nil) (pss_cons (ps_set (i := 7) S.nd rfl (by first | exact Or.inl rfl | exact Or.inr rfl) (pc (E := E0) (h_patterns.mono (by decide)) hr hgd (by rfl) pass0 (pa_cons (pv 5) pa_nil))) (pss_one (ps_ret (pe_cmpR (op_eqD hr.units) (pe_lc (own := [("partial", 8)]) (g := (gName 8)) (tt := (tTest (tOp (rEqD K) (tLc (iTup K (tVar 7)) (gName 9) (tB (tCall (sp__law_is_part K) [] E0 (tCons (tVar 9) (tCons (tVar 8) tNil)))) (tC (.int 1)) [9]) (tLst tNil)))) (te := (tVar 8)) (by rfl) S.nd (pi_tup (pv 2)) (blkOk_by (by rfl)) (fun _ _ _ _ _ => (pg_name (i := 8) S.nd rfl (by first | exact Or.inl rfl | exact Or.inr rfl))) (fun _ _ _ _ _ => pts_one (pt_cmpR (op_eqD hr.units) (pe_lc (own := [("one", 9)]) (g := (gName 9)) (tt := (tB (tCall (sp__law_is_part K) [] E0 (tCons (tVar 9) (tCons (tVar 8) tNil))))) (te := (tC (.int 1))) (by rfl) S.nd (pi_tup (pv 7)) (blkOk_by (by rfl)) (fun _ _ _ _ _ => (pg_name (i := 9) S.nd rfl (by first | exact Or.inl rfl | exact Or.inr rfl))) (fun _ _ _ _ _ => pts_one (pt_val (pc (E := E0) (h__law_is_part.mono (by decide)) hr hgd (by rfl) pass0 (pa_cons (pv 9) (pa_cons (pv 8) pa_nil))))) (fun _ _ _ _ _ => pe_int)) (pe_lst pa_nil) (nomark _))) (fun _ _ _ _ _ => (pv 8))) (pe_lst pa_nil) (nomark _))))))))), ?_⟩
  rintro n ⟨h1, h4⟩
  refine ss_cut (fun ρ' => ∃ ps : List Part, FitPs n ps ∧ ρ' = [.fact isS, .fact (Is K n), .fact (Is K ps), .no, .no, .no, .no, .no, .no, .no]) (ss_set ?_) ?_
  · repeat walk_at "dl"
    refine w_new (wn_rel (α := Nat) (β := Part) (js := [3]) (by decide) (wx_range ?_))
    repeat walk_at "dl"
    refine c_draw (n := 5) ⟨by decide, by decide⟩ fun r hr => ?_
    repeat walk_at "dl"
    refine ⟨_, 1 + r, rfl, Le.refl _, Nat.le_trans (by omega : 1 + r ≤ 100) (by decide), fun pre ys => ys.length = pre.length ∧ ∀ p ∈ ys, OkPart n p, ⟨rfl, fun _ z => by cases z⟩, fun pre x ys hx hp _ iv => ?_, fun ys hl iv => ?_⟩
    · repeat walk_at "dl"
      refine ⟨fun _ => ?_, fun z => by cases z⟩
      repeat walk_at "dl"
      refine c_mk (n, 3) ⟨by show n ≤ 7; omega, by show 3 ≤ 1000; omega⟩ fun A ⟨p, hp, _, e⟩ => ?_
      subst e
      refine ⟨p, Le.refl _, by rw [List.length_append, List.length_append, iv.1]; rfl, fun q hq => ?_⟩
      rcases List.mem_append.mp hq with z | z
      · exact iv.2 q z
      · rw [List.mem_singleton.mp z]; exact hp
    · repeat walk_at "dl"
      refine c_tup le_l ⟨ys, ⟨by omega, iv.2, by rw [iv.1, List.length_range]; omega⟩, rfl⟩
  rintro ρ' ⟨ps, hf, rfl⟩
  refine ss_seq (ss_set ?_)
  repeat walk_at "dl"
  refine c_mk (n, ps) hf fun A e => ?_
  subst e
  dsimp only
  have hok : ∀ r ∈ rowsWithout n ps, OkRow n r := fun r hr => rowsOf_len1 (List.mem_filter.mp hr).1
  have hpre : (∀ r ∈ rowsWithout n ps, OkRow n r) ∧ (rowsWithout n ps).length < 60 ∧ n ≤ 7 := ⟨hok, by have := rw_small (n := n) (by omega) ps; omega, by omega⟩
  refine ss_seq (ss_try hx ?_)
  repeat walk_at "dl"
  refine ⟨(n, ps), rfl, ⟨h1, hf⟩, fun A ⟨hb, e⟩ => ?_, fun hb => ?_⟩
  · subst e
    dsimp only at hb ⊢
    refine ss_seq (ss_if (wt_or (wt_test (w_op (w_var (by rfl) (w_tup2 (α := Nat) (β := List Row) ?_))))))
    repeat walk_at "dl"
    refine ⟨n, rowsWithout n ps, ⟨_, _, rfl, Le.refl _, Le.refl _⟩, ?_⟩
    repeat walk_at "dl"
    refine is_x ⟨fun z => absurd z (by simp [ruleE]), fun _ => ?_⟩
    repeat walk_at "dl"
    refine c_mk (n, rowsWithout n ps) hpre fun A e => ?_
    subst e
    refine ⟨_, Le.refl _, fun z => ?_, fun _ => ?_⟩
    · dsimp only at z
      rw [hb] at z
      cases z
    refine ss_next ?_
    have hr2 : OkRule (ruleE n ps) := ⟨without_pre h1 hf.1, hb⟩
    refine ss_seq (ss_set ?_)
    repeat walk_at "dl"
    refine c_mk (ruleE n ps) ⟨hr2, PL.sort _ hr2⟩ fun A e => ?_
    subst e
    repeat walk_at "dl"
    refine w_new (wn_comp (fun p : Part => (patternsM (ruleE n ps)).all fun q => !isPart q p) (fun p => p) (js := [8]) (by decide) (wx_tup (α := Part) ?_))
    repeat walk_at "dl"
    refine ⟨ps, Le.refl _, Nat.le_trans hf.2.2 (by decide), fun p hp => ?_, ?_⟩
    · repeat walk_at "dl"
      refine w_none (fun q : Part => isPart q p) (js := [9]) (by decide) (wx_tup (α := Part) ?_)
      repeat walk_at "dl"
      refine ⟨patternsM (ruleE n ps), Le.refl _, Nat.le_trans (PL.len _ hr2) (by decide), fun q hq => ?_, ?_⟩
      · repeat walk_at "dl"
        refine c_mk (q, p) (PL.ok _ hr2 q hq).2.2 fun A e => ?_
        subst e
        exact ⟨_, Le.refl _, rfl⟩
      refine ⟨_, Le.refl _, rfl, fun _ => ?_⟩
      repeat walk_at "dl"
      exact Le.refl _
    · refine w_nil (r_isNil (le_L _) ?_)
      show Is K _ = Is K true
      rw [List.map_id']
      congr 1
      rw [List.isEmpty_iff, List.filter_eq_nil_iff]
      intro p hp z
      obtain ⟨q, hq, hqp⟩ := PL.cov n ps h1 hf hb p hp
      have := List.all_eq_true.mp z q hq
      rw [hqp] at this
      cases this
  · repeat walk_at "dl"
    refine c_mk (n, rowsWithout n ps) hpre fun A e => ?_
    subst e
    refine ⟨_, Le.refl _, ?_⟩
    show Is K (!both n (rowsWithout n ps)) = Is K true
    rw [show both n (rowsWithout n ps) = false from hb]
    rfl
end
end K89
/-! M89a: plain: lt is a strict order on data; sorted lists; bits of codes. -/
namespace K89
open DL
/-! ### order -/
class LinLt (α : Type) [Enc α] : Prop where
  irr : ∀ x : α, lt x x = false
  tri : ∀ x y : α, lt x y = true ∨ x = y ∨ lt y x = true
  trans : ∀ x y z : α, lt x y = true → lt y z = true → lt x z = true
theorem lt_pair {α β : Type} [Enc α] [Alk α] [EqvL α] [DecidableEq α] [Enc β] [Alk β] [EqvL β] [DecidableEq β] (x y : α × β) : lt x y = if x.1 = y.1 then lt x.2 y.2 else lt x.1 y.1 := by
  show PySem.W.dataLt (.tuple [Enc.enc x.1, Enc.enc x.2]) (.tuple [Enc.enc y.1, Enc.enc y.2]) = if x.1 = y.1 then PySem.W.dataLt _ _ else PySem.W.dataLt _ _
  rw [PySem.W.dataLt_tuple, PySem.W.dataLt_cons (Alk.alk x.1 y.1), eqv_dec]
  by_cases h : x.1 = y.1
  · rw [if_pos h, if_pos (decide_eq_true h), PySem.W.dataLt_cons (Alk.alk x.2 y.2), eqv_dec]
    by_cases h2 : x.2 = y.2
    · rw [if_pos (decide_eq_true h2), h2, PySem.W.dataLt_self]
      rfl
    · rw [if_neg (by rw [decide_eq_false h2]; exact Bool.false_ne_true)]
  · rw [if_neg h, if_neg (by rw [decide_eq_false h]; exact Bool.false_ne_true)]
instance : LinLt Nat where
  irr := fun x => by rw [lt_nat]; simp
  tri := fun x y => by
    rw [lt_nat, lt_nat, decide_eq_true_iff, decide_eq_true_iff]
    omega
  trans := fun x y z => by
    rw [lt_nat, lt_nat, lt_nat, decide_eq_true_iff, decide_eq_true_iff, decide_eq_true_iff]
    omega
section
variable {α β : Type} [Enc α] [Alk α] [EqvL α] [DecidableEq α] [LinLt α] [Enc β] [Alk β] [EqvL β] [DecidableEq β] [LinLt β]
instance : LinLt (α × β) where
  irr := fun x => by rw [lt_pair, if_pos rfl]; exact LinLt.irr _
  tri := fun x y => by
    obtain ⟨a, b⟩ := x
    obtain ⟨c, d⟩ := y
    rw [lt_pair, lt_pair]
    dsimp only
    by_cases h : a = c
    · subst h
      rw [if_pos rfl, if_pos rfl]
      rcases LinLt.tri b d with q | q | q
      · exact .inl q
      · exact .inr (.inl (by rw [q]))
      · exact .inr (.inr q)
    · rw [if_neg h, if_neg fun z => h z.symm]
      rcases LinLt.tri a c with q | q | q
      · exact .inl q
      · exact absurd q h
      · exact .inr (.inr q)
  trans := fun x y z h1 h2 => by
    obtain ⟨a, b⟩ := x
    obtain ⟨c, d⟩ := y
    obtain ⟨e, f⟩ := z
    rw [lt_pair] at h1 h2 ⊢
    dsimp only at h1 h2 ⊢
    by_cases p : a = c
    · subst p
      rw [if_pos rfl] at h1
      by_cases q : a = e
      · subst q
        rw [if_pos rfl] at h2 ⊢
        exact LinLt.trans _ _ _ h1 h2
      · rw [if_neg q] at h2 ⊢
        exact h2
    · rw [if_neg p] at h1
      by_cases q : c = e
      · subst q
        rw [if_neg p]
        exact h1
      · rw [if_neg q] at h2
        have t := LinLt.trans _ _ _ h1 h2
        by_cases r : a = e
        · subst r
          rw [LinLt.irr] at t
          cases t
        · rw [if_neg r]
          exact t
theorem lt_nil_cons (y : α) (ys : List α) : lt ([] : List α) (y :: ys) = true := by
  show PySem.W.dataLt (.tuple []) (.tuple (Enc.enc y :: ys.map Enc.enc)) = true
  rw [PySem.W.dataLt_tuple]
  rfl
theorem lt_cons_nil (x : α) (xs : List α) : lt (x :: xs) ([] : List α) = false := by
  show PySem.W.dataLt (.tuple (Enc.enc x :: xs.map Enc.enc)) (.tuple []) = false
  rw [PySem.W.dataLt_tuple]
  rfl
theorem llt_irr : ∀ x : List α, lt x x = false
  | [] => PySem.W.dataLt_self _
  | a :: x => by rw [lt_cons, if_pos rfl]; exact llt_irr x
theorem llt_tri : ∀ x y : List α, lt x y = true ∨ x = y ∨ lt y x = true
  | [], [] => .inr (.inl rfl)
  | [], b :: y => .inl (lt_nil_cons b y)
  | a :: x, [] => .inr (.inr (lt_nil_cons a x))
  | a :: x, b :: y => by
    rw [lt_cons, lt_cons]
    by_cases h : a = b
    · subst h
      rw [if_pos rfl, if_pos rfl]
      rcases llt_tri x y with q | q | q
      · exact .inl q
      · exact .inr (.inl (by rw [q]))
      · exact .inr (.inr q)
    · rw [if_neg h, if_neg fun z => h z.symm]
      rcases LinLt.tri a b with q | q | q
      · exact .inl q
      · exact absurd q h
      · exact .inr (.inr q)
theorem llt_trans : ∀ x y z : List α, lt x y = true → lt y z = true → lt x z = true
  | [], [], z, h1, _ => by rw [llt_irr] at h1; cases h1
  | [], b :: y, [], _, h2 => by rw [lt_cons_nil] at h2; cases h2
  | [], b :: y, c :: z, _, _ => lt_nil_cons c z
  | a :: x, [], z, h1, _ => by rw [lt_cons_nil] at h1; cases h1
  | a :: x, b :: y, [], _, h2 => by rw [lt_cons_nil] at h2; cases h2
  | a :: x, b :: y, c :: z, h1, h2 => by
    rw [lt_cons] at h1 h2 ⊢
    by_cases p : a = b
    · subst p
      rw [if_pos rfl] at h1
      by_cases q : a = c
      · subst q
        rw [if_pos rfl] at h2 ⊢
        exact llt_trans _ _ _ h1 h2
      · rw [if_neg q] at h2 ⊢
        exact h2
    · rw [if_neg p] at h1
      by_cases q : b = c
      · subst q
        rw [if_neg p]
        exact h1
      · rw [if_neg q] at h2
        have t := LinLt.trans _ _ _ h1 h2
        by_cases r : a = c
        · subst r
          rw [LinLt.irr] at t
          cases t
        · rw [if_neg r]
          exact t
instance : LinLt (List α) := ⟨llt_irr, llt_tri, llt_trans⟩
/-! ### sorted lists -/
theorem lt_asymm {x y : α} (h : lt x y = true) : lt y x = false := by
  cases e : lt y x with
  | false => rfl
  | true =>
    have := LinLt.trans _ _ _ h e
    rw [LinLt.irr] at this
    cases this
theorem sortM_perm (xs : List α) : (sortM xs).Perm xs := List.mergeSort_perm _ _
theorem sortM_pw (xs : List α) (nd : xs.Nodup) : (sortM xs).Pairwise fun x y => lt x y = true := by
  have h1 : (sortM xs).Pairwise fun x y => (!lt y x) = true := by
    refine List.pairwise_mergeSort (fun a b c h1 h2 => ?_) (fun a b => ?_) xs
    · rw [Bool.not_eq_true'] at h1 h2 ⊢
      cases e : lt c a with
      | false => rfl
      | true =>
        rcases LinLt.tri a b with q | q | q
        · rw [LinLt.trans _ _ _ e q] at h2; cases h2
        · subst q; rw [e] at h2; cases h2
        · rw [q] at h1; cases h1
    · cases e : lt b a with
      | false => rfl
      | true => rw [lt_asymm e]; rfl
  have h2 : (sortM xs).Nodup := (sortM_perm xs).nodup_iff.mpr nd
  refine (h1.and h2).imp fun {x y} h => ?_
  rcases LinLt.tri x y with q | q | q
  · exact q
  · exact absurd q h.2
  · rw [q] at h; exact Bool.noConfusion h.1
/-- two sorted lists with the same items are one -/
theorem sorted_same : ∀ {xs ys : List α}, (xs.Pairwise fun x y => lt x y = true) → (ys.Pairwise fun x y => lt x y = true) → (∀ x, x ∈ xs ↔ x ∈ ys) → xs = ys
  | [], [], _, _, _ => rfl
  | [], y :: ys, _, _, h => by have := (h y).mpr List.mem_cons_self; cases this
  | x :: xs, [], _, _, h => by have := (h x).mp List.mem_cons_self; cases this
  | x :: xs, y :: ys, h1, h2, h => by
    obtain ⟨a1, a2⟩ := List.pairwise_cons.mp h1
    obtain ⟨b1, b2⟩ := List.pairwise_cons.mp h2
    have e : x = y := by
      rcases LinLt.tri x y with q | q | q
      · rcases List.mem_cons.mp ((h x).mp List.mem_cons_self) with z | z
        · exact z
        · have := b1 x z
          rw [lt_asymm q] at this
          cases this
      · exact q
      · rcases List.mem_cons.mp ((h y).mpr List.mem_cons_self) with z | z
        · exact z.symm
        · have := a1 y z
          rw [lt_asymm q] at this
          cases this
    subst e
    have ir : ∀ {zs : List α}, (∀ z ∈ zs, lt x z = true) → x ∉ zs := fun {zs} k m => by
      have := k x m
      rw [LinLt.irr] at this
      cases this
    rw [sorted_same a2 b2 fun z => ?_]
    constructor
    · intro m
      rcases List.mem_cons.mp ((h z).mp (List.mem_cons_of_mem _ m)) with q | q
      · subst q; exact absurd m (ir a1)
      · exact q
    · intro m
      rcases List.mem_cons.mp ((h z).mpr (List.mem_cons_of_mem _ m)) with q | q
      · subst q; exact absurd m (ir b1)
      · exact q
theorem asc_pw : ∀ {xs : List α}, asc xs = true → xs.Pairwise fun x y => lt x y = true
  | [], _ => .nil
  | [_], _ => List.pairwise_singleton _ _
  | x :: y :: xs, h => by
    have h2 : (lt x y && asc (y :: xs)) = true := by
      unfold asc at h ⊢
      simpa using h
    rw [Bool.and_eq_true] at h2
    have ih := asc_pw h2.2
    refine List.pairwise_cons.mpr ⟨fun z hz => ?_, ih⟩
    rcases List.mem_cons.mp hz with q | q
    · rw [q]; exact h2.1
    · exact LinLt.trans _ _ _ h2.1 ((List.pairwise_cons.mp ih).1 z q)
end
/-! ### bits -/
theorem and_half (x y : Nat) : (x &&& y) / 2 = (x / 2) &&& (y / 2) := by
  apply Nat.eq_of_testBit_eq
  intro i
  rw [← Nat.testBit_succ, Nat.testBit_and, Nat.testBit_and, Nat.testBit_succ, Nat.testBit_succ]
theorem and_low (x y : Nat) : (x &&& y) % 2 = (x % 2) * (y % 2) := by
  have h : (x &&& y).testBit 0 = (x.testBit 0 && y.testBit 0) := Nat.testBit_and ..
  rw [Nat.testBit_zero, Nat.testBit_zero, Nat.testBit_zero] at h
  rcases Nat.mod_two_eq_zero_or_one x with a | a <;> rcases Nat.mod_two_eq_zero_or_one y with b | b <;> rcases Nat.mod_two_eq_zero_or_one (x &&& y) with c | c <;> rw [a, b, c] at h ⊢ <;> first | rfl | (exact absurd h (by decide))
/-- x's bits are among m's -/
def Sub (x m : Nat) : Prop := x &&& m = x
theorem sub_half {x m : Nat} (h : Sub x m) : Sub (x / 2) (m / 2) := by
  unfold Sub at h ⊢
  rw [← and_half, h]
theorem sub_low {x m : Nat} (h : Sub x m) : x % 2 ≤ m % 2 := by
  have := and_low x m
  rw [show x &&& m = x from h] at this
  rcases Nat.mod_two_eq_zero_or_one x with a | a <;> rcases Nat.mod_two_eq_zero_or_one m with b | b <;> rw [a, b] at this ⊢ <;> first | omega | decide
theorem sub_bit {x m : Nat} (h : Sub x m) (k : Nat) (hk : x.testBit k = true) : m.testBit k = true := by
  rw [← show x &&& m = x from h, Nat.testBit_and, Bool.and_eq_true] at hk
  exact hk.2
theorem sub_of {x m : Nat} (h : ∀ k, x.testBit k = true → m.testBit k = true) : Sub x m := by
  apply Nat.eq_of_testBit_eq
  intro i
  rw [Nat.testBit_and]
  cases e : x.testBit i with
  | false => rfl
  | true => rw [h i e]; rfl
theorem sub_le {x m : Nat} (h : Sub x m) : x ≤ m := by
  rw [← show x &&& m = x from h]
  exact Nat.and_le_right
theorem sub_testBit : ∀ (k : Nat) {x m : Nat}, Sub x m → (m - x).testBit k = (m.testBit k && !x.testBit k)
  | 0, x, m, h => by
    have h1 := sub_low h
    have h2 := sub_le h
    rw [Nat.testBit_zero, Nat.testBit_zero, Nat.testBit_zero]
    rcases Nat.mod_two_eq_zero_or_one x with a | a <;> rcases Nat.mod_two_eq_zero_or_one m with b | b <;> rw [a, b] at h1 ⊢
    · rw [show (m - x) % 2 = 0 by omega]; rfl
    · rw [show (m - x) % 2 = 1 by omega]; rfl
    · omega
    · rw [show (m - x) % 2 = 0 by omega]; rfl
  | k + 1, x, m, h => by
    have h1 := sub_low h
    have h2 := sub_le h
    rw [Nat.testBit_succ, Nat.testBit_succ, Nat.testBit_succ, show (m - x) / 2 = m / 2 - x / 2 by omega]
    exact sub_testBit k (sub_half h)
theorem one_shl (k : Nat) : 1 <<< k = 2 ^ k := by rw [Nat.shiftLeft_eq, Nat.one_mul]
theorem and_bit (m k : Nat) : m &&& (1 <<< k) = if m.testBit k then 2 ^ k else 0 := by
  apply Nat.eq_of_testBit_eq
  intro i
  rw [Nat.testBit_and, one_shl, Nat.testBit_two_pow]
  by_cases h : k = i
  · subst h
    cases e : m.testBit k with
    | true => rw [if_pos rfl, Nat.testBit_two_pow]; rfl
    | false => rw [if_neg (by simp)]; simp
  · rw [decide_eq_false h, Bool.and_false]
    split
    · rw [Nat.testBit_two_pow, decide_eq_false h]
    · simp
/-- a bit taken out -/
def clr (m k : Nat) : Nat := m - (m &&& (1 <<< k))
theorem clr_bit (m k i : Nat) : (clr m k).testBit i = (m.testBit i && decide (i ≠ k)) := by
  unfold clr
  have hs : Sub (m &&& (1 <<< k)) m := sub_of fun i hi => by
    rw [Nat.testBit_and, Bool.and_eq_true] at hi
    exact hi.1
  rw [sub_testBit i hs, Nat.testBit_and, one_shl, Nat.testBit_two_pow]
  cases m.testBit i with
  | false => rfl
  | true =>
    by_cases h : k = i
    · subst h; simp
    · have h' : i ≠ k := fun z => h z.symm
      simp [h, h']
/-- the codes of rows -/
theorem enumM_cons {γ : Type} (x : γ) (xs : List γ) : enumM (x :: xs) = (0, x) :: (enumM xs).map fun p => (p.1 + 1, p.2) := by
  unfold enumM
  rw [List.length_cons, List.range_succ_eq_map, List.zip_cons_cons, List.zip_map_left]
  rfl
theorem codeOf_cons (b : Nat) (x : List Nat) : codeOf (b :: x) = b + 2 * codeOf x := by
  unfold codeOf
  rw [enumM_cons, List.map_cons, List.sum_cons, Nat.shiftLeft_zero, List.map_map]
  congr 1
  generalize enumM x = l
  induction l with
  | nil => rfl
  | cons p l ih =>
    rw [List.map_cons, List.sum_cons, List.map_cons, List.sum_cons, Nat.mul_add, ih]
    congr 1
    show p.2 <<< (p.1 + 1) = 2 * (p.2 <<< p.1)
    rw [Nat.shiftLeft_succ]
theorem code_bit : ∀ (x : List Nat) (k : Nat), (∀ b ∈ x, b ≤ 1) → (codeOf x).testBit k = decide (x.getD k 0 = 1)
  | [], k, _ => by
    show (0 : Nat).testBit k = _
    rw [Nat.zero_testBit]
    simp
  | b :: x, 0, h => by
    have hb := h b List.mem_cons_self
    rw [codeOf_cons, Nat.testBit_zero]
    show decide _ = decide (b = 1)
    rcases (by omega : b = 0 ∨ b = 1) with z | z <;> subst z <;> simp <;> omega
  | b :: x, k + 1, h => by
    have hb := h b List.mem_cons_self
    rw [codeOf_cons, Nat.testBit_succ, show (b + 2 * codeOf x) / 2 = codeOf x by omega, code_bit x k fun c hc => h c (List.mem_cons_of_mem _ hc)]
    rfl
end K89
/-! M89b: plain: partial rows as masks with bits; what patterns_in lists. -/
namespace K89
open DL
theorem bitv (m k : Nat) : (m >>> k) &&& 1 = (m.testBit k).toNat := by
  rw [Nat.and_one_is_mod, Nat.shiftRight_eq_div_pow, Nat.testBit_eq_decide_div_mod_eq]
  rcases Nat.mod_two_eq_zero_or_one (m / 2 ^ k) with z | z <;> rw [z] <;> rfl
def keysOf (n m : Nat) : List Nat := (List.range n).filter fun k => m.testBit k
theorem keys_mem {n m k : Nat} : k ∈ keysOf n m ↔ k < n ∧ m.testBit k = true := by
  unfold keysOf
  rw [List.mem_filter, List.mem_range]
theorem partM_eq (n m b : Nat) : partM n m b = (keysOf n m).map fun k => (k, (b.testBit k).toNat) := by
  unfold partM keysOf
  have e1 : (fun k => decide ((m >>> k) &&& 1 = 1)) = fun k => m.testBit k := by
    funext k
    rw [bitv]
    cases m.testBit k <;> rfl
  have e2 : (fun k => (k, (b >>> k) &&& 1)) = fun k => (k, (b.testBit k).toNat) := by
    funext k
    rw [bitv]
  rw [e1, e2]
theorem part_mem {n m b : Nat} {l : Lit} : l ∈ partM n m b ↔ l.1 < n ∧ m.testBit l.1 = true ∧ l.2 = (b.testBit l.1).toNat := by
  rw [partM_eq, List.mem_map]
  constructor
  · rintro ⟨k, hk, rfl⟩
    exact ⟨(keys_mem.mp hk).1, (keys_mem.mp hk).2, rfl⟩
  · rintro ⟨h1, h2, h3⟩
    exact ⟨l.1, keys_mem.mpr ⟨h1, h2⟩, by rw [← h3]⟩
theorem low_bit {n m k : Nat} (hm : m < 2 ^ n) (h : m.testBit k = true) : k < n := by
  rcases Nat.lt_or_ge k n with z | z
  · exact z
  · rw [Nat.testBit_lt_two_pow (Nat.lt_of_lt_of_le hm (Nat.pow_le_pow_right (by decide) z))] at h
    cases h
/-- the rows that contain a partial row -/
theorem contains_code {n m b : Nat} {x : Row} (hx : OkRow n x) (hm : m < 2 ^ n) (hb : Sub b m) : contains x (partM n m b) = decide (b = codeOf x &&& m) := by
  have key : contains x (partM n m b) = true ↔ b = codeOf x &&& m := by
    unfold contains
    rw [List.all_eq_true]
    constructor
    · intro h
      apply Nat.eq_of_testBit_eq
      intro k
      rw [Nat.testBit_and, code_bit x k hx.2]
      cases e : m.testBit k with
      | false =>
        rw [Bool.and_false]
        cases eb : b.testBit k with
        | false => rfl
        | true => rw [sub_bit hb k eb] at e; cases e
      | true =>
        have := of_decide_eq_true (h (k, (b.testBit k).toNat) (part_mem.mpr ⟨low_bit hm e, e, rfl⟩))
        dsimp only at this
        rw [this]
        cases b.testBit k <;> rfl
    · intro h l hl
      obtain ⟨h1, h2, h3⟩ := part_mem.mp hl
      have e : b.testBit l.1 = (codeOf x &&& m).testBit l.1 := by rw [← h]
      rw [Nat.testBit_and, h2, Bool.and_true, code_bit x l.1 hx.2] at e
      refine decide_eq_true ?_
      rw [h3, e]
      have := getD_le hx.2 l.1
      rcases (by omega : x.getD l.1 0 = 0 ∨ x.getD l.1 0 = 1) with z | z <;> rw [z] <;> rfl
  rw [Bool.eq_iff_iff, key, decide_eq_true_iff]
theorem held_code {n m b : Nat} {rows : List Row} (hr : ∀ x ∈ rows, OkRow n x) (hm : m < 2 ^ n) (hb : Sub b m) : held rows (partM n m b) = heldS (n, rows) (m, b) := by
  unfold held heldS
  rw [Bool.eq_iff_iff, List.any_eq_true, List.any_eq_true]
  constructor
  · rintro ⟨x, hx, h⟩
    rw [contains_code (hr x hx) hm hb] at h
    exact ⟨x, hx, decide_eq_true ⟨hm, of_decide_eq_true h⟩⟩
  · rintro ⟨x, hx, h⟩
    refine ⟨x, hx, ?_⟩
    rw [contains_code (hr x hx) hm hb]
    exact decide_eq_true (of_decide_eq_true h).2
theorem drop_filter {α : Type} [DecidableEq α] : ∀ (L : List α) (nd : L.Nodup) (i : Nat) (h : i < L.length), L.take i ++ L.drop (i + 1) = L.filter fun x => decide (x ≠ L[i])
  | [], _, i, h => by cases h
  | x :: L, nd, 0, h => by
    obtain ⟨h1, h2⟩ := List.nodup_cons.mp nd
    show L = (x :: L).filter fun y => decide (y ≠ x)
    rw [List.filter_cons_of_neg (by simp)]
    symm
    rw [List.filter_eq_self]
    intro y hy
    exact decide_eq_true fun z => h1 (by rw [← z]; exact hy)
  | x :: L, nd, i + 1, h => by
    obtain ⟨h1, h2⟩ := List.nodup_cons.mp nd
    have hl : i < L.length := by simpa using h
    show x :: (L.take i ++ L.drop (i + 1)) = (x :: L).filter fun y => decide (y ≠ L[i])
    have hne : x ≠ L[i] := fun z => h1 (by rw [z]; exact List.getElem_mem hl)
    rw [List.filter_cons_of_pos (by simpa using hne), drop_filter L h2 i hl]
theorem keys_nodup (n m : Nat) : (keysOf n m).Nodup := List.Nodup.sublist List.filter_sublist List.nodup_range
theorem drop1_part {n m b i : Nat} (hi : i < (keysOf n m).length) : drop1 (partM n m b) i = partM n (clr m (keysOf n m)[i]) (b &&& clr m (keysOf n m)[i]) := by
  rw [partM_eq, partM_eq]
  unfold drop1
  rw [← List.map_take, ← List.map_drop, ← List.map_append, drop_filter _ (keys_nodup n m) i hi]
  generalize (keysOf n m)[i] = k
  have e : (keysOf n m).filter (fun x => decide (x ≠ k)) = keysOf n (clr m k) := by
    unfold keysOf
    rw [List.filter_filter]
    congr 1
    funext j
    rw [clr_bit, Bool.and_comm]
  rw [e]
  refine List.map_congr_left fun j hj => ?_
  rw [Nat.testBit_and, (keys_mem.mp hj).2, Bool.and_true]
theorem clr_lt {n m k : Nat} (h : m < 2 ^ n) : clr m k < 2 ^ n := Nat.lt_of_le_of_lt (Nat.sub_le _ _) h
theorem and_sub {b m : Nat} : Sub (b &&& m) m := sub_of fun i hi => by
  rw [Nat.testBit_and, Bool.and_eq_true] at hi
  exact hi.2
theorem pat_least {n m b : Nat} {rows : List Row} (hr : ∀ x ∈ rows, OkRow n x) (hm : m < 2 ^ n) (hb : Sub b m) : isPat rows (partM n m b) = leastM (heldS (n, rows)) n m b := by
  unfold isPat leastM
  rw [held_code hr hm hb]
  congr 1
  rw [Bool.eq_iff_iff, List.all_eq_true, List.all_eq_true]
  have hl : (partM n m b).length = (keysOf n m).length := by rw [partM_eq, List.length_map]
  constructor
  · intro h k hk
    have hk := List.mem_range.mp hk
    rw [and_bit]
    cases e : m.testBit k with
    | false => simp
    | true =>
      obtain ⟨i, hi, ei⟩ := List.getElem_of_mem (keys_mem.mpr ⟨hk, e⟩)
      have := h i (List.mem_range.mpr (by rw [hl]; exact hi))
      rw [drop1_part hi, ei, held_code hr (clr_lt hm) and_sub] at this
      rw [Bool.or_eq_true]
      right
      have ec : clr m k = m - 2 ^ k := by unfold clr; rw [and_bit, e, if_pos rfl]
      rw [ec] at this
      rw [if_pos rfl]
      exact this
  · intro h i hi
    have hi : i < (keysOf n m).length := by rw [← hl]; exact List.mem_range.mp hi
    obtain ⟨k1, k2⟩ := keys_mem.mp (List.getElem_mem hi)
    rw [drop1_part hi, held_code hr (clr_lt hm) and_sub]
    have := h _ (List.mem_range.mpr k1)
    rw [Bool.or_eq_true] at this
    rcases this with z | z
    · have z := of_decide_eq_true z
      rw [and_bit, k2, if_pos rfl] at z
      exact absurd z (Nat.ne_of_gt (Nat.two_pow_pos _))
    · exact z
/-! ### the masks below a mask -/
theorem below_and : ∀ (c b m : Nat), Sub c m → Sub b m → c < b → c ≤ (b - 1) &&& m := by
  intro c b
  induction b using Nat.strongRecOn generalizing c with
  | ind b ih =>
    intro m hc hb h
    have c1 := sub_low hc
    have b1 := sub_low hb
    have hh := and_half (b - 1) m
    have hl := and_low (b - 1) m
    rcases Nat.mod_two_eq_zero_or_one b with z | z
    · have h1 : (b - 1) / 2 = b / 2 - 1 := by omega
      have h2 : (b - 1) % 2 = 1 := by omega
      rw [h1] at hh
      rw [h2, Nat.one_mul] at hl
      have := ih (b / 2) (by omega) (c / 2) (m / 2) (sub_half hc) (sub_half hb) (by omega)
      omega
    · have h1 : (b - 1) / 2 = b / 2 := by omega
      have hs : b / 2 &&& m / 2 = b / 2 := sub_half hb
      rw [h1, hs] at hh
      omega
theorem numsW_mem (m : Nat) : ∀ b, Sub b m → ∀ c, c ∈ numsW m b ↔ c < b ∧ Sub c m := by
  intro b
  induction b using Nat.strongRecOn with
  | ind b ih =>
    intro hb c
    unfold numsW
    split
    · rename_i h
      have h2 := and_sub_lt (m := m) h
      rw [List.mem_cons, ih _ h2 and_sub]
      constructor
      · rintro (z | ⟨z1, z2⟩)
        · rw [z]; exact ⟨h2, and_sub⟩
        · exact ⟨Nat.lt_trans z1 h2, z2⟩
      · rintro ⟨z1, z2⟩
        have := below_and c b m z2 hb z1
        rcases Nat.lt_or_ge c ((b - 1) &&& m) with q | q
        · exact .inr ⟨q, z2⟩
        · exact .inl (Nat.le_antisymm this q)
    · rename_i h
      constructor
      · intro z; cases z
      · rintro ⟨z, _⟩; omega
theorem nums_mem {m c : Nat} : c ∈ numsM m ↔ Sub c m := by
  unfold numsM
  have hm : Sub m m := Nat.and_self m
  rw [List.mem_cons, numsW_mem m m hm]
  constructor
  · rintro (z | z)
    · rw [z]; exact hm
    · exact z.2
  · intro z
    rcases Nat.lt_or_ge c m with q | q
    · exact .inr ⟨q, z⟩
    · exact .inl (Nat.le_antisymm (sub_le z) q)
theorem numsW_pw (m : Nat) : ∀ b, (numsW m b).Pairwise fun x y => y < x := by
  intro b
  induction b using Nat.strongRecOn with
  | ind b ih =>
    unfold numsW
    split
    · rename_i h
      exact List.pairwise_cons.mpr ⟨fun c hc => numsW_lt m _ c hc, ih _ (and_sub_lt h)⟩
    · exact .nil
theorem nums_nodup (m : Nat) : (numsM m).Nodup := by
  refine List.Pairwise.imp (R := fun x y => y < x) (fun h z => by rw [z] at h; exact Nat.lt_irrefl _ h) ?_
  exact List.pairwise_cons.mpr ⟨fun c hc => numsW_lt m _ c hc, numsW_pw m m⟩
theorem pairs_mem {n m b : Nat} : (m, b) ∈ pairsM n ↔ m < 2 ^ n ∧ Sub b m := by
  unfold pairsM
  rw [List.mem_flatMap, one_shl]
  constructor
  · rintro ⟨m', hm, h⟩
    obtain ⟨b', hb, e⟩ := List.mem_map.mp h
    cases e
    exact ⟨List.mem_range.mp hm, nums_mem.mp hb⟩
  · rintro ⟨h1, h2⟩
    exact ⟨m, List.mem_range.mpr h1, List.mem_map.mpr ⟨b, nums_mem.mpr h2, rfl⟩⟩
theorem pairs_nodup (n : Nat) : (pairsM n).Nodup := by
  unfold pairsM List.Nodup
  rw [List.pairwise_flatMap]
  refine ⟨fun m _ => ?_, ?_⟩
  · rw [List.pairwise_map]
    exact (nums_nodup m).imp fun h z => h (Prod.mk.inj z).2
  · refine (List.nodup_range (n := 1 <<< n)).imp fun {a c} h x hx y hy z => h ?_
    obtain ⟨_, _, rfl⟩ := List.mem_map.mp hx
    obtain ⟨_, _, rfl⟩ := List.mem_map.mp hy
    exact (Prod.mk.inj z).1
theorem part_inj {n m b m' b' : Nat} (hm : m < 2 ^ n) (hb : Sub b m) (hm' : m' < 2 ^ n) (hb' : Sub b' m') (h : partM n m b = partM n m' b') : m = m' ∧ b = b' := by
  have km : ∀ {m b m' b' : Nat}, m < 2 ^ n → partM n m b = partM n m' b' → ∀ k, m.testBit k = true → m'.testBit k = true ∧ (b.testBit k).toNat = (b'.testBit k).toNat := fun {m b m' b'} hm h k hk => by
    have := (part_mem (l := (k, (b.testBit k).toNat))).mpr ⟨low_bit hm hk, hk, rfl⟩
    rw [h] at this
    exact ⟨(part_mem.mp this).2.1, (part_mem.mp this).2.2⟩
  have em : m = m' := by
    apply Nat.eq_of_testBit_eq
    intro k
    rw [Bool.eq_iff_iff]
    exact ⟨fun z => (km hm h k z).1, fun z => (km hm' h.symm k z).1⟩
  refine ⟨em, ?_⟩
  apply Nat.eq_of_testBit_eq
  intro k
  cases e : m.testBit k with
  | true =>
    have := (km hm h k e).2
    revert this
    cases b.testBit k <;> cases b'.testBit k <;> decide
  | false =>
    have h1 : b.testBit k = false := by
      cases q : b.testBit k with
      | false => rfl
      | true => rw [sub_bit hb k q] at e; cases e
    have h2 : b'.testBit k = false := by
      cases q : b'.testBit k with
      | false => rfl
      | true => rw [em, sub_bit hb' k q] at e; cases e
    rw [h1, h2]
/-! ### all partial rows -/
theorem partM_succ (n m b : Nat) : partM (n + 1) m b = partM n m b ++ (if m.testBit n then [(n, (b.testBit n).toNat)] else []) := by
  rw [partM_eq, partM_eq]
  unfold keysOf
  rw [List.range_succ, List.filter_append, List.map_append]
  congr 1
  cases e : m.testBit n with
  | true => rw [List.filter_cons_of_pos e]; rfl
  | false => rw [List.filter_cons_of_neg (by rw [e]; exact Bool.false_ne_true)]; rfl
theorem partM_congr {n m b m' b' : Nat} (h1 : ∀ k, k < n → m.testBit k = m'.testBit k) (h2 : ∀ k, k < n → b.testBit k = b'.testBit k) : partM n m b = partM n m' b' := by
  rw [partM_eq, partM_eq]
  unfold keysOf
  have e : (List.range n).filter (fun k => m.testBit k) = (List.range n).filter fun k => m'.testBit k := List.filter_congr fun k hk => h1 k (List.mem_range.mp hk)
  rw [e]
  refine List.map_congr_left fun k hk => ?_
  rw [h2 k (keys_mem.mp hk).1]
theorem parts_step {n : Nat} {q : Part} : q ∈ partsOf (n + 1) ↔ ∃ p ∈ partsOf n, q = p ∨ q = p ++ [(n, 0)] ∨ q = p ++ [(n, 1)] := by
  show q ∈ (partsOf n).flatMap (fun p => [p, p ++ [(n, 0)], p ++ [(n, 1)]]) ↔ _
  rw [List.mem_flatMap]
  constructor
  · rintro ⟨p, hp, h⟩
    exact ⟨p, hp, by simpa using h⟩
  · rintro ⟨p, hp, h⟩
    exact ⟨p, hp, by simpa using h⟩
theorem or_bit (m n k : Nat) : (m ||| 2 ^ n).testBit k = (m.testBit k || decide (n = k)) := by rw [Nat.testBit_or, Nat.testBit_two_pow]
theorem parts_mem : ∀ {n : Nat} {q : Part}, q ∈ partsOf n ↔ ∃ m b, m < 2 ^ n ∧ Sub b m ∧ q = partM n m b
  | 0, q => by
    constructor
    · intro h
      have e : q = [] := List.mem_singleton.mp h
      exact ⟨0, 0, by decide, rfl, by rw [e]; rfl⟩
    · rintro ⟨m, b, _, _, e⟩
      rw [e]
      exact List.mem_singleton.mpr rfl
  | n + 1, q => by
    rw [parts_step]
    have hi : ∀ {m : Nat}, m < 2 ^ n → m.testBit n = false := fun h => Nat.testBit_lt_two_pow h
    have hlt : ∀ {m : Nat}, m < 2 ^ n → m < 2 ^ (n + 1) := fun h => Nat.lt_of_lt_of_le h (Nat.pow_le_pow_right (by decide) (Nat.le_succ n))
    have hor : ∀ {m : Nat}, m < 2 ^ n → m ||| 2 ^ n < 2 ^ (n + 1) := fun h => Nat.or_lt_two_pow (hlt h) (Nat.pow_lt_pow_right (by decide) (Nat.lt_succ_self n))
    have same : ∀ {m k : Nat}, k < n → m.testBit k = (m ||| 2 ^ n).testBit k := fun {m k} hk => by
      rw [or_bit, decide_eq_false (by omega), Bool.or_false]
    have top : ∀ {m : Nat}, (m ||| 2 ^ n).testBit n = true := fun {m} => by rw [or_bit, decide_eq_true rfl, Bool.or_true]
    constructor
    · rintro ⟨p, hp, h⟩
      obtain ⟨m, b, hm, hb, rfl⟩ := parts_mem.mp hp
      have hb2 : b < 2 ^ n := Nat.lt_of_le_of_lt (sub_le hb) hm
      rcases h with h | h | h
      · exact ⟨m, b, hlt hm, hb, by rw [h, partM_succ, hi hm]; simp⟩
      · refine ⟨m ||| 2 ^ n, b, hor hm, sub_of fun k hk => by rw [or_bit, sub_bit hb k hk]; rfl, ?_⟩
        rw [h, partM_succ, top, if_pos rfl, hi hb2, partM_congr (fun k hk => same hk) fun _ _ => rfl]
        rfl
      · refine ⟨m ||| 2 ^ n, b ||| 2 ^ n, hor hm, sub_of fun k hk => ?_, ?_⟩
        · rw [or_bit, Bool.or_eq_true] at hk ⊢
          exact hk.imp (sub_bit hb k) id
        · rw [h, partM_succ, top, if_pos rfl, top, partM_congr (fun k hk => same hk) fun k hk => same hk]
          rfl
    · rintro ⟨m, b, hm, hb, rfl⟩
      have lo : ∀ {x k : Nat}, k < n → x.testBit k = (x % 2 ^ n).testBit k := fun {x k} hk => by
        rw [Nat.testBit_mod_two_pow, decide_eq_true hk]; rfl
      refine ⟨partM n (m % 2 ^ n) (b % 2 ^ n), parts_mem.mpr ⟨_, _, Nat.mod_lt _ (Nat.two_pow_pos n), sub_of fun k hk => ?_, rfl⟩, ?_⟩
      · rw [Nat.testBit_mod_two_pow, Bool.and_eq_true] at hk ⊢
        exact ⟨hk.1, sub_bit hb k hk.2⟩
      · rw [partM_succ, partM_congr (n := n) (m := m) (b := b) (fun k hk => lo hk) fun k hk => lo hk]
        cases m.testBit n with
        | false => left; simp
        | true =>
          right
          cases b.testBit n with
          | false => left; rfl
          | true => right; rfl
theorem parts_nil : ∀ n, ([] : Part) ∈ partsOf n
  | 0 => List.mem_singleton.mpr rfl
  | n + 1 => parts_step.mpr ⟨[], parts_nil n, .inl rfl⟩
theorem parts_of_asc : ∀ (n : Nat) (p : Part), (∀ l ∈ p, l.1 < n ∧ l.2 ≤ 1) → (p.map (·.1)).Pairwise (· < ·) → p ∈ partsOf n
  | 0, p, h, _ => by
    cases p with
    | nil => exact parts_nil 0
    | cons l p => exact absurd (h l List.mem_cons_self).1 (Nat.not_lt_zero _)
  | n + 1, p, h, pw => by
    rcases List.eq_nil_or_concat p with e | ⟨p', l, e⟩
    · rw [e]; exact parts_nil _
    · rw [List.concat_eq_append] at e
      subst e
      rw [List.map_append, List.pairwise_append] at pw
      have hl := h l (List.mem_append_right _ List.mem_cons_self)
      have hlt : ∀ q ∈ p', q.1 < l.1 := fun q hq => pw.2.2 q.1 (List.mem_map.mpr ⟨q, hq, rfl⟩) l.1 (by simp)
      by_cases z : l.1 = n
      · refine parts_step.mpr ⟨p', parts_of_asc n p' (fun q hq => ⟨by have := hlt q hq; omega, (h q (List.mem_append_left _ hq)).2⟩) pw.1, .inr ?_⟩
        obtain ⟨a, b⟩ := l
        dsimp only at z hl
        subst z
        rcases (by omega : b = 0 ∨ b = 1) with y | y
        · left; rw [y]
        · right; rw [y]
      · refine parts_step.mpr ⟨p' ++ [l], parts_of_asc n _ (fun q hq => ?_) (by rw [List.map_append, List.pairwise_append]; exact pw), .inl rfl⟩
        rcases List.mem_append.mp hq with y | y
        · exact ⟨by have := hlt q y; omega, (h q hq).2⟩
        · rw [List.mem_singleton.mp y]; exact ⟨by omega, hl.2⟩
theorem asc_nat {xs : List Nat} (h : asc xs = true) : xs.Pairwise (· < ·) := (asc_pw h).imp fun {x y} z => by rw [lt_nat] at z; exact of_decide_eq_true z
theorem okPart_mem {n : Nat} {p : Part} (h : OkPart n p) : p ∈ partsOf n := parts_of_asc n p h.1 (asc_nat h.2.1)
theorem mem_okPart {n : Nat} {p : Part} (h7 : n ≤ 1000) (h : p ∈ partsOf n) : OkPart n p := by
  have hl := parts_plen h
  obtain ⟨m, b, hm, hb, rfl⟩ := parts_mem.mp h
  refine ⟨fun l hl => ?_, asc_of ?_, by omega⟩
  · obtain ⟨h1, _, h3⟩ := part_mem.mp hl
    refine ⟨h1, ?_⟩
    rw [h3]
    cases b.testBit l.1 <;> decide
  · rw [partM_eq, List.map_map]
    have e : ((fun x : Lit => x.1) ∘ fun k => (k, (b.testBit k).toNat)) = id := rfl
    rw [e, List.map_id]
    refine List.Pairwise.imp (R := fun x y => x < y) (fun {x y} h => by rw [lt_nat]; exact decide_eq_true h) ?_
    exact List.Pairwise.sublist List.filter_sublist List.pairwise_lt_range
theorem parts_lit {n : Nat} {p : Part} (h : p ∈ partsOf n) : ∀ l ∈ p, l.1 < n := by
  obtain ⟨m, b, _, _, rfl⟩ := parts_mem.mp h
  exact fun l hl => (part_mem.mp hl).1
theorem parts_nodup : ∀ n, (partsOf n).Nodup
  | 0 => List.pairwise_singleton _ _
  | n + 1 => by
    show List.Pairwise _ ((partsOf n).flatMap fun p => [p, p ++ [(n, 0)], p ++ [(n, 1)]])
    rw [List.pairwise_flatMap]
    have cut : ∀ p ∈ partsOf n, ∀ q : Part, (q = p ∨ q = p ++ [(n, 0)] ∨ q = p ++ [(n, 1)]) → q.filter (fun l => decide (l.1 < n)) = p := fun p hp q hq => by
      have e : p.filter (fun l => decide (l.1 < n)) = p := by
        rw [List.filter_eq_self]
        exact fun l hl => decide_eq_true (parts_lit hp l hl)
      rcases hq with z | z | z <;> rw [z]
      · exact e
      · rw [List.filter_append, e]; simp
      · rw [List.filter_append, e]; simp
    refine ⟨fun p _ => ?_, ?_⟩
    · refine List.pairwise_cons.mpr ⟨fun q hq => ?_, List.pairwise_cons.mpr ⟨fun q hq => ?_, List.pairwise_singleton _ _⟩⟩
      · intro z
        subst z
        have hq : p = p ++ [(n, 0)] ∨ p = p ++ [(n, 1)] := by simpa using hq
        rcases hq with y | y <;> (have := congrArg List.length y; simp at this)
      · have hq : q = p ++ [(n, 1)] := by simpa using hq
        rw [hq]
        intro z
        have := List.append_cancel_left z
        simp at this
    · refine List.Pairwise.imp_of_mem (R := fun a c => a ≠ c) (fun {a c} ha hc h x hx y hy z => h ?_) (parts_nodup n)
      subst z
      rw [← cut a ha x (by simpa using hx), cut c hc x (by simpa using hy)]
/-! ### what patterns_in lists -/
theorem pats_mem {r : Rule} (hr : ∀ x ∈ r.2, OkRow r.1 x) {q : Part} : q ∈ patternsM r ↔ q ∈ partsOf r.1 ∧ isPat r.2 q = true := by
  unfold patternsM
  rw [(sortM_perm _).mem_iff, List.mem_map]
  constructor
  · rintro ⟨⟨m, b⟩, h, rfl⟩
    obtain ⟨h1, h2⟩ := List.mem_filter.mp h
    obtain ⟨hm, hb⟩ := pairs_mem.mp h1
    exact ⟨parts_mem.mpr ⟨m, b, hm, hb, rfl⟩, by rw [pat_least hr hm hb]; exact h2⟩
  · rintro ⟨h1, h2⟩
    obtain ⟨m, b, hm, hb, rfl⟩ := parts_mem.mp h1
    rw [pat_least hr hm hb] at h2
    exact ⟨(m, b), List.mem_filter.mpr ⟨pairs_mem.mpr ⟨hm, hb⟩, h2⟩, rfl⟩
theorem pats_pw {r : Rule} : (patternsM r).Pairwise fun p q => lt p q = true := by
  refine sortM_pw _ ?_
  unfold List.Nodup
  rw [List.pairwise_map]
  refine List.Pairwise.imp_of_mem (R := fun a c => a ≠ c) (fun {a c} ha hc h z => h ?_) ((pairs_nodup r.1).sublist List.filter_sublist)
  obtain ⟨h1, h2⟩ := pairs_mem.mp (List.mem_filter.mp ha).1
  obtain ⟨h3, h4⟩ := pairs_mem.mp (List.mem_filter.mp hc).1
  have := part_inj h1 h2 h3 h4 z
  exact Prod.ext this.1 this.2
theorem pats_eq {r : Rule} (hr : ∀ x ∈ r.2, OkRow r.1 x) : patternsM r = (sortM (partsOf r.1)).filter fun p => isPat r.2 p :=
  sorted_same pats_pw ((sortM_pw _ (parts_nodup r.1)).filter _) fun q => by rw [pats_mem hr, List.mem_filter, (sortM_perm _).mem_iff]
theorem pats_len {r : Rule} (hr : ∀ x ∈ r.2, OkRow r.1 x) (h7 : r.1 ≤ 7) : (patternsM r).length ≤ 2187 := by
  rw [pats_eq hr]
  refine Nat.le_trans (List.length_filter_le _ _) ?_
  rw [(sortM_perm _).length_eq]
  exact parts_le h7
end K89
/-! M89c: plain: covers, the rule from its patterns. -/
namespace K89
open DL
theorem isPart_iff {q p : Part} : isPart q p = true ↔ ∀ l ∈ q, l ∈ p := by
  unfold isPart
  rw [List.all_eq_true]
  exact ⟨fun h l hl => memB_iff.mp (h l hl), fun h l hl => memB_iff.mpr (h l hl)⟩
theorem contains_iff {x : Row} {p : Part} : contains x p = true ↔ ∀ l ∈ p, x.getD l.1 0 = l.2 := by
  unfold contains
  rw [List.all_eq_true]
  exact ⟨fun h l hl => of_decide_eq_true (h l hl), fun h l hl => decide_eq_true (h l hl)⟩
theorem contains_sub {x : Row} {q p : Part} (h : isPart q p = true) (c : contains x p = true) : contains x q = true :=
  contains_iff.mpr fun l hl => contains_iff.mp c l (isPart_iff.mp h l hl)
theorem held_iff {rows : List Row} {p : Part} : held rows p = true ↔ ∃ x ∈ rows, contains x p = true := by
  unfold held
  rw [List.any_eq_true]
theorem held_no {rows : List Row} {p : Part} : held rows p = false ↔ ∀ x ∈ rows, contains x p = false := by
  rw [← Bool.not_eq_true, held_iff]
  constructor
  · intro h x hx
    rw [← Bool.not_eq_true]
    exact fun z => h ⟨x, hx, z⟩
  · rintro h ⟨x, hx, z⟩
    rw [h x hx] at z
    cases z
theorem held_sub {rows : List Row} {q p : Part} (h : isPart q p = true) (c : held rows p = true) : held rows q = true := by
  obtain ⟨x, hx, z⟩ := held_iff.mp c
  exact held_iff.mpr ⟨x, hx, contains_sub h z⟩
theorem isPart_refl (p : Part) : isPart p p = true := isPart_iff.mpr fun _ h => h
theorem isPart_drop (p : Part) (i : Nat) : isPart (drop1 p i) p = true := isPart_iff.mpr fun _ h => drop1_mem h
theorem isPart_trans {p q r : Part} (h : isPart p q = true) (k : isPart q r = true) : isPart p r = true := isPart_iff.mpr fun l hl => isPart_iff.mp k l (isPart_iff.mp h l hl)
theorem drop1_sub (p : Part) (i : Nat) : (drop1 p i).Sublist p := by
  unfold drop1
  have h : (p.take i ++ p.drop (i + 1)).Sublist (p.take i ++ p.drop i) := by
    refine List.Sublist.append (List.Sublist.refl _) ?_
    rw [show p.drop (i + 1) = (p.drop i).drop 1 by rw [List.drop_drop]]
    exact List.drop_sublist _ _
  rwa [List.take_append_drop] at h
theorem drop1_ok {n : Nat} {p : Part} {i : Nat} (h : OkPart n p) : OkPart n (drop1 p i) := by
  refine ⟨fun l hl => h.1 l (drop1_mem hl), asc_of ?_, Nat.le_trans (drop1_len p i) h.2.2⟩
  have := (asc_nat h.2.1).sublist ((drop1_sub p i).map (·.1))
  exact this.imp fun {x y} z => by rw [lt_nat]; exact decide_eq_true z
theorem drop1_less {p : Part} {i : Nat} (h : i < p.length) : (drop1 p i).length < p.length := by
  unfold drop1
  rw [List.length_append, List.length_take, List.length_drop]
  omega
theorem cover {r : Rule} (hr : ∀ x ∈ r.2, OkRow r.1 x) : ∀ (k : Nat) (p : Part), p.length ≤ k → OkPart r.1 p → held r.2 p = false → ∃ q ∈ patternsM r, isPart q p = true := by
  intro k
  induction k with
  | zero =>
    intro p hl hp hh
    refine ⟨p, (pats_mem hr).mpr ⟨okPart_mem hp, ?_⟩, isPart_refl p⟩
    unfold isPat
    have e : p.length = 0 := Nat.le_zero.mp hl
    rw [hh, e]
    rfl
  | succ k ih =>
    intro p hl hp hh
    cases e : isPat r.2 p with
    | true => exact ⟨p, (pats_mem hr).mpr ⟨okPart_mem hp, e⟩, isPart_refl p⟩
    | false =>
      unfold isPat at e
      rw [hh, Bool.not_false, Bool.true_and] at e
      rw [List.all_eq_false] at e
      obtain ⟨i, hi, z⟩ := e
      have hi := List.mem_range.mp hi
      rw [Bool.not_eq_true] at z
      obtain ⟨q, hq, hqp⟩ := ih (drop1 p i) (by have := drop1_less hi; omega) (drop1_ok hp) z
      exact ⟨q, hq, isPart_trans hqp (isPart_drop p i)⟩
theorem pat_notHeld {rows : List Row} {p : Part} (h : isPat rows p = true) : held rows p = false := by
  unfold isPat at h
  rw [Bool.and_eq_true, Bool.not_eq_true'] at h
  exact h.1
theorem rows_ne {r : Rule} (h : OkRule r) : r.2 ≠ [] := fun z => by
  obtain ⟨⟨x, hx, _⟩, _⟩ := both_iff.mp h.2 0 h.1.1
  rw [z] at hx
  cases hx
theorem pat_ne {r : Rule} (h : OkRule r) {p : Part} (hp : isPat r.2 p = true) : p ≠ [] := fun z => by
  have := pat_notHeld hp
  rw [z] at this
  cases e : r.2 with
  | nil => exact rows_ne h e
  | cons x xs =>
    rw [e] at this
    cases this
theorem sort_ok {r : Rule} (h : OkRule r) : SortOk r := fun p hp z => by
  obtain ⟨h1, h2⟩ := List.mem_filter.mp hp
  obtain ⟨hm, hb⟩ := pairs_mem.mp (show (p.1, p.2) ∈ pairsM r.1 from h1)
  rw [← pat_least h.1.2.2.1 hm hb] at h2
  exact pat_ne h h2 z
theorem okRow_mem : ∀ {n : Nat} {x : Row}, OkRow n x → x ∈ rowsOf n
  | 0, x, h => by
    have : x = [] := List.eq_nil_of_length_eq_zero h.1
    rw [this]
    exact List.mem_singleton.mpr rfl
  | n + 1, x, h => by
    rcases List.eq_nil_or_concat x with e | ⟨y, b, e⟩
    · rw [e] at h
      have := h.1
      simp at this
    · rw [List.concat_eq_append] at e
      subst e
      have hl := h.1
      rw [List.length_append] at hl
      have hy : y ∈ rowsOf n := okRow_mem ⟨by simpa using hl, fun c hc => h.2 c (List.mem_append_left _ hc)⟩
      have hb := h.2 b (by simp)
      show _ ∈ (rowsOf n).flatMap fun r => [r ++ [0], r ++ [1]]
      refine List.mem_flatMap.mpr ⟨y, hy, ?_⟩
      rcases (by omega : b = 0 ∨ b = 1) with z | z <;> rw [z] <;> simp
/-- all literals of a row -/
theorem full_ok {n : Nat} {x : Row} (h : OkRow n x) (hn : n ≤ 1000) : OkPart n (enumM x) := by
  refine ⟨fun l hl => ?_, asc_of ?_, ?_⟩
  · obtain ⟨h1, h2⟩ := enumM_mem hl
    exact ⟨by rw [← h.1]; exact h1, h.2 _ h2⟩
  · unfold enumM
    rw [List.map_fst_zip (by rw [List.length_range]; exact Nat.le_refl _)]
    exact List.pairwise_lt_range.imp fun {a b} z => by rw [lt_nat]; exact decide_eq_true z
  · unfold enumM
    rw [List.length_zip, List.length_range, Nat.min_self, h.1]
    exact hn
theorem full_contains {n : Nat} {x y : Row} (hx : OkRow n x) (hy : OkRow n y) : contains y (enumM x) = true ↔ y = x := by
  rw [contains_iff]
  constructor
  · intro h
    refine List.ext_getElem (by rw [hx.1, hy.1]) fun i h1 h2 => ?_
    have e := List.mem_of_getElem? (enumM_get (List.getElem?_eq_getElem h2))
    have := h _ e
    dsimp only at this
    rw [List.getD_eq_getElem?_getD, List.getElem?_eq_getElem h1] at this
    exact this
  · intro e l hl
    subst e
    unfold enumM at hl
    obtain ⟨i, hi⟩ := List.mem_iff_getElem?.mp hl
    rw [List.getElem?_zip_eq_some] at hi
    obtain ⟨h1, h2⟩ := hi
    rw [List.getElem?_range (by have := (List.getElem?_eq_some_iff.mp h2).1; exact this)] at h1
    have e1 : i = l.1 := Option.some.inj h1
    rw [List.getD_eq_getElem?_getD, ← e1, h2]
    rfl
/-- partial rows that are not held, the patterns among them, give the rule -/
theorem without_eq {r : Rule} (h : OkRule r) {ps : List Part} (h1 : ∀ p ∈ ps, held r.2 p = false) (h2 : ∀ p ∈ patternsM r, p ∈ ps) : rowsWithout r.1 ps = r.2 := by
  refine sorted_same ((rowsOf_pw r.1).filter _) (asc_pw h.1.2.2.2.2) fun x => ?_
  unfold rowsWithout
  rw [List.mem_filter, Bool.not_eq_true', ← Bool.not_eq_true, List.any_eq_true]
  have h7 := h.1.2.1
  constructor
  · rintro ⟨hx, hn⟩
    have ox := rowsOf_len1 hx
    rcases Decidable.em (x ∈ r.2) with z | z
    · exact z
    · exfalso
      have hh : held r.2 (enumM x) = false := held_no.mpr fun y hy => by
        rw [← Bool.not_eq_true, full_contains ox (h.1.2.2.1 y hy)]
        exact fun e => z (by rw [← e]; exact hy)
      obtain ⟨q, hq, hqp⟩ := cover h.1.2.2.1 _ _ (Nat.le_refl _) (full_ok ox (by omega)) hh
      exact hn ⟨q, h2 q hq, contains_sub hqp ((full_contains ox ox).mpr rfl)⟩
  · intro hx
    refine ⟨okRow_mem (h.1.2.2.1 x hx), ?_⟩
    rintro ⟨p, hp, hc⟩
    have := held_no.mp (h1 p hp) x hx
    rw [hc] at this
    cases this
theorem pat_of {r : Rule} (h : OkRule r) {p : Part} (hp : p ∈ patternsM r) : isPat r.2 p = true ∧ OkPart r.1 p := by
  obtain ⟨h1, h2⟩ := (pats_mem h.1.2.2.1).mp hp
  exact ⟨h2, mem_okPart (by have := h.1.2.1; omega) h1⟩
theorem without_pats {r : Rule} (h : OkRule r) : rowsWithout r.1 (patternsM r) = r.2 := without_eq h (fun p hp => pat_notHeld (pat_of h hp).1) fun _ z => z
theorem plain : Plain where
  sort := fun r h => sort_ok h
  len := fun r h => pats_len h.1.2.2.1 h.1.2.1
  ok := fun r h q hq => (pat_of h hq).2
  cov := fun n ps h1 hf hb p hp => by
    have ok : ∀ x ∈ (ruleE n ps).2, OkRow (ruleE n ps).1 x := fun x hx => rowsOf_len1 (List.mem_filter.mp hx).1
    refine cover ok _ p (Nat.le_refl _) (hf.2.1 p hp) (held_no.mpr fun x hx => ?_)
    have := (List.mem_filter.mp hx).2
    rw [Bool.not_eq_true', List.any_eq_false] at this
    exact Bool.not_eq_true _ |>.mp (this p hp)
/-! ### one partial row -/
theorem parts_held {r : Rule} (h : OkRule r) {p : Part} (hp : OkPart r.1 p) : (partsIn (patternsM r) p).isEmpty = held r.2 p := by
  cases e : held r.2 p with
  | true =>
    rw [List.isEmpty_iff]
    unfold partsIn
    rw [List.filter_eq_nil_iff]
    intro q hq hqp
    have := held_sub hqp e
    rw [pat_notHeld (pat_of h hq).1] at this
    cases this
  | false =>
    obtain ⟨q, hq, hqp⟩ := cover h.1.2.2.1 _ p (Nat.le_refl _) hp e
    rw [← Bool.not_eq_true, List.isEmpty_iff]
    intro z
    have : q ∈ partsIn (patternsM r) p := List.mem_filter.mpr ⟨hq, hqp⟩
    rw [z] at this
    cases this
theorem pat_iff {r : Rule} (h : OkRule r) {p : Part} (hp : OkPart r.1 p) : memB p (patternsM r) = isPat r.2 p := by
  rw [Bool.eq_iff_iff, memB_iff, pats_mem h.1.2.2.1]
  exact ⟨fun z => z.2, fun z => ⟨okPart_mem hp, z⟩⟩
/-- the first least of a list, by turns, is the one that min finds -/
theorem fold_best {γ : Type} (f : γ → γ → Bool) (d : γ) (L : List γ) (bt : Nat → Nat → Bool) (hbt : ∀ i j, i < L.length → j < L.length → bt i j = f (L.getD i d) (L.getD j d)) :
    ∀ k, k < L.length → ((L.drop 1).take k).foldl (fun a y => if f y a then y else a) (L.getD 0 d) = L.getD (PySem.argBest bt k) d
  | 0, _ => by rw [List.take_zero]; rfl
  | k + 1, h => by
    have ih := fold_best f d L bt hbt k (by omega)
    have ht : (L.drop 1).take (k + 1) = (L.drop 1).take k ++ [L.getD (k + 1) d] := by
      rw [List.take_add_one, List.getElem?_drop, show 1 + k = k + 1 by omega, List.getElem?_eq_getElem h, List.getD_eq_getElem?_getD, List.getElem?_eq_getElem h]
      rfl
    rw [ht, List.foldl_append, ih, List.foldl_cons, List.foldl_nil]
    have hb : PySem.argBest bt k < L.length := Nat.lt_of_le_of_lt (argBest_le bt k) (by omega)
    show (if f (L.getD (k + 1) d) (L.getD (PySem.argBest bt k) d) then _ else _) = L.getD (if bt (k + 1) (PySem.argBest bt k) then k + 1 else PySem.argBest bt k) d
    rw [hbt (k + 1) _ h hb]
    cases f (L.getD (k + 1) d) (L.getD (PySem.argBest bt k) d) <;> rfl
def lp (q : Part) : Nat × Part := (q.length, q)
theorem min_key {q : Part} {qs : List Part} : (minM (lp q) (qs.map lp)).2 = minKeyM (q :: qs) := by
  unfold minM minKeyM
  have hl : (q :: qs).length - 1 = qs.length := by simp
  rw [hl]
  have h := fold_best (fun a b : Nat × Part => lt a b) (0, []) ((q :: qs).map lp) (keyLt ((q :: qs).map fun x => x.map Enc.enc)) (fun i j hi hj => ?_) qs.length (by simp)
  · have e : ((((q :: qs).map lp).drop 1).take qs.length) = qs.map lp := by
      rw [List.map_cons, List.drop_one, List.tail_cons]
      exact List.take_of_length_le (by rw [List.length_map]; exact Nat.le_refl _)
    rw [e] at h
    rw [show lp q = ((q :: qs).map lp).getD 0 (0, []) from rfl, h]
    have hb := argBest_le (keyLt ((q :: qs).map fun x => x.map Enc.enc)) qs.length
    generalize PySem.argBest (keyLt ((q :: qs).map fun x => x.map Enc.enc)) qs.length = m at hb ⊢
    have hm : m < (q :: qs).length := by simp; omega
    rw [List.getD_eq_getElem?_getD, List.getD_eq_getElem?_getD, List.getElem?_map, List.getElem?_eq_getElem hm]
    rfl
  · rw [List.length_map] at hi hj
    unfold keyLt
    rw [List.getElem?_map, List.getElem?_map, List.getElem?_eq_getElem hi, List.getElem?_eq_getElem hj, List.getD_eq_getElem?_getD, List.getD_eq_getElem?_getD, List.getElem?_map, List.getElem?_map, List.getElem?_eq_getElem hi, List.getElem?_eq_getElem hj]
    show PySem.W.dataLt _ _ = PySem.W.dataLt _ _
    generalize (q :: qs)[i] = a
    generalize (q :: qs)[j] = b
    show PySem.W.dataLt (kd (a.map Enc.enc)) (kd (b.map Enc.enc)) = PySem.W.dataLt (Enc.enc (lp a)) (Enc.enc (lp b))
    have e : ∀ c : Part, kd (c.map Enc.enc) = Enc.enc (lp c) := fun c => by
      unfold kd
      rw [List.length_map]
      rfl
    rw [e, e]
theorem paper_held {r : Rule} {p : Part} {xs : List Row} (hx : xs.length = p.length) (h : ∀ i (hi : i < xs.length), xs[i] ∈ r.2 ∧ contains xs[i] (drop1 p i) = true) : paperM r p xs = isPat r.2 p := by
  have h1 : ((enumM xs).all fun q => memB q.2 r.2 && contains q.2 (drop1 p q.1)) = true := by
    rw [List.all_eq_true]
    intro q hq
    obtain ⟨i, hi⟩ := List.mem_iff_getElem?.mp hq
    unfold enumM at hi
    rw [List.getElem?_zip_eq_some] at hi
    obtain ⟨e1, e2⟩ := hi
    obtain ⟨hl, e3⟩ := List.getElem?_eq_some_iff.mp e2
    rw [List.getElem?_range hl] at e1
    have e4 : i = q.1 := Option.some.inj e1
    obtain ⟨z1, z2⟩ := h i hl
    rw [Bool.and_eq_true, memB_iff, ← e3, ← e4]
    exact ⟨z1, z2⟩
  have h2 : ((List.range p.length).all fun i => held r.2 (drop1 p i)) = true := by
    rw [List.all_eq_true]
    intro i hi
    have hi : i < xs.length := by rw [hx]; exact List.mem_range.mp hi
    exact held_iff.mpr ⟨xs[i], h i hi⟩
  unfold paperM isPat
  rw [h1, h2, decide_eq_true hx]
  rw [Bool.and_true]
theorem rowsFor_at {rows : List Row} {p : Part} (h : isPat rows p = true) : ∀ i (hi : i < (rowsFor rows p).length), (rowsFor rows p)[i] ∈ rows ∧ contains (rowsFor rows p)[i] (drop1 p i) = true := fun i hi => by
  unfold rowsFor at hi
  rw [List.length_map, List.length_range] at hi
  obtain ⟨x, xs, e⟩ := isPat_held h hi
  unfold rowsFor
  rw [List.getElem_map, List.getElem_range, e]
  have : x ∈ rows.filter fun x => contains x (drop1 p i) := by rw [e]; exact List.mem_cons_self
  exact List.mem_filter.mp this
theorem rowsFor_len (rows : List Row) (p : Part) : (rowsFor rows p).length = p.length := by
  unfold rowsFor
  rw [List.length_map, List.length_range]
theorem paper_for {r : Rule} {p : Part} (h : isPat r.2 p = true) : paperM r p (rowsFor r.2 p) = true := by
  rw [paper_held (rowsFor_len _ _) (rowsFor_at h), h]
theorem paper_short {r : Rule} {p : Part} {xs : List Row} (h : xs.length ≠ p.length) : paperM r p xs = false := by
  unfold paperM
  rw [decide_eq_false h]
  simp
end K89
/-! M89d: plain: how long the texts of data are. -/
namespace K89
open PySem DL
structure Small (d : PyData) (c : Nat) : Prop where
  sh : d.showable = true
  is : d.intsShort 13 = true
  wt : d.weight ≤ c
theorem Small.mono {d : PyData} {c e : Nat} (h : Small d c) (l : c ≤ e) : Small d e := ⟨h.sh, h.is, Nat.le_trans h.wt l⟩
theorem small_all {c : Nat} : ∀ ds : List PyData, (∀ d ∈ ds, Small d c) → PyData.showableAll ds = true ∧ PyData.intsShortAll 13 ds = true ∧ PyData.weightAll ds ≤ ds.length * (c + 1)
  | [], _ => ⟨rfl, rfl, Nat.zero_le _⟩
  | d :: ds, h => by
    obtain ⟨h1, h2, h3⟩ := small_all ds fun e he => h e (List.mem_cons_of_mem _ he)
    have hd := h d List.mem_cons_self
    refine ⟨?_, ?_, ?_⟩
    · rw [PyData.showableAll, hd.sh, h1]; rfl
    · rw [PyData.intsShortAll, hd.is, h2]; rfl
    · rw [PyData.weightAll, List.length_cons, Nat.succ_mul]
      have := hd.wt
      omega
theorem small_tup {c m : Nat} {ds : List PyData} (h : ∀ d ∈ ds, Small d c) (hl : ds.length ≤ m) : Small (.tuple ds) (m * (c + 1)) := by
  obtain ⟨h1, h2, h3⟩ := small_all ds h
  refine ⟨by rw [PyData.showable]; exact h1, by rw [PyData.intsShort]; exact h2, ?_⟩
  rw [PyData.weight]
  exact Nat.le_trans h3 (Nat.mul_le_mul_right _ hl)
theorem small_list {α : Type} [Enc α] {c m : Nat} {xs : List α} (h : ∀ x ∈ xs, Small (Enc.enc x) c) (hl : xs.length ≤ m) : Small (Enc.enc xs) (m * (c + 1)) := by
  refine small_tup (fun d hd => ?_) (by rw [List.length_map]; exact hl)
  obtain ⟨x, hx, rfl⟩ := List.mem_map.mp hd
  exact h x hx
theorem small_pair {α β : Type} [Enc α] [Enc β] {c : Nat} {x : α} {y : β} (h1 : Small (Enc.enc x) c) (h2 : Small (Enc.enc y) c) : Small (Enc.enc (x, y)) (2 * (c + 1)) := by
  refine small_tup (ds := [Enc.enc x, Enc.enc y]) (fun d hd => ?_) (Nat.le_refl _)
  have hd : d = Enc.enc x ∨ d = Enc.enc y := by simpa using hd
  rcases hd with z | z <;> rw [z] <;> assumption
theorem small_nat {n : Nat} (h : n < 8) : Small (Enc.enc n) 3 := by
  show Small (.int (n : Int)) 3
  match n, h with
  | 0, _ => exact ⟨by decide +kernel, by decide +kernel, by decide +kernel⟩
  | 1, _ => exact ⟨by decide +kernel, by decide +kernel, by decide +kernel⟩
  | 2, _ => exact ⟨by decide +kernel, by decide +kernel, by decide +kernel⟩
  | 3, _ => exact ⟨by decide +kernel, by decide +kernel, by decide +kernel⟩
  | 4, _ => exact ⟨by decide +kernel, by decide +kernel, by decide +kernel⟩
  | 5, _ => exact ⟨by decide +kernel, by decide +kernel, by decide +kernel⟩
  | 6, _ => exact ⟨by decide +kernel, by decide +kernel, by decide +kernel⟩
  | 7, _ => exact ⟨by decide +kernel, by decide +kernel, by decide +kernel⟩
theorem small_shown {d : PyData} {c : Nat} (h : Small d c) (hl : d.canLay0 = true) (hc : c ≤ 1048576) : d.showable = true ∧ d.shown.length ≤ sizeLine := by
  have h2 := PyData.shown_le 13 (by decide) d (PyData.leavesShort_of_canLay0 13 d hl h.is)
  have := h.wt
  rw [sizeLine_eq]
  exact ⟨h.sh, by omega⟩
theorem small_part {n : Nat} {p : Part} (h7 : n ≤ 7) (h : OkPart n p) (hl : p.length ≤ 7) : Small (Enc.enc p) 63 := by
  refine small_list (c := 8) (m := 7) (fun l hl => ?_) hl
  obtain ⟨h1, h2⟩ := h.1 l hl
  exact small_pair (small_nat (by omega)) (small_nat (by omega))
theorem okPart_len {n : Nat} {p : Part} (h : OkPart n p) : p.length ≤ n := parts_plen (okPart_mem h)
theorem pats_shown {r : Rule} (h : OkRule r) : (Enc.enc (patternsM r)).showable = true ∧ (Enc.enc (patternsM r)).shown.length ≤ sizeLine := by
  refine small_shown (c := 2187 * 64) ?_ (Lay.lay _) (by decide)
  refine small_list (fun p hp => ?_) (pats_len h.1.2.2.1 h.1.2.1)
  have ok := (pat_of h hp).2
  exact small_part h.1.2.1 ok (Nat.le_trans (okPart_len ok) h.1.2.1)
theorem rule_shown {r : Rule} (h : OkRule r) : (Enc.enc r).showable = true ∧ (Enc.enc r).shown.length ≤ sizeLine := by
  have h7 := h.1.2.1
  refine small_shown (c := 2 * ((3000 * 29) + 1)) (small_pair (Small.mono (small_nat (by omega)) (by decide)) ?_) (Lay.lay _) (by decide)
  refine small_list (fun x hx => ?_) h.1.2.2.2.1
  have ox := h.1.2.2.1 x hx
  exact small_list (m := 7) (fun b hb => small_nat (by have := ox.2 b hb; omega)) (by rw [ox.1]; exact h7)
end K89
/-! M89e: plain: exactly two of seven keys. -/
namespace K89
open PySem DL
def R7L : List Row := [[0, 0, 0, 0, 0, 1, 1], [0, 0, 0, 0, 1, 0, 1], [0, 0, 0, 0, 1, 1, 0], [0, 0, 0, 1, 0, 0, 1], [0, 0, 0, 1, 0, 1, 0], [0, 0, 0, 1, 1, 0, 0], [0, 0, 1, 0, 0, 0, 1], [0, 0, 1, 0, 0, 1, 0], [0, 0, 1, 0, 1, 0, 0], [0, 0, 1, 1, 0, 0, 0], [0, 1, 0, 0, 0, 0, 1], [0, 1, 0, 0, 0, 1, 0], [0, 1, 0, 0, 1, 0, 0], [0, 1, 0, 1, 0, 0, 0], [0, 1, 1, 0, 0, 0, 0], [1, 0, 0, 0, 0, 0, 1], [1, 0, 0, 0, 0, 1, 0], [1, 0, 0, 0, 1, 0, 0], [1, 0, 0, 1, 0, 0, 0], [1, 0, 1, 0, 0, 0, 0], [1, 1, 0, 0, 0, 0, 0]]
def C7 : List Part := [[(0, 1), (1, 1), (2, 1)], [(0, 1), (1, 1), (3, 1)], [(0, 1), (1, 1), (4, 1)], [(0, 1), (1, 1), (5, 1)], [(0, 1), (1, 1), (6, 1)], [(0, 1), (2, 1), (3, 1)], [(0, 1), (2, 1), (4, 1)], [(0, 1), (2, 1), (5, 1)], [(0, 1), (2, 1), (6, 1)], [(0, 1), (3, 1), (4, 1)], [(0, 1), (3, 1), (5, 1)], [(0, 1), (3, 1), (6, 1)], [(0, 1), (4, 1), (5, 1)], [(0, 1), (4, 1), (6, 1)], [(0, 1), (5, 1), (6, 1)], [(1, 1), (2, 1), (3, 1)], [(1, 1), (2, 1), (4, 1)], [(1, 1), (2, 1), (5, 1)], [(1, 1), (2, 1), (6, 1)], [(1, 1), (3, 1), (4, 1)], [(1, 1), (3, 1), (5, 1)], [(1, 1), (3, 1), (6, 1)], [(1, 1), (4, 1), (5, 1)], [(1, 1), (4, 1), (6, 1)], [(1, 1), (5, 1), (6, 1)], [(2, 1), (3, 1), (4, 1)], [(2, 1), (3, 1), (5, 1)], [(2, 1), (3, 1), (6, 1)], [(2, 1), (4, 1), (5, 1)], [(2, 1), (4, 1), (6, 1)], [(2, 1), (5, 1), (6, 1)], [(3, 1), (4, 1), (5, 1)], [(3, 1), (4, 1), (6, 1)], [(3, 1), (5, 1), (6, 1)], [(4, 1), (5, 1), (6, 1)], [(0, 0), (1, 0), (2, 0), (3, 0), (4, 0), (5, 0)], [(0, 0), (1, 0), (2, 0), (3, 0), (4, 0), (6, 0)], [(0, 0), (1, 0), (2, 0), (3, 0), (5, 0), (6, 0)], [(0, 0), (1, 0), (2, 0), (4, 0), (5, 0), (6, 0)], [(0, 0), (1, 0), (3, 0), (4, 0), (5, 0), (6, 0)], [(0, 0), (2, 0), (3, 0), (4, 0), (5, 0), (6, 0)], [(1, 0), (2, 0), (3, 0), (4, 0), (5, 0), (6, 0)]]
theorem r7_eq : ((rowsOf 7).filter fun x => decide (x.sum = 2)) = R7L := by decide +kernel
theorem c7_eq : (∀ q ∈ partsOf 7, isPat R7L q = decide (q ∈ C7)) := by decide +kernel
theorem c7_in : ∀ q ∈ C7, q ∈ partsOf 7 := by decide +kernel
theorem c7_nd : C7.Nodup := by decide +kernel
def R7 : Rule := (7, R7L)
theorem r7_asc : asc R7L = true := by
  rw [← r7_eq]
  exact asc_of ((rowsOf_pw 7).filter _)
theorem r7_ok : OkRule R7 := ⟨⟨by decide, by decide, by
  show ∀ x ∈ R7L, x.length = 7 ∧ ∀ b ∈ x, b ≤ 1
  decide +kernel, by decide +kernel, r7_asc⟩, by decide +kernel⟩
theorem p7_perm : (patternsM R7).Perm C7 := by
  have nd : (patternsM R7).Nodup := (pats_pw (r := R7)).imp fun {p q} h z => by
    subst z
    rw [LinLt.irr] at h
    cases h
  rw [List.perm_ext_iff_of_nodup nd c7_nd]
  intro q
  rw [pats_mem r7_ok.1.2.2.1]
  constructor
  · rintro ⟨h1, h2⟩
    have h2 : isPat R7L q = true := h2
    rw [c7_eq q h1] at h2
    exact of_decide_eq_true h2
  · intro h
    have h1 := c7_in q h
    refine ⟨h1, ?_⟩
    show isPat R7L q = true
    rw [c7_eq q h1]
    exact decide_eq_true h
def kind7 (q : Part) : Nat × Nat := (q.length, (q.headD (0, 0)).2)
theorem cnt_perm {α : Type} [DecidableEq α] {xs ys : List α} (p : xs.Perm ys) (x : α) : xs.count x = ys.count x := p.count_eq x
theorem kinds7 : [@List.count (Nat × Nat) instBEqOfDecidableEq (3, 1) ((patternsM R7).map kind7), @List.count (Nat × Nat) instBEqOfDecidableEq (6, 0) ((patternsM R7).map kind7), ((patternsM R7).map kind7).length] = [35, 7, 42] := by
  rw [cnt_perm (p7_perm.map kind7) (3, 1), cnt_perm (p7_perm.map kind7) (6, 0), (p7_perm.map kind7).length_eq]
  decide +kernel
def own7 (p : Part) : Row := (List.range 7).map fun k => match p.find? fun l => l.1 == k with
  | some l => l.2
  | none => 1 - (p.headD (0, 0)).2
theorem own7_ok : ∀ p ∈ C7, OkRow 7 (own7 p) ∧ contains (own7 p) p = true ∧ ∀ q ∈ C7, q ≠ p → contains (own7 p) q = false := by
  show ∀ p ∈ C7, ((own7 p).length = 7 ∧ ∀ b ∈ own7 p, b ≤ 1) ∧ contains (own7 p) p = true ∧ ∀ q ∈ C7, q ≠ p → contains (own7 p) q = false
  decide +kernel
theorem not7 : rowsWithout 7 ((patternsM R7).drop 1) ≠ R7L := fun z => by
  have nd : (patternsM R7).Nodup := p7_perm.nodup_iff.mpr c7_nd
  cases e : patternsM R7 with
  | nil =>
    have := p7_perm.length_eq
    rw [e] at this
    exact absurd this (by decide)
  | cons p ps =>
    have hp : p ∈ C7 := p7_perm.mem_iff.mp (by rw [e]; exact List.mem_cons_self)
    obtain ⟨h1, h2, h3⟩ := own7_ok p hp
    rw [e] at z nd
    have hx : own7 p ∈ rowsWithout 7 ((p :: ps).drop 1) := by
      unfold rowsWithout
      rw [List.mem_filter, Bool.not_eq_true', List.any_eq_false]
      refine ⟨okRow_mem h1, fun q hq => ?_⟩
      have hq : q ∈ ps := hq
      rw [h3 q (p7_perm.mem_iff.mp (by rw [e]; exact List.mem_cons_of_mem _ hq)) fun y => (List.nodup_cons.mp nd).1 (by rw [← y]; exact hq)]
      exact Bool.false_ne_true
    rw [z] at hx
    have hh := pat_notHeld (pat_of r7_ok (p := p) (by rw [e]; exact List.mem_cons_self)).1
    have := held_no.mp hh (own7 p) hx
    rw [h2] at this
    cases this
end K89
/-! K89u: the law's defs, further. -/
namespace K89
open PySem PySem.Spec PyProof.Rows L2 DL
section
variable {P : Program} {w : World} {K : PySem.W.Frag} {mg : PySem.Str → Option Value} {base : Heap}
local macro_rules | `(tactic| walk_at "dl") => `(tactic| first
  | with_reducible refine ss_ret ?_ | with_reducible refine ss_seq ?_ | with_reducible refine ss_if ?_ | with_reducible refine ss_next ?_ | with_reducible refine ss_retN ?_
  | refine w_var (by rfl) ?_ | with_reducible refine w_lit ?_ | with_reducible refine w_bl ?_ | with_reducible refine w_non ?_ | with_reducible refine w_str ?_ | with_reducible refine w_val ?_
  | with_reducible refine w_op ?_ | with_reducible refine w_cb ?_ | with_reducible refine w_call ?_ | with_reducible refine wa_cons ?_ | with_reducible refine wa_nil ?_
  | with_reducible refine wt_test ?_ | with_reducible refine wt_B ?_ | with_reducible refine wt_not ?_ | with_reducible refine wt_yes ?_ | with_reducible refine wt_and ?_ | with_reducible refine wt_or ?_
  | with_reducible refine w_andV ?_ | with_reducible refine w_orV ?_ | with_reducible refine w_notV ?_ | with_reducible refine w_if ?_ | with_reducible refine w_chain ?_
  | with_reducible refine wo_none ?_ | with_reducible refine wo_some ?_
  | with_reducible refine r_eq ?_ | with_reducible refine r_ne ?_ | with_reducible refine r_lt ?_ | with_reducible refine r_add ?_ | with_reducible refine r_and ?_ | with_reducible refine r_shr ?_ | with_reducible refine r_ltn ?_ | with_reducible refine r_gtn ?_ | with_reducible refine r_len ?_
  | with_reducible refine r_inT ?_ | with_reducible refine r_notInT ?_ | with_reducible refine r_inL ?_
  | with_reducible refine c_lenT ?_ | with_reducible refine c_lenP ?_ | with_reducible refine r_fst ?_ | with_reducible refine r_snd ?_ | with_reducible refine g_name ?_ | with_reducible refine g_pair ?_ | with_reducible refine gs_name ?_ | with_reducible refine gs_nil ?_)
instance {α : Type} [DecidableEq α] : DecidableEq (PL α) := fun x y => decidable_of_iff (x.l = y.l) ⟨fun h => by cases x; cases y; exact congrArg PL.mk h, fun h => by rw [h]⟩
theorem wt_at {ρ : Rho} {i : Nat} {Pt : Addr} {A : Fact} {𝒜 : Fact → Prop} (h : ρ[i]? = some (Slot.fact (withTab A Pt))) (k : 𝒜 A) : W K (tVar i) ρ 𝒜 := w_varL h le_wt k
theorem wt_imp {ρ : Rho} {tc : TT} {p q : Bool → Prop} (h : WT K tc ρ p) (f : ∀ b, p b → q b) : WT K tc ρ q := fun σ Ot Hf H Q e k => h σ Ot Hf H Q e fun b Hf' H' g z => k b Hf' H' g (f b z)
theorem ss_skip {ρ : Rho} {Po : Post} {tc : TT} {u : TS} (h : WT K tc ρ fun b => b = false ∧ Po.nx ρ) : SS K (tIfS tc u tNext) ρ Po := ss_if (wt_imp h fun b ⟨e, k⟩ => ⟨fun z => (by rw [e] at z; cases z), fun _ => ss_next k⟩)
def sp__law_partial_right (K : PySem.W.Frag) (Pt : Addr) : Sp := mkSp (fun t : Rule × Part => [isS, withTab (Is K t.1) Pt, Is K (patternsM t.1), Is K t.2]) (fun t => OkRule t.1 ∧ OkPart t.1.1 t.2) fun _ A => A = Is K true
theorem d__law_partial_right {Pt : Addr} (T : TF K mg) (h__law_is_held : Has P w K mg base CX0 2 "_law_is_held" ["rule", "partial"] (sp__law_is_held K)) (h__law_is_part : Has P w K mg base CX0 1 "_law_is_part" ["partial", "other"] (sp__law_is_part K)) (h__law_is_pattern : Has P w K mg base CX0 3 "_law_is_pattern" ["rule", "partial"] (sp__law_is_pattern K)) (h__law_pick : Has P w K mg base CX0 2 "_law_pick" ["stream", "items"] (sp__law_pick K)) (h__law_rows_for : Has P w K mg base CX0 2 "_law_rows_for" ["rule", "partial"] (sp__law_rows_for K)) (h_is_pattern : Has P w K mg base CX0 6 "is_pattern" ["rule", "value"] (sp_is_pattern K)) (h_is_pattern_paper : Has P w K mg base CX0 6 "is_pattern_paper" ["rule", "value"] (sp_is_pattern_paper K)) (h_pattern_within : Has P w K mg base CX0 6 "pattern_within" ["rule", "partial"] (sp_pattern_within K Pt)) : Has P w K mg base CX0 7 "_law_partial_right" ["stream", "rule", "told", "partial"] (sp__law_partial_right K Pt) := by
  obtain ⟨f, fd, F, hm, hb⟩ := T.d__law_partial_right
  refine fn_facts F sc__law_partial_right hm hb (fun _ => by first | rfl | (split <;> rfl)) fun cdv A outer s H E hr hgd => ?_
  have S := sc__law_partial_right
  refine ⟨(tSeq (tPar 4 5 (tCons (tCall (sp__law_is_held K) [] E0 (tCons (tVar 1) (tCons (tVar 3) tNil))) (tCons (tLc (iTup K (tVar 2)) (gName 6) (tB (tCall (sp__law_is_part K) [] E0 (tCons (tVar 6) (tCons (tVar 3) tNil)))) (tVar 6) [6]) tNil))) (tSeq (tIfS (tTest (tOp (rNeD K) (tOp (rEqD K) (tVar 5) (tLst tNil)) (tVar 4))) (tRet (tC (.bl false))) tNext) (tSeq (tIfS (tTest (tOp rNe (tCB (rReprD K) (tCons (tCall (sp_is_pattern K) [] E0 (tCons (tVar 1) (tCons (tVar 3) tNil))) tNil)) (tCB (rReprD K) (tCons (tCall (sp__law_is_pattern K) [] E0 (tCons (tVar 1) (tCons (tVar 3) tNil))) tNil)))) (tRet (tC (.bl false))) tNext) (tSeq (tAsg (tIf (tTest (tOp (rNeD K) (tVar 5) (tLst tNil))) (tOp (rIx K) (tCB (rMinD K) (tCons (tLc (iList K (tVar 5)) (gName 6) tYes (tTup (tCons (tCB (rLenA K) (tCons (tVar 6) tNil)) (tCons (tVar 6) tNil))) [6]) tNil)) (tC (.int 1))) (tC .non)) (gName 7)) (tSeq (tIfS (tTest (tOp (rNeD K) (tCall (sp_pattern_within K Pt) [] E0 (tCons (tVar 1) (tCons (tVar 3) tNil))) (tVar 7))) (tRet (tC (.bl false))) tNext) (tSeq (tAsg (tCall (sp__law_rows_for K) [] E0 (tCons (tVar 1) (tCons (tVar 3) tNil))) (gName 8)) (tSeq (tIfS (tTest (tOp (rInD K) (tLst tNil) (tVar 8))) (tRet (tOp (rNotInT K) (tVar 3) (tVar 2))) tNext) (tSeq (tAsg (tCB (rTupA K) (tCons (tLc (iList K (tVar 8)) (gName 10) tYes (tCall (sp__law_pick K) [] E0 (tCons (tVar 0) (tCons (tVar 10) tNil))) [10]) tNil)) (gName 9)) (tRet (tOp rEq (tCB (rReprD K) (tCons (tCall (sp_is_pattern_paper K) [] E0 (tCons (tVar 1) (tCons (tTup (tCons (tVar 3) (tCons (tVar 9) tNil))) tNil))) tNil)) (tCB (rReprD K) (tCons (tOp (rInT K) (tVar 3) (tVar 2)) tNil)))))))))))), (pss_cons (ps_par (i := 4) (j := 5) (by rfl) S.nd rfl rfl (by decide) rfl rfl (pa_cons (pc (E := E0) (h__law_is_held.mono (by decide)) hr hgd (by rfl) pass0 (pa_cons (pv 1) (pa_cons (pv 3) pa_nil))) (pa_cons (pe_lc (own := [("pattern", 6)]) (g := (gName 6)) (tt := (tB (tCall (sp__law_is_part K) [] E0 (tCons (tVar 6) (tCons (tVar 3) tNil))))) (te := (tVar 6)) (by rfl) S.nd (pi_tup (pv 2)) (blkOk_by (by rfl)) (fun _ _ _ _ _ => (pg_name (i := 6) S.nd rfl (by first | exact Or.inl rfl | exact Or.inr rfl))) (fun _ _ _ _ _ => pts_one (pt_val (pc (E := E0) (h__law_is_part.mono (by decide)) hr hgd (by rfl) pass0 (pa_cons (pv 6) (pa_cons (pv 3) pa_nil))))) (fun _ _ _ _ _ => (pv 6))) pa_nil)) (by rfl)) (pss_cons (ps_if (pt_cmpR (op_neD hr.units) (pe_cmpR (op_eqD hr.units) (pv 5) (pe_lst pa_nil) (nomark _)) (pv 4) (nomark _)) (pss_one (ps_ret pe_bl)) pss_nil) (pss_cons (ps_if (pt_cmpR op_ne (pe_callB (cr_reprD hgd hr.units) (by rfl) T.n_repr bt_repr (pa_cons (pc (E := E0) (h_is_pattern.mono (by decide)) hr hgd (by rfl) pass0 (pa_cons (pv 1) (pa_cons (pv 3) pa_nil))) pa_nil)) (pe_callB (cr_reprD hgd hr.units) (by rfl) T.n_repr bt_repr (pa_cons (pc (E := E0) (h__law_is_pattern.mono (by decide)) hr hgd (by rfl) pass0 (pa_cons (pv 1) (pa_cons (pv 3) pa_nil))) pa_nil)) (nomark _)) (pss_one (ps_ret pe_bl)) pss_nil) (pss_cons (ps_set (i := 7) S.nd rfl (by first | exact Or.inl rfl | exact Or.inr rfl) (pe_ifExp (pt_cmpR (op_neD hr.units) (pv 5) (pe_lst pa_nil) (nomark _)) (pe_ix ix_seq (pe_callB (cr_minD (by rfl) hr.units) (by rfl) T.n_min bt_min (pa_cons (pe_lc (own := [("pattern", 6)]) (g := (gName 6)) (tt := tYes) (te := (tTup (tCons (tCB (rLenA K) (tCons (tVar 6) tNil)) (tCons (tVar 6) tNil)))) (by rfl) S.nd (pi_list (pv 5)) (blkOk_by (by rfl)) (fun _ _ _ _ _ => (pg_name (i := 6) S.nd rfl (by first | exact Or.inl rfl | exact Or.inr rfl))) (fun _ _ _ _ _ => pts_nil) (fun _ _ _ _ _ => (pe_tup (pa_cons (pe_callB call_len_seq (by rfl) T.n_len bt_len (pa_cons (pv 6) pa_nil)) (pa_cons (pv 6) pa_nil))))) pa_nil)) pe_int (fun _ _ => rfl)) pe_non)) (pss_cons (ps_if (pt_cmpR (op_neD hr.units) (pc (E := E0) (h_pattern_within.mono (by decide)) hr hgd (by rfl) pass0 (pa_cons (pv 1) (pa_cons (pv 3) pa_nil))) (pv 7) (nomark _)) (pss_one (ps_ret pe_bl)) pss_nil) (pss_cons (ps_set (i := 8) S.nd rfl (by first | exact Or.inl rfl | exact Or.inr rfl) (pc (E := E0) (h__law_rows_for.mono (by decide)) hr hgd (by rfl) pass0 (pa_cons (pv 1) (pa_cons (pv 3) pa_nil)))) (pss_cons (ps_if (pt_cmpR (op_inD (un65 hr)) (pe_lst pa_nil) (pv 8) (by rfl)) (pss_one (ps_ret (pe_cmpR (op_notInT (un65 hr)) (pv 3) (pv 2) (by rfl)))) pss_nil) (pss_cons (ps_set (i := 9) S.nd rfl (by first | exact Or.inl rfl | exact Or.inr rfl) (pe_callTy call_tuple_of (by rfl) T.n_tuple bt_tuple (pa_cons (pe_lc (own := [("found", 10)]) (g := (gName 10)) (tt := tYes) (te := (tCall (sp__law_pick K) [] E0 (tCons (tVar 0) (tCons (tVar 10) tNil)))) (by rfl) S.nd (pi_list (pv 8)) (blkOk_by (by rfl)) (fun _ _ _ _ _ => (pg_name (i := 10) S.nd rfl (by first | exact Or.inl rfl | exact Or.inr rfl))) (fun _ _ _ _ _ => pts_nil) (fun _ _ _ _ _ => (pc (E := E0) (h__law_pick.mono (by decide)) hr hgd (by rfl) pass0 (pa_cons (pv 0) (pa_cons (pv 10) pa_nil))))) pa_nil))) (pss_one (ps_ret (pe_cmpR op_eq (pe_callB (cr_reprD hgd hr.units) (by rfl) T.n_repr bt_repr (pa_cons (pc (E := E0) (h_is_pattern_paper.mono (by decide)) hr hgd (by rfl) pass0 (pa_cons (pv 1) (pa_cons (pe_tup (pa_cons (pv 3) (pa_cons (pv 9) pa_nil))) pa_nil))) pa_nil)) (pe_callB (cr_reprD hgd hr.units) (by rfl) T.n_repr bt_repr (pa_cons (pe_cmpR (op_inT (un65 hr)) (pv 3) (pv 2) (by rfl)) pa_nil)) (nomark _)))))))))))), ?_⟩
  rintro ⟨r, p⟩ ⟨h1, h2⟩
  dsimp only at h1 h2
  have fit := okRule_fit h1 h2
  have pl := plain.len r h1
  have po : ∀ q ∈ patternsM r, q.length ≤ 1000 := fun q hq => (plain.ok r h1 q hq).2.2
  refine ss_seq (ss_par (wa_cons (w_call (wa_cons (wt_at (A := Is K r) (by rfl) ?_)))))
  repeat walk_at "dl"
  refine c_mk (r, p) fit fun A e => ?_
  subst e
  refine wa_cons (w_new (wn_comp (fun q : Part => isPart q p) (fun q => q) (js := [6]) (by decide) (wx_tup (α := Part) ?_)))
  repeat walk_at "dl"
  refine ⟨patternsM r, Le.refl _, Nat.le_trans pl (by decide), fun q hq => ?_, ?_⟩
  · repeat walk_at "dl"
    refine c_mk (q, p) (po q hq) fun A e => ?_
    subst e
    refine is_x ⟨rfl, fun _ => ?_⟩
    repeat walk_at "dl"
    exact Le.refl _
  rw [List.map_id']
  repeat walk_at "dl"
  refine ⟨_, _, rfl, ?_⟩
  dsimp only
  refine ss_seq (ss_skip (wt_test (w_op (w_op (w_var (by rfl) (w_nil (r_isNil (le_L (partsIn (patternsM r) p)) ?_)))))))
  repeat walk_at "dl"
  refine is_x ⟨decide_eq_false fun z => z (parts_held h1 h2), ?_⟩
  dsimp only
  refine ss_seq (ss_skip (wt_test (w_op (w_cb (wa_cons (w_call (wa_cons (wt_at (A := Is K r) (by rfl) ?_))))))))
  repeat walk_at "dl"
  refine c_mk (r, p) ⟨h1, h2⟩ fun A e => ?_
  subst e
  repeat walk_at "dl"
  refine c_reprB ?_
  refine w_cb (wa_cons (w_call (wa_cons (wt_at (A := Is K r) (by rfl) ?_))))
  repeat walk_at "dl"
  refine c_mk (r, p) fit fun A e => ?_
  subst e
  repeat walk_at "dl"
  refine c_reprB (r_neS (is_x ⟨decide_eq_false fun z => z rfl, ?_⟩))
  dsimp only
  have due : ∃ d : Option Part, firstW (patternsM r) p = d := ⟨_, rfl⟩
  refine ss_cut (fun ρ' => ρ' = [.fact isS, .fact (withTab (Is K r) Pt), .fact (Is K (patternsM r)), .fact (Is K p), .fact (Is K (held r.2 p)), .fact (IsL K (partsIn (patternsM r) p)), .no, .fact (Is K (firstW (patternsM r) p)), .no, .no, .no]) (ss_set ?_) ?_
  · refine w_if (wt_test (w_op (w_var (by rfl) (w_nil (r_notNil (le_L (partsIn (patternsM r) p)) ?_)))))
    refine is_x ⟨fun hb => ?_, fun hb => ?_⟩
    · obtain ⟨q, qs, eq⟩ : ∃ q qs, partsIn (patternsM r) p = q :: qs := by
        cases e : partsIn (patternsM r) p with
        | nil => rw [e] at hb; cases hb
        | cons q qs => exact ⟨q, qs, rfl⟩
      have hf : firstW (patternsM r) p = some (minKeyM (q :: qs)) := by
        unfold firstW
        rw [if_neg (by rw [eq]; exact List.cons_ne_nil _ _), eq]
      have hz : (partsIn (patternsM r) p).length ≤ sizeLine := Nat.le_trans (List.length_filter_le _ _) (Nat.le_trans pl (by decide))
      refine w_op (w_cb (wa_cons (w_new (wn_mapT (α := Part) lp (js := [6]) (by decide) (wx_list ?_)))))
      repeat walk_at "dl"
      refine ⟨partsIn (patternsM r) p, le_L _, hz, fun q' _ => ?_, ?_⟩
      · repeat walk_at "dl"
        refine w_tup2 (α := Nat) (β := Part) ?_
        repeat walk_at "dl"
        exact ⟨_, _, ⟨_, _, rfl, Le.refl _, Le.refl _⟩, Le.refl _⟩
      refine wa_nil ?_
      refine c_minL (x := lp q) (xs := qs.map lp) (fun v H h => Le.of_eq (by rw [eq]; rfl) v H (le_L _ v H h)) ?_
      repeat walk_at "dl"
      rw [hf, ← min_key]
      rfl
    · have he : partsIn (patternsM r) p = [] := by
        cases e : partsIn (patternsM r) p with
        | nil => rfl
        | cons a l => rw [e] at hb; cases hb
      have hf : firstW (patternsM r) p = none := by
        unfold firstW
        rw [if_pos he]
      repeat walk_at "dl"
      rw [hf]
      rfl
  rintro ρ' rfl
  refine ss_seq (ss_skip (wt_test (w_op (w_call (wa_cons (w_var (by rfl) ?_))))))
  repeat walk_at "dl"
  refine c_mk (r, p) ⟨h1, sort_ok h1, h2, Nat.le_trans pl (by decide), po⟩ fun A e => ?_
  subst e
  repeat walk_at "dl"
  refine is_x ⟨decide_eq_false fun z => z rfl, ?_⟩
  refine ss_seq (ss_set (w_call (wa_cons (wt_at (A := Is K r) (by rfl) ?_))))
  repeat walk_at "dl"
  refine c_mk (r, p) fit fun A e => ?_
  subst e
  have fl : (rowsForL r.2 p).length = p.length := by unfold rowsForL; rw [List.length_map, List.length_range]
  refine ss_seq (ss_if (wt_test (w_op (w_new (wn_lstL (α := Row) ?_)))))
  repeat walk_at "dl"
  refine ⟨[], trivial, by decide, ?_⟩
  refine w_var (by rfl) ?_
  refine R.le (le_L ([] : List Row)) (le_L (rowsForL r.2 p)) (r_inL ?_)
  refine is_x ⟨fun hb => ?_, fun hb => ?_⟩
  · refine ss_ret ?_
    repeat walk_at "dl"
    have hm := memB_iff.mp hb
    unfold rowsForL at hm
    obtain ⟨i, hi, e⟩ := List.mem_map.mp hm
    have hi := List.mem_range.mp hi
    have e2 : (r.2.filter fun x => contains x (drop1 p i)) = [] := congrArg PL.l e
    have hh : held r.2 (drop1 p i) = false := held_no.mpr fun x hx => by
      rw [← Bool.not_eq_true]
      exact List.filter_eq_nil_iff.mp e2 x hx
    have hp : isPat r.2 p = false := by
      cases z : isPat r.2 p with
      | false => rfl
      | true =>
        obtain ⟨x, xs, q⟩ := isPat_held z hi
        rw [e2] at q
        cases q
    show Is K (!memB p (patternsM r)) = Is K true
    rw [pat_iff h1 h2, hp]
    rfl
  refine ss_next ?_
  have hne : ∀ f ∈ rowsForL r.2 p, f.l ≠ [] := fun f hf z => memB_not.mp hb (by
    have : f = PL.mk [] := by cases f; exact congrArg PL.mk z
    rw [← this]; exact hf)
  refine ss_seq (ss_set ?_)
  repeat walk_at "dl"
  refine w_new (wn_rel (α := PL Row) (β := Row) (js := [10]) (by decide) (wx_list (α := PL Row) ?_))
  repeat walk_at "dl"
  refine ⟨rowsForL r.2 p, le_L _, by rw [fl]; exact Nat.le_trans h2.2.2 (by decide), fun pre ys => ys.length = pre.length ∧ ∀ (i : Nat) (y : Row), ys[i]? = some y → ∃ f, pre[i]? = some f ∧ y ∈ f.l, ⟨rfl, fun i y z => by simp at z⟩, fun pre f ys hf hp _ iv => ?_, fun ys hl iv => ?_⟩
  · repeat walk_at "dl"
    refine ⟨fun _ => ?_, fun z => by cases z⟩
    repeat walk_at "dl"
    refine c_pick (xs := f.l) (Le.refl _) (hne f hf) ?_ fun y hy => ?_
    · have hm := hf
      unfold rowsForL at hm
      obtain ⟨i, hi, e⟩ := List.mem_map.mp hm
      rw [← e]
      exact Nat.le_trans (List.length_filter_le _ _) (Nat.le_trans h1.1.2.2.2.1 (by decide))
    · refine ⟨y, Le.refl _, by rw [List.length_append, List.length_append, iv.1]; rfl, fun i z hz => ?_⟩
      rw [List.getElem?_append] at hz ⊢
      split at hz
      · rename_i hlt
        rw [if_pos (by rw [← iv.1]; exact hlt)]
        exact iv.2 i z hz
      · rename_i hge
        rw [if_neg (by rw [← iv.1]; exact hge), ← iv.1]
        have hi0 : i - ys.length = 0 := by
          rcases Nat.eq_zero_or_pos (i - ys.length) with q | q
          · exact q
          · rw [List.getElem?_eq_none (by simp; omega)] at hz
            cases hz
        rw [hi0] at hz ⊢
        cases hz
        exact ⟨f, rfl, hy⟩
  refine wa_nil (c_tup le_l ?_)
  have yl : ys.length = p.length := by rw [iv.1, fl]
  have yat : ∀ i (hi : i < ys.length), ys[i] ∈ r.2 ∧ contains ys[i] (drop1 p i) = true := fun i hi => by
    obtain ⟨f, hf, hy⟩ := iv.2 i ys[i] (List.getElem?_eq_getElem hi)
    unfold rowsForL at hf
    rw [List.getElem?_map, List.getElem?_range (by rw [← yl]; exact hi)] at hf
    have hf := Option.some.inj hf
    rw [← hf] at hy
    exact List.mem_filter.mp hy
  refine ss_ret (w_op (w_cb (wa_cons (w_call (wa_cons (wt_at (A := Is K r) (by rfl) (wa_cons (w_tup2 (α := Part) (β := List Row) ?_))))))))
  repeat walk_at "dl"
  refine ⟨p, ys, ⟨_, _, rfl, Le.refl _, Le.refl _⟩, ?_⟩
  repeat walk_at "dl"
  refine c_mk (r, p, ys) ⟨h1, h2, fun x hx => ?_, by show ys.length ≤ 1000; rw [yl]; exact h2.2.2⟩ fun A e => ?_
  · obtain ⟨i, hi, e⟩ := List.getElem_of_mem hx
    rw [← e]
    exact h1.1.2.2.1 _ (yat i hi).1
  subst e
  repeat walk_at "dl"
  refine c_reprB ?_
  repeat walk_at "dl"
  refine c_reprB (r_eqS ?_)
  show Is K (decide ((Enc.enc (paperM r p ys)).shown = (Enc.enc (memB p (patternsM r))).shown)) = Is K true
  rw [paper_held yl yat, pat_iff h1 h2, decide_eq_true rfl]
end
end K89
/-! K89v: the law's defs, further. -/
namespace K89
open PySem PySem.Spec PyProof.Rows L2 DL
section
variable {P : Program} {w : World} {K : PySem.W.Frag} {mg : PySem.Str → Option Value} {base : Heap}
local macro_rules | `(tactic| walk_at "dl") => `(tactic| first
  | with_reducible refine ss_ret ?_ | with_reducible refine ss_seq ?_ | with_reducible refine ss_if ?_ | with_reducible refine ss_next ?_ | with_reducible refine ss_retN ?_
  | refine w_var (by rfl) ?_ | with_reducible refine w_lit ?_ | with_reducible refine w_bl ?_ | with_reducible refine w_non ?_ | with_reducible refine w_str ?_ | with_reducible refine w_val ?_
  | with_reducible refine w_op ?_ | with_reducible refine w_cb ?_ | with_reducible refine w_call ?_ | with_reducible refine wa_cons ?_ | with_reducible refine wa_nil ?_
  | with_reducible refine wt_test ?_ | with_reducible refine wt_B ?_ | with_reducible refine wt_not ?_ | with_reducible refine wt_yes ?_ | with_reducible refine wt_and ?_ | with_reducible refine wt_or ?_
  | with_reducible refine w_andV ?_ | with_reducible refine w_orV ?_ | with_reducible refine w_notV ?_ | with_reducible refine w_if ?_ | with_reducible refine w_chain ?_
  | with_reducible refine wo_none ?_ | with_reducible refine wo_some ?_
  | with_reducible refine r_eq ?_ | with_reducible refine r_ne ?_ | with_reducible refine r_lt ?_ | with_reducible refine r_add ?_ | with_reducible refine r_and ?_ | with_reducible refine r_shr ?_ | with_reducible refine r_ltn ?_ | with_reducible refine r_gtn ?_ | with_reducible refine r_len ?_
  | with_reducible refine r_inT ?_ | with_reducible refine r_notInT ?_ | with_reducible refine r_inL ?_
  | with_reducible refine c_lenT ?_ | with_reducible refine c_lenP ?_ | with_reducible refine r_fst ?_ | with_reducible refine r_snd ?_ | with_reducible refine g_name ?_ | with_reducible refine g_pair ?_ | with_reducible refine gs_name ?_ | with_reducible refine gs_nil ?_)
theorem c_reprT {α : Type} [Enc α] [Lay α] {x : α} {𝒜 : Fact → Prop} (ht : ∃ ds, Enc.enc x = .tuple ds) (h : (Enc.enc x).showable = true ∧ (Enc.enc x).shown.length ≤ sizeLine) (k : 𝒜 (Is K (Enc.enc x).shown)) (hd : Lay.d α ≤ 60 := by decide) : C (rReprD K) [Is K x] 𝒜 := c_reprD ht h.1 h.2 k hd
theorem c_intB {b : Bool} {𝒜 : Fact → Prop} (k : 𝒜 (Is K (if b then 1 else 0 : Nat))) : C rIntA [Is K b] 𝒜 := fun vs Hf H Q s as q => by
  obtain ⟨v, rfl, a⟩ := all1 as
  obtain rfl := dp_bl a
  refine .inr ⟨b, rfl, q _ Hf H (Is K (if b then 1 else 0 : Nat)) (Grow.refl s) ?_ k⟩
  cases b <;> exact Dp.int _
theorem r_mulN {n m : Nat} {𝒜 : Fact → Prop} (h : n < 1000000000) (k : 𝒜 (Is K (n * m))) : R (rI CMul fun i j => .int (i * j)) (Is K n) (Is K m) 𝒜 := r_iic (D := Is K (n * m)) (.inl (by omega)) (fun _ => by
  show Dp K _ (.int ((n : Int) * (m : Int))) (.int ((n * m : Nat) : Int))
  rw [Int.natCast_mul]
  exact Dp.int _) k
theorem r_isNotB {a b : Bool} {𝒜 : Fact → Prop} (k : 𝒜 (Is K (!decide (a = b)))) : R rIsNotBl (Is K a) (Is K b) 𝒜 := fun v w Hf H Q s x y q => by
  obtain rfl := dp_bl x
  obtain rfl := dp_bl y
  exact ⟨a, b, rfl, rfl, q _ Hf H (Is K (!decide (a = b))) (Grow.refl s) (Dp.bl _) k⟩
theorem u_negN {n : Nat} {𝒜 : Fact → Prop} (k : 𝒜 (Is K (-(n : Int)))) : U (rU fun i => .int (-i)) (Is K n) 𝒜 := fun v Hf H Q s x q => by
  obtain rfl := dp_int x
  exact ⟨(n : Int), rfl, q _ Hf H (Is K (-(n : Int))) (Grow.refl s) (Dp.int _) k⟩
theorem both_of {r : Rule} (h : OkRule r) {ps : List Part} (e : rowsWithout r.1 ps = r.2) : both r.1 (rowsWithout r.1 ps) = true := by rw [e]; exact h.2
def sp__law_set_right (K : PySem.W.Frag) : Sp := mkSp (fun r : Rule => [isS, Is K r, Is K (patternsM r)]) (fun r => OkRule r) fun _ A => A = Is K true
theorem d__law_set_right {C_InvalidRule : Addr} (T : TF K mg) (h__law_is_held : Has P w K mg base CX0 2 "_law_is_held" ["rule", "partial"] (sp__law_is_held K)) (h__law_mixed : Has P w K mg base CX0 2 "_law_mixed" ["stream", "items"] (sp__law_mixed K)) (h__law_partials : Has P w K mg base CX0 1 "_law_partials" ["size"] (sp__law_partials K)) (h__law_pick : Has P w K mg base CX0 2 "_law_pick" ["stream", "items"] (sp__law_pick K)) (h__law_rows_for : Has P w K mg base CX0 2 "_law_rows_for" ["rule", "partial"] (sp__law_rows_for K)) (h__law_without : Has P w K mg base CX0 2 "_law_without" ["size", "partials"] (sp__law_without K)) (h_gives : Has P w K mg base CX0 7 "gives" ["rule", "partials"] (sp_gives K)) (h_is_pattern_paper : Has P w K mg base CX0 6 "is_pattern_paper" ["rule", "value"] (sp_is_pattern_paper K)) (h_pattern_rows : Has P w K mg base CX0 6 "pattern_rows" ["rule", "pattern"] (sp_pattern_rows K)) (h_patterns : Has P w K mg base CX0 6 "patterns" ["rule"] (sp_patterns K)) (h_rule_of_patterns : Has P w K mg base (L2N.CX P w) 7 "rule_of_patterns" ["size", "partials"] (sp_rule_of_patterns K C_InvalidRule)) : Has P w K mg base CX0 8 "_law_set_right" ["stream", "rule", "told"] (sp__law_set_right K) := by
  obtain ⟨f, fd, F, hm, hb⟩ := T.d__law_set_right
  refine fn_facts F sc__law_set_right hm hb (fun _ => by first | rfl | (split <;> rfl)) fun cdv A outer s H E hr hgd => ?_
  have S := sc__law_set_right
  refine ⟨(tSeq (tPar 3 4 (tCons (tOp (rIx K) (tVar 1) (tC (.int 0))) (tCons (tCB (rReprD K) (tCons (tVar 2) tNil)) tNil))) (tSeq (tAsg (tLc (iList K (tCall (sp__law_partials K) [] E0 (tCons (tVar 3) tNil))) (gName 6) (tNot (tB (tCall (sp__law_is_held K) [] E0 (tCons (tVar 1) (tCons (tVar 6) tNil))))) (tVar 6) [6]) (gName 5)) (tSeq (tAsg (tCB (rTupA K) (tCons (tCall (sp__law_mixed K) [] E0 (tCons (tVar 0) (tCons (tOp rCat (tCB (rListA K) (tCons (tVar 2) tNil)) (tLc (iRng1 (tCons (tOp (rI CMul fun i j => .int (i * j)) (tC (.int 3)) (tCB rIntA (tCons (tOp (rNeD K) (tVar 5) (tLst tNil)) tNil))) tNil)) (gName 8) tYes (tCall (sp__law_pick K) [] E0 (tCons (tVar 0) (tCons (tVar 5) tNil))) [8])) tNil))) tNil)) (gName 7)) (tSeq (tIfS (tOr (tTest (tOp (rNeD K) (tCall (sp_rule_of_patterns K C_InvalidRule) [] E0 (tCons (tVar 3) (tCons (tVar 2) tNil))) (tVar 1))) (tOr (tTest (tOp (rNeD K) (tCall (sp_rule_of_patterns K C_InvalidRule) [] E0 (tCons (tVar 3) (tCons (tVar 7) tNil))) (tVar 1))) (tNot (tB (tCall (sp_gives K) [] E0 (tCons (tVar 1) (tCons (tVar 7) tNil))))))) (tRet (tC (.bl false))) tNext) (tSeq (tFor (iTup K (tVar 2)) (gName 9) (tSeq (tAsg (tCB (rTupA K) (tCons (tLc (iTup K (tVar 2)) (gName 11) (tTest (tOp (rNeD K) (tVar 11) (tVar 9))) (tVar 11) [11]) tNil)) (gName 10)) (tSeq (tIfS (tTest (tOp rNe (tCB (rReprD K) (tCons (tCall (sp_gives K) [] E0 (tCons (tVar 1) (tCons (tVar 10) tNil))) tNil)) (tCB (rReprD K) (tCons (tOp (rEqD K) (tCall (sp__law_without K) [] E0 (tCons (tVar 3) (tCons (tVar 10) tNil))) (tOp (rIx K) (tVar 1) (tC (.int 1)))) tNil)))) (tRet (tC (.bl false))) tNext) (tSeq (tAsg (tCall (sp_pattern_rows K) [] E0 (tCons (tVar 1) (tCons (tVar 9) tNil))) (gName 12)) (tSeq (tIfS (tTest (tOp (rNeD K) (tVar 12) (tCB (rTupA K) (tCons (tLc (iList K (tCall (sp__law_rows_for K) [] E0 (tCons (tVar 1) (tCons (tVar 9) tNil)))) (gName 13) tYes (tOp (rIx K) (tVar 13) (tC (.int 0))) [13]) tNil)))) (tRet (tC (.bl false))) tNext) (tIfS (tOr (tTest (tOp rIsNotBl (tCall (sp_is_pattern_paper K) [] E0 (tCons (tVar 1) (tCons (tTup (tCons (tVar 9) (tCons (tVar 12) tNil))) tNil))) (tC (.bl true)))) (tB (tCall (sp_is_pattern_paper K) [] E0 (tCons (tVar 1) (tCons (tTup (tCons (tVar 9) (tCons (tSl (rSlA K) (tVar 12) tNoPart (tPart (tUn (rU fun i => .int (-i)) (tC (.int 1))))) tNil))) tNil))))) (tRet (tC (.bl false))) tNext)))))) (tRet (tOp rEq (tCB (rReprD K) (tCons (tCall (sp_patterns K) [] E0 (tCons (tVar 1) tNil)) tNil)) (tVar 4)))))))), (pss_cons (ps_par (i := 3) (j := 4) (by rfl) S.nd rfl rfl (by decide) rfl rfl (pa_cons (pe_ix ix_seq (pv 1) pe_int (fun _ _ => rfl)) (pa_cons (pe_callB (cr_reprD hgd hr.units) (by rfl) T.n_repr bt_repr (pa_cons (pv 2) pa_nil)) pa_nil)) (by rfl)) (pss_cons (ps_set (i := 5) S.nd rfl (by first | exact Or.inl rfl | exact Or.inr rfl) (pe_lc (own := [("partial", 6)]) (g := (gName 6)) (tt := (tNot (tB (tCall (sp__law_is_held K) [] E0 (tCons (tVar 1) (tCons (tVar 6) tNil)))))) (te := (tVar 6)) (by rfl) S.nd (pi_list (pc (E := E0) (h__law_partials.mono (by decide)) hr hgd (by rfl) pass0 (pa_cons (pv 3) pa_nil))) (blkOk_by (by rfl)) (fun _ _ _ _ _ => (pg_name (i := 6) S.nd rfl (by first | exact Or.inl rfl | exact Or.inr rfl))) (fun _ _ _ _ _ => pts_one (pt_not (pt_val (pc (E := E0) (h__law_is_held.mono (by decide)) hr hgd (by rfl) pass0 (pa_cons (pv 1) (pa_cons (pv 6) pa_nil)))))) (fun _ _ _ _ _ => (pv 6)))) (pss_cons (ps_set (i := 7) S.nd rfl (by first | exact Or.inl rfl | exact Or.inr rfl) (pe_callTy call_tuple_of (by rfl) T.n_tuple bt_tuple (pa_cons (pc (E := E0) (h__law_mixed.mono (by decide)) hr hgd (by rfl) pass0 (pa_cons (pv 0) (pa_cons (pe_op op_cat (pe_callTy call_list_of (by rfl) T.n_list bt_list (pa_cons (pv 2) pa_nil)) (pe_lc (own := [("turn", 8)]) (g := (gName 8)) (tt := tYes) (te := (tCall (sp__law_pick K) [] E0 (tCons (tVar 0) (tCons (tVar 5) tNil)))) (by rfl) S.nd (pi_range1 (by rfl) T.n_range (pa_cons (pe_op op_mul pe_int (pe_callTy call_int1 (by rfl) T.n_int bt_int (pa_cons (pe_cmpR (op_neD hr.units) (pv 5) (pe_lst pa_nil) (nomark _)) pa_nil))) pa_nil)) (blkOk_by (by rfl)) (fun _ _ _ _ _ => (pg_name (i := 8) S.nd rfl (by first | exact Or.inl rfl | exact Or.inr rfl))) (fun _ _ _ _ _ => pts_nil) (fun _ _ _ _ _ => (pc (E := E0) (h__law_pick.mono (by decide)) hr hgd (by rfl) pass0 (pa_cons (pv 0) (pa_cons (pv 5) pa_nil)))))) pa_nil))) pa_nil))) (pss_cons (ps_if (PW.pt (pw_or (pt_cmpR (op_neD hr.units) (pc (E := E0) (h_rule_of_patterns.mono (by decide)) hr hgd (by rfl) passE0 (pa_cons (pv 3) (pa_cons (pv 2) pa_nil))) (pv 1) (nomark _)) (pw_or (pt_cmpR (op_neD hr.units) (pc (E := E0) (h_rule_of_patterns.mono (by decide)) hr hgd (by rfl) passE0 (pa_cons (pv 3) (pa_cons (pv 7) pa_nil))) (pv 1) (nomark _)) (pw_or1 (pt_not (pt_val (pc (E := E0) (h_gives.mono (by decide)) hr hgd (by rfl) pass0 (pa_cons (pv 1) (pa_cons (pv 7) pa_nil))))))))) (pss_one (ps_ret pe_bl)) pss_nil) (pss_cons (ps_for PassesOwn.never (by rfl) (pi_tup (pv 2)) (pg_name (i := 9) S.nd rfl (by first | exact Or.inl rfl | exact Or.inr rfl)) (pss_cons (ps_set (i := 10) S.nd rfl (by first | exact Or.inl rfl | exact Or.inr rfl) (pe_callTy call_tuple_of (by rfl) T.n_tuple bt_tuple (pa_cons (pe_lc (own := [("other", 11)]) (g := (gName 11)) (tt := (tTest (tOp (rNeD K) (tVar 11) (tVar 9)))) (te := (tVar 11)) (by rfl) S.nd (pi_tup (pv 2)) (blkOk_by (by rfl)) (fun _ _ _ _ _ => (pg_name (i := 11) S.nd rfl (by first | exact Or.inl rfl | exact Or.inr rfl))) (fun _ _ _ _ _ => pts_one (pt_cmpR (op_neD hr.units) (pv 11) (pv 9) (nomark _))) (fun _ _ _ _ _ => (pv 11))) pa_nil))) (pss_cons (ps_if (pt_cmpR op_ne (pe_callB (cr_reprD hgd hr.units) (by rfl) T.n_repr bt_repr (pa_cons (pc (E := E0) (h_gives.mono (by decide)) hr hgd (by rfl) pass0 (pa_cons (pv 1) (pa_cons (pv 10) pa_nil))) pa_nil)) (pe_callB (cr_reprD hgd hr.units) (by rfl) T.n_repr bt_repr (pa_cons (pe_cmpR (op_eqD hr.units) (pc (E := E0) (h__law_without.mono (by decide)) hr hgd (by rfl) pass0 (pa_cons (pv 3) (pa_cons (pv 10) pa_nil))) (pe_ix ix_seq (pv 1) pe_int (fun _ _ => rfl)) (nomark _)) pa_nil)) (nomark _)) (pss_one (ps_ret pe_bl)) pss_nil) (pss_cons (ps_set (i := 12) S.nd rfl (by first | exact Or.inl rfl | exact Or.inr rfl) (pc (E := E0) (h_pattern_rows.mono (by decide)) hr hgd (by rfl) pass0 (pa_cons (pv 1) (pa_cons (pv 9) pa_nil)))) (pss_cons (ps_if (pt_cmpR (op_neD hr.units) (pv 12) (pe_callTy call_tuple_of (by rfl) T.n_tuple bt_tuple (pa_cons (pe_lc (own := [("found", 13)]) (g := (gName 13)) (tt := tYes) (te := (tOp (rIx K) (tVar 13) (tC (.int 0)))) (by rfl) S.nd (pi_list (pc (E := E0) (h__law_rows_for.mono (by decide)) hr hgd (by rfl) pass0 (pa_cons (pv 1) (pa_cons (pv 9) pa_nil)))) (blkOk_by (by rfl)) (fun _ _ _ _ _ => (pg_name (i := 13) S.nd rfl (by first | exact Or.inl rfl | exact Or.inr rfl))) (fun _ _ _ _ _ => pts_nil) (fun _ _ _ _ _ => (pe_ix ix_seq (pv 13) pe_int (fun _ _ => rfl)))) pa_nil)) (nomark _)) (pss_one (ps_ret pe_bl)) pss_nil) (pss_one (ps_if (PW.pt (pw_or (pt_cmpR op_isnot_bl (pc (E := E0) (h_is_pattern_paper.mono (by decide)) hr hgd (by rfl) pass0 (pa_cons (pv 1) (pa_cons (pe_tup (pa_cons (pv 9) (pa_cons (pv 12) pa_nil))) pa_nil))) pe_bl (nomark _)) (pw_or1 (pt_val (pc (E := E0) (h_is_pattern_paper.mono (by decide)) hr hgd (by rfl) pass0 (pa_cons (pv 1) (pa_cons (pe_tup (pa_cons (pv 9) (pa_cons (pe_slice sl_tupA (pv 12) po_none (po_some (pe_un un_neg pe_int))) pa_nil))) pa_nil))))))) (pss_one (ps_ret pe_bl)) pss_nil))))))) (pss_one (ps_ret (pe_cmpR op_eq (pe_callB (cr_reprD hgd hr.units) (by rfl) T.n_repr bt_repr (pa_cons (pc (E := E0) (h_patterns.mono (by decide)) hr hgd (by rfl) pass0 (pa_cons (pv 1) pa_nil)) pa_nil)) (pv 4) (nomark _))))))))), ?_⟩
  rintro r h1
  have h1 : OkRule r := h1
  have pl := plain.len r h1
  have pok := plain.ok r h1
  have hfp : FitPs r.1 (patternsM r) := ⟨h1.1.2.1, pok, Nat.le_trans pl (by decide)⟩
  have shT := pats_shown h1
  refine ss_seq (ss_par ?_)
  repeat walk_at "dl"
  refine c_reprT ⟨_, rfl⟩ shT ?_
  repeat walk_at "dl"
  refine ⟨_, _, rfl, ?_⟩
  dsimp only
  have hbl : ((sortM (partsOf r.1)).filter fun p => !held r.2 p).length ≤ 2187 := by
    refine Nat.le_trans (List.length_filter_le _ _) ?_
    rw [(sortM_perm _).length_eq]
    exact parts_le h1.1.2.1
  have bar : ∀ p ∈ (sortM (partsOf r.1)).filter (fun p => !held r.2 p), OkPart r.1 p ∧ held r.2 p = false := fun p hp => by
    obtain ⟨a, b⟩ := List.mem_filter.mp hp
    rw [(sortM_perm _).mem_iff] at a
    rw [Bool.not_eq_true'] at b
    exact ⟨mem_okPart (by have := h1.1.2.1; omega) a, b⟩
  refine ss_cut (fun ρ' => ρ' = [.fact isS, .fact (Is K r), .fact (Is K (patternsM r)), .fact (Is K r.1), .fact (Is K (Enc.enc (patternsM r)).shown), .fact (IsL K ((sortM (partsOf r.1)).filter fun p => !held r.2 p)), .no, .no, .no, .no, .no, .no, .no, .no]) (ss_set ?_) ?_
  · refine w_new (wn_comp (α := Part) (fun p : Part => !held r.2 p) (fun p => p) (js := [6]) (by decide) (wx_list (α := Part) ?_))
    repeat walk_at "dl"
    refine c_mk r.1 h1.1.2.1 fun A e => ?_
    subst e
    refine ⟨_, le_L _, ?_, fun p hp => ?_, ?_⟩
    · rw [(sortM_perm _).length_eq]
      exact Nat.le_trans (parts_le h1.1.2.1) (by decide)
    · rw [(sortM_perm _).mem_iff] at hp
      repeat walk_at "dl"
      refine c_mk (r, p) (okRule_fit h1 (mem_okPart (n := r.1) (by have := h1.1.2.1; omega) hp)) fun A e => ?_
      subst e
      refine is_x ⟨rfl, fun _ => ?_⟩
      repeat walk_at "dl"
      exact Le.refl _
    · rw [List.map_id']
      rfl
  rintro ρ' rfl
  refine ss_cut (fun ρ' => ∃ more : List Part, FitPs r.1 more ∧ (∀ p ∈ more, held r.2 p = false) ∧ (∀ p ∈ patternsM r, p ∈ more) ∧ ρ' = [.fact isS, .fact (Is K r), .fact (Is K (patternsM r)), .fact (Is K r.1), .fact (Is K (Enc.enc (patternsM r)).shown), .fact (IsL K ((sortM (partsOf r.1)).filter fun p => !held r.2 p)), .no, .fact (Is K more), .no, .no, .no, .no, .no, .no]) (ss_set ?_) ?_
  · refine w_cb (wa_cons (w_call (wa_cons (w_var (by rfl) (wa_cons (w_new (wn_op (w_new (wn_cb (wa_cons (w_var (by rfl) (wa_nil (cn_listT ?_))))))))))))) 
    refine w_new (wn_rel (α := Nat) (β := Part) (js := [8]) (by decide) (wx_range ?_))
    refine wa_cons (w_op (w_lit (n := 3) (w_cb (wa_cons (w_op (w_var (by rfl) (w_nil (r_notNil (le_L ((sortM (partsOf r.1)).filter fun p => !held r.2 p)) (wa_nil (c_intB (r_mulN (by decide) ?_)))))))))))
    repeat walk_at "dl"
    refine ⟨_, _, rfl, Le.refl _, Nat.le_trans (by split <;> decide : _ ≤ 3) (by decide), fun pre ys => ys.length = pre.length ∧ ∀ p ∈ ys, p ∈ (sortM (partsOf r.1)).filter (fun p => !held r.2 p), ⟨rfl, fun _ z => by cases z⟩, fun pre x ys hx hp _ iv => ?_, fun ys hl iv => ?_⟩
    · have hb : (sortM (partsOf r.1)).filter (fun p => !held r.2 p) ≠ [] := fun z => by
        rw [z] at hx
        simp at hx
      repeat walk_at "dl"
      refine ⟨fun _ => ?_, fun z => by cases z⟩
      repeat walk_at "dl"
      refine c_pick (le_L _) hb (Nat.le_trans hbl (by decide)) fun y hy => ⟨y, Le.refl _, by rw [List.length_append, List.length_append, iv.1]; rfl, fun q hq => ?_⟩
      rcases List.mem_append.mp hq with z | z
      · exact iv.2 q z
      · rw [List.mem_singleton.mp z]; exact hy
    have yl : ys.length ≤ 3 := Nat.le_trans hl (by rw [List.length_range]; split <;> decide)
    refine rn_cat ?_ ?_
    · rw [List.length_map, List.length_map]
      exact Nat.le_trans (Nat.add_le_add pl yl) (by decide)
    repeat walk_at "dl"
    rw [← List.map_append]
    refine c_mixed (le_L _) (by rw [List.length_append]; omega) fun zs pm => ?_
    repeat walk_at "dl"
    have mz : ∀ p ∈ zs, p ∈ patternsM r ∨ p ∈ ys := fun p hp => List.mem_append.mp (pm.mem_iff.mp hp)
    refine c_tup le_l ⟨zs, ⟨h1.1.2.1, fun p hp => ?_, ?_⟩, fun p hp => ?_, fun p hp => pm.mem_iff.mpr (List.mem_append_left _ hp), rfl⟩
    · rcases mz p hp with z | z
      · exact pok p z
      · exact (bar p (iv.2 p z)).1
    · rw [pm.length_eq, List.length_append]
      omega
    · rcases mz p hp with z | z
      · exact pat_notHeld (pat_of h1 z).1
      · exact (bar p (iv.2 p z)).2
  rintro ρ' ⟨more, hm1, hm2, hm3, rfl⟩
  have e1 : rowsWithout r.1 (patternsM r) = r.2 := without_pats h1
  have e2 : rowsWithout r.1 more = r.2 := without_eq h1 hm2 hm3
  have er : ∀ ps : List Part, rowsWithout r.1 ps = r.2 → ruleE r.1 ps = r := fun ps e => by
    unfold ruleE
    rw [e]
  refine ss_seq (ss_skip (wt_or (wt_test ?_)))
  repeat walk_at "dl"
  refine c_mkE (r.1, patternsM r) ⟨h1.1.1, hfp⟩ (fun z => by rw [both_of h1 e1] at z; cases z) fun A ⟨_, e⟩ => ?_
  subst e
  rw [er _ e1]
  repeat walk_at "dl"
  refine is_x ⟨fun z => absurd rfl (of_decide_eq_true z), fun _ => ?_⟩
  refine wt_or (wt_test ?_)
  repeat walk_at "dl"
  refine c_mkE (r.1, more) ⟨h1.1.1, hm1⟩ (fun z => by rw [both_of h1 e2] at z; cases z) fun A ⟨_, e⟩ => ?_
  subst e
  rw [er _ e2]
  repeat walk_at "dl"
  refine is_x ⟨fun z => absurd rfl (of_decide_eq_true z), fun _ => ?_⟩
  repeat walk_at "dl"
  refine c_mk (r, more) ⟨h1, hm1⟩ fun A e => ?_
  subst e
  refine is_x ⟨by show (!decide (rowsWithout r.1 more = r.2)) = false; rw [e2, decide_eq_true rfl]; rfl, ?_⟩
  dsimp only
  refine ss_seq (ss_forT (α := Part) (js := [9]) (wx_tup (α := Part) ?_))
  repeat walk_at "dl"
  refine ⟨patternsM r, Le.refl _, Nat.le_trans pl (by decide), fun pre ρ' => ∃ s9 s10 s11 s12 s13, ρ' = [.fact isS, .fact (Is K r), .fact (Is K (patternsM r)), .fact (Is K r.1), .fact (Is K (Enc.enc (patternsM r)).shown), .fact (IsL K ((sortM (partsOf r.1)).filter fun p => !held r.2 p)), .no, .fact (Is K more), .no, s9, s10, s11, s12, s13], ⟨_, _, _, _, _, rfl⟩, ?_, ?_⟩
  · rintro pre p ρ' hp _ ⟨s9, s10, s11, s12, s13, rfl⟩
    obtain ⟨hpat, hpok⟩ := pat_of h1 hp
    repeat walk_at "dl"
    have hfr : FitPs r.1 ((patternsM r).filter fun q => decide (q ≠ p)) := ⟨hfp.1, fun q hq => pok q (List.mem_filter.mp hq).1, Nat.le_trans (List.length_filter_le _ _) hfp.2.2⟩
    refine ss_set (w_cb (wa_cons (w_new (wn_comp (α := Part) (fun q : Part => decide (q ≠ p)) (fun q => q) (js := [11]) (by decide) (wx_tup (α := Part) ?_)))))
    repeat walk_at "dl"
    refine ⟨patternsM r, Le.refl _, Nat.le_trans pl (by decide), fun q hq => ?_, ?_⟩
    · repeat walk_at "dl"
      refine is_x ⟨rfl, fun _ => ?_⟩
      repeat walk_at "dl"
      exact Le.refl _
    rw [List.map_id']
    refine wa_nil (c_tup le_l ?_)
    refine ss_seq (ss_skip (wt_test ?_))
    repeat walk_at "dl"
    refine c_mk (r, (patternsM r).filter fun q => decide (q ≠ p)) ⟨h1, hfr⟩ fun A e => ?_
    subst e
    repeat walk_at "dl"
    refine c_reprB ?_
    repeat walk_at "dl"
    refine c_mk (r.1, (patternsM r).filter fun q => decide (q ≠ p)) hfr fun A e => ?_
    subst e
    repeat walk_at "dl"
    refine c_reprB (r_neS (is_x ⟨decide_eq_false fun z => z rfl, ?_⟩))
    refine ss_seq (ss_set ?_)
    repeat walk_at "dl"
    refine c_mk (r, p) ⟨h1, hpok, hpat⟩ fun A e => ?_
    subst e
    refine ss_seq (ss_skip (wt_test (w_op (w_var (by rfl) (w_cb (wa_cons (w_new (wn_mapT (α := PL Row) (fun f : PL Row => f.l.headD []) (js := [13]) (by decide) (wx_list (α := PL Row) ?_)))))))))
    repeat walk_at "dl"
    refine c_mk (r, p) (okRule_fit h1 hpok) fun A e => ?_
    subst e
    refine ⟨_, le_L _, ?_, fun f hf => ?_, ?_⟩
    · unfold rowsForL
      rw [List.length_map, List.length_range]
      exact Nat.le_trans hpok.2.2 (by decide)
    · repeat walk_at "dl"
      have hm := hf
      unfold rowsForL at hm
      obtain ⟨i, hi, e⟩ := List.mem_map.mp hm
      obtain ⟨x, xs, ex⟩ := isPat_held hpat (List.mem_range.mp hi)
      have e2 : f.l = x :: xs := by rw [← e]; exact ex
      refine r_ixD (i := 0) (d := Enc.enc x) (ds := f.l.map Enc.enc) (Le.refl _) (by rw [e2]; rfl) ?_
      rw [e2]
      exact Le.refl _
    refine wa_nil (c_tup le_l ?_)
    have ef : (rowsForL r.2 p).map (fun f : PL Row => f.l.headD []) = rowsFor r.2 p := by
      unfold rowsForL rowsFor
      rw [List.map_map]
      rfl
    have ef2 : isD K (.tuple (((rowsForL (r, p).1.2 (r, p).2).map fun f : PL Row => f.l.headD []).map Enc.enc)) = Is K (rowsFor r.2 p) := by
      rw [ef]
      rfl
    rw [ef2]
    refine r_ne (is_x ⟨decide_eq_false fun z => z rfl, ?_⟩)
    have okr : ∀ x ∈ rowsFor r.2 p, OkRow r.1 x := fun x hx => by
      obtain ⟨i, hi, e⟩ := List.getElem_of_mem hx
      rw [← e]
      exact h1.1.2.2.1 _ (rowsFor_at hpat i hi).1
    refine ss_skip (wt_or (wt_test (w_op (w_call (wa_cons (w_var (by rfl) (wa_cons (w_tup2 (α := Part) (β := List Row) ?_))))))))
    repeat walk_at "dl"
    refine ⟨p, rowsFor r.2 p, ⟨_, _, rfl, Le.refl _, Le.refl _⟩, ?_⟩
    repeat walk_at "dl"
    refine c_mk (r, p, rowsFor r.2 p) ⟨h1, hpok, okr, by show (rowsFor r.2 p).length ≤ 1000; rw [rowsFor_len]; exact hpok.2.2⟩ fun A e => ?_
    subst e
    repeat walk_at "dl"
    refine r_isNotB ?_
    refine is_x ⟨fun z => ?_, fun _ => ?_⟩
    · have e3 : paperM r p (rowsFor r.2 p) = true := paper_for hpat
      have z : (!decide (paperM r p (rowsFor r.2 p) = true)) = true := z
      rw [e3] at z
      cases z
    refine wt_B (w_call (wa_cons (w_var (by rfl) (wa_cons (w_tup2 (α := Part) (β := List Row) ?_)))))
    refine wa_cons (w_var (by rfl) (wa_cons (w_slT (α := Row) (fun _ _ _ _ _ z => z) ?_)))
    repeat walk_at "dl"
    refine w_un ?_
    repeat walk_at "dl"
    refine u_negN ⟨_, Le.refl _, ?_⟩
    refine ⟨rowsFor r.2 p, Le.refl _, ?_⟩
    rw [show (-((1 : Nat) : Int)) = -1 from rfl, cut_last]
    repeat walk_at "dl"
    refine ⟨p, (rowsFor r.2 p).dropLast, ⟨_, _, rfl, Le.refl _, Le.refl _⟩, ?_⟩
    repeat walk_at "dl"
    refine c_mk (r, p, (rowsFor r.2 p).dropLast) ⟨h1, hpok, fun x hx => okr x (List.dropLast_subset _ hx), by show (rowsFor r.2 p).dropLast.length ≤ 1000; rw [List.length_dropLast, rowsFor_len]; have := hpok.2.2; omega⟩ fun A e => ?_
    subst e
    refine is_x ⟨paper_short ?_, ⟨_, _, _, _, _, rfl⟩⟩
    rw [List.length_dropLast, rowsFor_len]
    have : p.length ≠ 0 := fun z => pat_ne h1 hpat (List.eq_nil_of_length_eq_zero z)
    show p.length - 1 ≠ p.length
    omega
  · rintro ρ' ⟨s9, s10, s11, s12, s13, rfl⟩
    refine ss_ret ?_
    repeat walk_at "dl"
    refine c_mk r ⟨h1, sort_ok h1⟩ fun A e => ?_
    subst e
    repeat walk_at "dl"
    refine c_reprT ⟨_, rfl⟩ shT ?_
    repeat walk_at "dl"
    refine r_eqS ?_
    show Is K (decide (_ = _)) = Is K true
    rw [decide_eq_true rfl]
end
end K89
/-! K89w: the law's defs, further. -/
namespace K89
open PySem PySem.Spec PyProof.Rows L2 DL
section
variable {P : Program} {w : World} {K : PySem.W.Frag} {mg : PySem.Str → Option Value} {base : Heap}
local macro_rules | `(tactic| walk_at "dl") => `(tactic| first
  | with_reducible refine ss_ret ?_ | with_reducible refine ss_seq ?_ | with_reducible refine ss_if ?_ | with_reducible refine ss_next ?_ | with_reducible refine ss_retN ?_
  | refine w_var (by rfl) ?_ | with_reducible refine w_lit ?_ | with_reducible refine w_bl ?_ | with_reducible refine w_non ?_ | with_reducible refine w_str ?_ | with_reducible refine w_val ?_
  | with_reducible refine w_op ?_ | with_reducible refine w_cb ?_ | with_reducible refine w_call ?_ | with_reducible refine wa_cons ?_ | with_reducible refine wa_nil ?_
  | with_reducible refine wt_test ?_ | with_reducible refine wt_B ?_ | with_reducible refine wt_not ?_ | with_reducible refine wt_yes ?_ | with_reducible refine wt_and ?_ | with_reducible refine wt_or ?_
  | with_reducible refine w_andV ?_ | with_reducible refine w_orV ?_ | with_reducible refine w_notV ?_ | with_reducible refine w_if ?_ | with_reducible refine w_chain ?_
  | with_reducible refine wo_none ?_ | with_reducible refine wo_some ?_
  | with_reducible refine r_eq ?_ | with_reducible refine r_ne ?_ | with_reducible refine r_lt ?_ | with_reducible refine r_add ?_ | with_reducible refine r_and ?_ | with_reducible refine r_shr ?_ | with_reducible refine r_ltn ?_ | with_reducible refine r_gtn ?_ | with_reducible refine r_len ?_
  | with_reducible refine r_inT ?_ | with_reducible refine r_notInT ?_ | with_reducible refine r_inL ?_
  | with_reducible refine c_lenT ?_ | with_reducible refine c_lenP ?_ | with_reducible refine r_fst ?_ | with_reducible refine r_snd ?_ | with_reducible refine g_name ?_ | with_reducible refine g_pair ?_ | with_reducible refine gs_name ?_ | with_reducible refine gs_nil ?_)
def sp__law_right (K : PySem.W.Frag) (Pt : Addr) : Sp := mkSp (fun t : Rule × List Part => [isS, withTab (Is K t.1) Pt, Is K (PL.mk t.2)]) (fun t => OkRule t.1 ∧ (∀ p ∈ t.2, OkPart t.1.1 p) ∧ t.2.length ≤ 10000) fun _ A => A = Is K true
theorem d__law_right {Pt : Addr} (T : TF K mg) (h__law_is_pattern : Has P w K mg base CX0 3 "_law_is_pattern" ["rule", "partial"] (sp__law_is_pattern K)) (h__law_partial_right : Has P w K mg base CX0 7 "_law_partial_right" ["stream", "rule", "told", "partial"] (sp__law_partial_right K Pt)) (h__law_partials : Has P w K mg base CX0 1 "_law_partials" ["size"] (sp__law_partials K)) (h__law_set_right : Has P w K mg base CX0 8 "_law_set_right" ["stream", "rule", "told"] (sp__law_set_right K)) (h_patterns : Has P w K mg base CX0 6 "patterns" ["rule"] (sp_patterns K)) : Has P w K mg base CX0 9 "_law_right" ["stream", "rule", "partials"] (sp__law_right K Pt) := by
  obtain ⟨f, fd, F, hm, hb⟩ := T.d__law_right
  refine fn_facts F sc__law_right hm hb (fun _ => by first | rfl | (split <;> rfl)) fun cdv A outer s H E hr hgd => ?_
  have S := sc__law_right
  refine ⟨(tSeq (tPar 3 4 (tCons (tCall (sp_patterns K) [] E0 (tCons (tVar 1) tNil)) (tCons (tCB (rReprD K) (tCons (tVar 1) tNil)) tNil))) (tSeq (tIfS (tTest (tOp (rNeD K) (tCB (rListA K) (tCons (tVar 3) tNil)) (tLc (iList K (tCall (sp__law_partials K) [] E0 (tCons (tOp (rIx K) (tVar 1) (tC (.int 0))) tNil))) (gName 5) (tB (tCall (sp__law_is_pattern K) [] E0 (tCons (tVar 1) (tCons (tVar 5) tNil)))) (tVar 5) [5]))) (tRet (tC (.bl false))) tNext) (tSeq (tFor (iList K (tVar 2)) (gName 5) (tIfS (tNot (tB (tCall (sp__law_partial_right K Pt) [] E0 (tCons (tVar 0) (tCons (tVar 1) (tCons (tVar 3) (tCons (tVar 5) tNil))))))) (tRet (tC (.bl false))) tNext)) (tRet (tAndV (tCall (sp__law_set_right K) [] E0 (tCons (tVar 0) (tCons (tVar 1) (tCons (tVar 3) tNil)))) (tOp rEq (tCB (rReprD K) (tCons (tVar 1) tNil)) (tVar 4))))))), (pss_cons (ps_par (i := 3) (j := 4) (by rfl) S.nd rfl rfl (by decide) rfl rfl (pa_cons (pc (E := E0) (h_patterns.mono (by decide)) hr hgd (by rfl) pass0 (pa_cons (pv 1) pa_nil)) (pa_cons (pe_callB (cr_reprD hgd hr.units) (by rfl) T.n_repr bt_repr (pa_cons (pv 1) pa_nil)) pa_nil)) (by rfl)) (pss_cons (ps_if (pt_cmpR (op_neD hr.units) (pe_callTy call_list_of (by rfl) T.n_list bt_list (pa_cons (pv 3) pa_nil)) (pe_lc (own := [("partial", 5)]) (g := (gName 5)) (tt := (tB (tCall (sp__law_is_pattern K) [] E0 (tCons (tVar 1) (tCons (tVar 5) tNil))))) (te := (tVar 5)) (by rfl) S.nd (pi_list (pc (E := E0) (h__law_partials.mono (by decide)) hr hgd (by rfl) pass0 (pa_cons (pe_ix ix_seq (pv 1) pe_int (fun _ _ => rfl)) pa_nil))) (blkOk_by (by rfl)) (fun _ _ _ _ _ => (pg_name (i := 5) S.nd rfl (by first | exact Or.inl rfl | exact Or.inr rfl))) (fun _ _ _ _ _ => pts_one (pt_val (pc (E := E0) (h__law_is_pattern.mono (by decide)) hr hgd (by rfl) pass0 (pa_cons (pv 1) (pa_cons (pv 5) pa_nil))))) (fun _ _ _ _ _ => (pv 5))) (nomark _)) (pss_one (ps_ret pe_bl)) pss_nil) (pss_cons (ps_for PassesOwn.never (by rfl) (pi_list (pv 2)) (pg_name (i := 5) S.nd rfl (by first | exact Or.inl rfl | exact Or.inr rfl)) (pss_one (ps_if (pt_not (pt_val (pc (E := E0) (h__law_partial_right.mono (by decide)) hr hgd (by rfl) pass0 (pa_cons (pv 0) (pa_cons (pv 1) (pa_cons (pv 3) (pa_cons (pv 5) pa_nil))))))) (pss_one (ps_ret pe_bl)) pss_nil))) (pss_one (ps_ret (pe_and (pc (E := E0) (h__law_set_right.mono (by decide)) hr hgd (by rfl) pass0 (pa_cons (pv 0) (pa_cons (pv 1) (pa_cons (pv 3) pa_nil)))) (pe_one (pe_cmpR op_eq (pe_callB (cr_reprD hgd hr.units) (by rfl) T.n_repr bt_repr (pa_cons (pv 1) pa_nil)) (pv 4) (nomark _))))))))), ?_⟩
  rintro ⟨r, ps⟩ ⟨h1, h2, h3⟩
  dsimp only at h1 h2 h3
  have pl := plain.len r h1
  have shR := rule_shown h1
  refine ss_seq (ss_par (wa_cons (w_call (wa_cons (wt_at (A := Is K r) (by rfl) (wa_nil ?_))))))
  refine c_mk r ⟨h1, sort_ok h1⟩ fun A e => ?_
  subst e
  refine wa_cons (w_cb (wa_cons (wt_at (A := Is K r) (by rfl) (wa_nil (c_reprT ⟨_, rfl⟩ shR ?_)))))
  repeat walk_at "dl"
  refine ⟨_, _, rfl, ?_⟩
  dsimp only
  refine ss_seq (ss_skip (wt_test (w_op (w_new (wn_cb (wa_cons (w_var (by rfl) (wa_nil (cn_listT ?_)))))))))
  refine w_new (wn_comp (α := Part) (fun p : Part => isPat r.2 p) (fun p => p) (js := [5]) (by decide) (wx_list (α := Part) ?_))
  refine w_call (wa_cons (w_op (wt_at (A := Is K r) (by rfl) (w_lit (n := 0) (r_fst (wa_nil ?_))))))
  refine c_mk r.1 h1.1.2.1 fun A e => ?_
  subst e
  refine ⟨_, le_L _, ?_, fun p hp => ?_, ?_⟩
  · rw [(sortM_perm _).length_eq]
    exact Nat.le_trans (parts_le h1.1.2.1) (by decide)
  · rw [(sortM_perm _).mem_iff] at hp
    refine g_name (wt_B (w_call (wa_cons (wt_at (A := Is K r) (by rfl) ?_))))
    repeat walk_at "dl"
    refine c_mk (r, p) (okRule_fit h1 (mem_okPart (n := r.1) (by have := h1.1.2.1; omega) hp)) fun A e => ?_
    subst e
    refine is_x ⟨rfl, fun _ => ?_⟩
    repeat walk_at "dl"
    exact Le.refl _
  rw [List.map_id', ← pats_eq h1.1.2.2.1]
  refine R.le (le_L (patternsM r)) (le_L (patternsM r)) (r_ne (α := PL Part) (is_x ⟨decide_eq_false fun z => z rfl, ?_⟩))
  refine ss_seq (ss_forT (α := Part) (js := [5]) (wx_list (α := Part) ?_))
  repeat walk_at "dl"
  refine ⟨ps, Le.refl _, Nat.le_trans h3 (by decide), fun pre ρ' => ∃ s5, ρ' = [.fact isS, .fact (withTab (Is K r) Pt), .fact (Is K (PL.mk ps)), .fact (Is K (patternsM r)), .fact (Is K (Enc.enc r).shown), s5], ⟨_, rfl⟩, ?_, ?_⟩
  · rintro pre p ρ' hp _ ⟨s5, rfl⟩
    refine g_name (ss_skip (wt_not ?_))
    repeat walk_at "dl"
    refine c_mk (r, p) ⟨h1, h2 p hp⟩ fun A e => ?_
    subst e
    refine is_x ⟨rfl, ⟨_, rfl⟩⟩
  · rintro ρ' ⟨s5, rfl⟩
    refine ss_ret (w_andV (w_call (wa_cons (w_var (by rfl) (wa_cons (wt_at (A := Is K r) (by rfl) ?_))))))
    repeat walk_at "dl"
    refine c_mk r h1 fun A e => ?_
    subst e
    refine is_x ⟨fun _ => ?_, fun z => by cases z⟩
    refine w_op (w_cb (wa_cons (wt_at (A := Is K r) (by rfl) (wa_nil (c_reprT ⟨_, rfl⟩ shR ?_)))))
    repeat walk_at "dl"
    refine r_eqS ?_
    show Is K (decide (_ = _)) = Is K true
    rw [decide_eq_true rfl]
end
end K89
/-! K89x: the law's defs, further. -/
namespace K89
open PySem PySem.Spec PyProof.Rows L2 DL
section
variable {P : Program} {w : World} {K : PySem.W.Frag} {mg : PySem.Str → Option Value} {base : Heap}
local macro_rules | `(tactic| walk_at "dl") => `(tactic| first
  | with_reducible refine ss_ret ?_ | with_reducible refine ss_seq ?_ | with_reducible refine ss_if ?_ | with_reducible refine ss_next ?_ | with_reducible refine ss_retN ?_
  | refine w_var (by rfl) ?_ | with_reducible refine w_lit ?_ | with_reducible refine w_bl ?_ | with_reducible refine w_non ?_ | with_reducible refine w_str ?_ | with_reducible refine w_val ?_
  | with_reducible refine w_op ?_ | with_reducible refine w_cb ?_ | with_reducible refine w_call ?_ | with_reducible refine wa_cons ?_ | with_reducible refine wa_nil ?_
  | with_reducible refine wt_test ?_ | with_reducible refine wt_B ?_ | with_reducible refine wt_not ?_ | with_reducible refine wt_yes ?_ | with_reducible refine wt_and ?_ | with_reducible refine wt_or ?_
  | with_reducible refine w_andV ?_ | with_reducible refine w_orV ?_ | with_reducible refine w_notV ?_ | with_reducible refine w_if ?_ | with_reducible refine w_chain ?_
  | with_reducible refine wo_none ?_ | with_reducible refine wo_some ?_
  | with_reducible refine r_eq ?_ | with_reducible refine r_ne ?_ | with_reducible refine r_lt ?_ | with_reducible refine r_add ?_ | with_reducible refine r_and ?_ | with_reducible refine r_shr ?_ | with_reducible refine r_ltn ?_ | with_reducible refine r_gtn ?_ | with_reducible refine r_len ?_
  | with_reducible refine r_inT ?_ | with_reducible refine r_notInT ?_ | with_reducible refine r_inL ?_
  | with_reducible refine c_lenT ?_ | with_reducible refine c_lenP ?_ | with_reducible refine r_fst ?_ | with_reducible refine r_snd ?_ | with_reducible refine g_name ?_ | with_reducible refine g_pair ?_ | with_reducible refine gs_name ?_ | with_reducible refine gs_nil ?_)
theorem r_isB {a b : Bool} {𝒜 : Fact → Prop} (k : 𝒜 (Is K (decide (a = b)))) : R rIsBl (Is K a) (Is K b) 𝒜 := fun v w Hf H Q s x y q => by
  obtain rfl := dp_bl x
  obtain rfl := dp_bl y
  exact ⟨a, b, rfl, rfl, q _ Hf H (Is K (decide (a = b))) (Grow.refl s) (Dp.bl _) k⟩
theorem plain_pair (x : Nat × Nat) : (Enc.enc x).plain = true := by
  show (PyData.tuple [.int x.1, .int x.2]).plain = true
  rw [PyData.plain, PyData.plainAll, PyData.plainAll, PyData.plainAll, PyData.plain, PyData.plain]
  rfl
theorem plain_pairs : ∀ xs : List (Nat × Nat), PyData.plainAll (xs.map Enc.enc) = true
  | [] => by rw [List.map_nil, PyData.plainAll]
  | x :: xs => by rw [List.map_cons, PyData.plainAll, plain_pair, plain_pairs xs]; rfl
def sp_law (K : PySem.W.Frag) (Pt : Addr) : Sp := mkSp (fun ns : List Int => [withTab (Is K (PL.mk ns)) Pt]) (fun ns => ns.length ≤ 63) fun _ A => A = Is K true
theorem d_law {Pt : Addr} {C_InvalidRule : Addr} (T : TF K mg) (h__law_draw : Has P w K mg base CX0 1 "_law_draw" ["stream", "total"] (sp__law_draw K)) (h__law_given_right : Has P w K mg base CX0 8 "_law_given_right" ["stream", "size"] (sp__law_given_right K)) (h__law_partial : Has P w K mg base CX0 3 "_law_partial" ["stream", "size", "most"] (sp__law_partial K)) (h__law_partials : Has P w K mg base CX0 1 "_law_partials" ["size"] (sp__law_partials K)) (h__law_right : Has P w K mg base CX0 9 "_law_right" ["stream", "rule", "partials"] (sp__law_right K Pt)) (h__law_rows : Has P w K mg base CX0 1 "_law_rows" ["size"] (sp__law_rows K)) (h__law_rule : Has P w K mg base CX0 5 "_law_rule" ["stream", "size"] (sp__law_rule K)) (h__law_stream : Has P w K mg base CX0 1 "_law_stream" ["script", "at"] (sp__law_stream K)) (h_gives : Has P w K mg base CX0 7 "gives" ["rule", "partials"] (sp_gives K)) (h_patterns : Has P w K mg base CX0 6 "patterns" ["rule"] (sp_patterns K)) (h_rule_of_patterns : Has P w K mg base (L2N.CX P w) 7 "rule_of_patterns" ["size", "partials"] (sp_rule_of_patterns K C_InvalidRule)) : Has P w K mg base CX0 10 "law" ["script"] (sp_law K Pt) := by
  obtain ⟨f, fd, F, hm, hb⟩ := T.d_law
  refine fn_facts F sc_law hm hb (fun _ => by first | rfl | (split <;> rfl)) fun cdv A outer s H E hr hgd => ?_
  have S := sc_law
  refine ⟨(tSeq (tFor (iRng1 (tCons (tCB rMaxA (tCons (tC (.int 1)) (tCons (tCB rMinA (tCons (tC (.int 5)) (tCons (tCB (rLenA K) (tCons (tVar 0) tNil)) tNil))) tNil))) tNil)) (gName 1) (tSeq (tAsg (tCall (sp__law_stream K) [] E0 (tCons (tVar 0) (tCons (tVar 1) tNil))) (gName 2)) (tSeq (tAsg (tCall (sp__law_rule K) [] E0 (tCons (tVar 2) (tCons (tOp (rI0 fun i j => .int (i + j)) (tC (.int 1)) (tCall (sp__law_draw K) [] E0 (tCons (tVar 2) (tCons (tC (.int 4)) tNil)))) tNil))) (gName 3)) (tSeq (tIfS (tNot (tB (tCall (sp__law_right K Pt) [] E0 (tCons (tVar 2) (tCons (tVar 3) (tCons (tCall (sp__law_partials K) [] E0 (tCons (tOp (rIx K) (tVar 3) (tC (.int 0))) tNil)) tNil)))))) (tRet (tC (.bl false))) tNext) (tFor (iRng1 (tCons (tC (.int 3)) tNil)) (gName 4) (tIfS (tNot (tB (tCall (sp__law_given_right K) [] E0 (tCons (tVar 2) (tCons (tOp (rI0 fun i j => .int (i + j)) (tC (.int 1)) (tCall (sp__law_draw K) [] E0 (tCons (tVar 2) (tCons (tC (.int 4)) tNil)))) tNil))))) (tRet (tC (.bl false))) tNext)))))) (tSeq (tAsg (tCall (sp__law_stream K) [] E0 (tCons (tVar 0) (tCons (tC (.int 0)) tNil))) (gName 2)) (tSeq (tAsg (tCall (sp__law_rule K) [] E0 (tCons (tVar 2) (tCons (tC (.int 5)) tNil))) (gName 3)) (tSeq (tIfS (tNot (tB (tCall (sp__law_right K Pt) [] E0 (tCons (tVar 2) (tCons (tVar 3) (tCons (tLc (iRng1 (tCons (tC (.int 20)) tNil)) (gName 4) tYes (tCall (sp__law_partial K) [] E0 (tCons (tVar 2) (tCons (tC (.int 5)) (tCons (tC (.int 5)) tNil)))) [4]) tNil)))))) (tRet (tC (.bl false))) tNext) (tSeq (tAsg (tTup (tCons (tC (.int 7)) (tCons (tCB (rTupA K) (tCons (tLc (iList K (tCall (sp__law_rows K) [] E0 (tCons (tC (.int 7)) tNil))) (gName 5) (tTest (tOp (rEqD K) (tCB (rSumT K) (tCons (tVar 5) tNil)) (tC (.int 2)))) (tVar 5) [5]) tNil)) tNil))) (gName 3)) (tSeq (tAsg (tCall (sp_patterns K) [] E0 (tCons (tVar 3) tNil)) (gName 6)) (tSeq (tAsg (tLc (iTup K (tVar 6)) (gName 8) tYes (tTup (tCons (tCB (rLenA K) (tCons (tVar 8) tNil)) (tCons (tOp (rIx K) (tOp (rIx K) (tVar 8) (tC (.int 0))) (tC (.int 1))) tNil))) [8]) (gName 7)) (tSeq (tIfS (tTest (tOp (rNeD K) (tLst (tCons (tBM K "list" (rCountD K) (tVar 7) (tCons (tTup (tCons (tC (.int 3)) (tCons (tC (.int 1)) tNil))) tNil)) (tCons (tBM K "list" (rCountD K) (tVar 7) (tCons (tTup (tCons (tC (.int 6)) (tCons (tC (.int 0)) tNil))) tNil)) (tCons (tCB (rLenA K) (tCons (tVar 7) tNil)) tNil)))) (tLst (tCons (tC (.int 35)) (tCons (tC (.int 7)) (tCons (tC (.int 42)) tNil)))))) (tRet (tC (.bl false))) tNext) (tRet (tAndV (tOp (rEqD K) (tCall (sp_rule_of_patterns K C_InvalidRule) [] E0 (tCons (tC (.int 7)) (tCons (tRevT K (tVar 6)) tNil))) (tVar 3)) (tOp rIsBl (tCall (sp_gives K) [] E0 (tCons (tVar 3) (tCons (tSl (rSlA K) (tVar 6) (tPart (tC (.int 1))) tNoPart) tNil))) (tC (.bl false))))))))))))), (pss_cons (ps_for PassesOwn.never (by rfl) (pi_range1 (by rfl) T.n_range (pa_cons (pe_callB (call_max2 (by rfl)) (by rfl) T.n_max bt_max (pa_cons pe_int (pa_cons (pe_callB (call_min2 (by rfl)) (by rfl) T.n_min bt_min (pa_cons pe_int (pa_cons (pe_callB call_len_seq (by rfl) T.n_len bt_len (pa_cons (pv 0) pa_nil)) pa_nil))) pa_nil))) pa_nil)) (pg_name (i := 1) S.nd rfl (by first | exact Or.inl rfl | exact Or.inr rfl)) (pss_cons (ps_set (i := 2) S.nd rfl (by first | exact Or.inl rfl | exact Or.inr rfl) (pc (E := E0) (h__law_stream.mono (by decide)) hr hgd (by rfl) pass0 (pa_cons (pv 0) (pa_cons (pv 1) pa_nil)))) (pss_cons (ps_set (i := 3) S.nd rfl (by first | exact Or.inl rfl | exact Or.inr rfl) (pc (E := E0) (h__law_rule.mono (by decide)) hr hgd (by rfl) pass0 (pa_cons (pv 2) (pa_cons (pe_op op_add pe_int (pc (E := E0) (h__law_draw.mono (by decide)) hr hgd (by rfl) pass0 (pa_cons (pv 2) (pa_cons pe_int pa_nil)))) pa_nil)))) (pss_cons (ps_if (pt_not (pt_val (pc (E := E0) (h__law_right.mono (by decide)) hr hgd (by rfl) pass0 (pa_cons (pv 2) (pa_cons (pv 3) (pa_cons (pc (E := E0) (h__law_partials.mono (by decide)) hr hgd (by rfl) pass0 (pa_cons (pe_ix ix_seq (pv 3) pe_int (fun _ _ => rfl)) pa_nil)) pa_nil)))))) (pss_one (ps_ret pe_bl)) pss_nil) (pss_one (ps_for PassesOwn.never (by rfl) (pi_range1 (by rfl) T.n_range (pa_cons pe_int pa_nil)) (pg_name (i := 4) S.nd rfl (by first | exact Or.inl rfl | exact Or.inr rfl)) (pss_one (ps_if (pt_not (pt_val (pc (E := E0) (h__law_given_right.mono (by decide)) hr hgd (by rfl) pass0 (pa_cons (pv 2) (pa_cons (pe_op op_add pe_int (pc (E := E0) (h__law_draw.mono (by decide)) hr hgd (by rfl) pass0 (pa_cons (pv 2) (pa_cons pe_int pa_nil)))) pa_nil))))) (pss_one (ps_ret pe_bl)) pss_nil)))))))) (pss_cons (ps_set (i := 2) S.nd rfl (by first | exact Or.inl rfl | exact Or.inr rfl) (pc (E := E0) (h__law_stream.mono (by decide)) hr hgd (by rfl) pass0 (pa_cons (pv 0) (pa_cons pe_int pa_nil)))) (pss_cons (ps_set (i := 3) S.nd rfl (by first | exact Or.inl rfl | exact Or.inr rfl) (pc (E := E0) (h__law_rule.mono (by decide)) hr hgd (by rfl) pass0 (pa_cons (pv 2) (pa_cons pe_int pa_nil)))) (pss_cons (ps_if (pt_not (pt_val (pc (E := E0) (h__law_right.mono (by decide)) hr hgd (by rfl) pass0 (pa_cons (pv 2) (pa_cons (pv 3) (pa_cons (pe_lc (own := [("turn", 4)]) (g := (gName 4)) (tt := tYes) (te := (tCall (sp__law_partial K) [] E0 (tCons (tVar 2) (tCons (tC (.int 5)) (tCons (tC (.int 5)) tNil))))) (by rfl) S.nd (pi_range1 (by rfl) T.n_range (pa_cons pe_int pa_nil)) (blkOk_by (by rfl)) (fun _ _ _ _ _ => (pg_name (i := 4) S.nd rfl (by first | exact Or.inl rfl | exact Or.inr rfl))) (fun _ _ _ _ _ => pts_nil) (fun _ _ _ _ _ => (pc (E := E0) (h__law_partial.mono (by decide)) hr hgd (by rfl) pass0 (pa_cons (pv 2) (pa_cons pe_int (pa_cons pe_int pa_nil)))))) pa_nil)))))) (pss_one (ps_ret pe_bl)) pss_nil) (pss_cons (ps_set (i := 3) S.nd rfl (by first | exact Or.inl rfl | exact Or.inr rfl) (pe_tup (pa_cons pe_int (pa_cons (pe_callTy call_tuple_of (by rfl) T.n_tuple bt_tuple (pa_cons (pe_lc (own := [("row", 5)]) (g := (gName 5)) (tt := (tTest (tOp (rEqD K) (tCB (rSumT K) (tCons (tVar 5) tNil)) (tC (.int 2))))) (te := (tVar 5)) (by rfl) S.nd (pi_list (pc (E := E0) (h__law_rows.mono (by decide)) hr hgd (by rfl) pass0 (pa_cons pe_int pa_nil))) (blkOk_by (by rfl)) (fun _ _ _ _ _ => (pg_name (i := 5) S.nd rfl (by first | exact Or.inl rfl | exact Or.inr rfl))) (fun _ _ _ _ _ => pts_one (pt_cmpR (op_eqD hr.units) (pe_callB (cr_sumT (by rfl)) (by rfl) T.n_sum bt_sum (pa_cons (pv 5) pa_nil)) pe_int (nomark _))) (fun _ _ _ _ _ => (pv 5))) pa_nil)) pa_nil)))) (pss_cons (ps_set (i := 6) S.nd rfl (by first | exact Or.inl rfl | exact Or.inr rfl) (pc (E := E0) (h_patterns.mono (by decide)) hr hgd (by rfl) pass0 (pa_cons (pv 3) pa_nil))) (pss_cons (ps_setLc (i := 7) (own := [("pattern", 8)]) (g := (gName 8)) (tt := tYes) (te := (tTup (tCons (tCB (rLenA K) (tCons (tVar 8) tNil)) (tCons (tOp (rIx K) (tOp (rIx K) (tVar 8) (tC (.int 0))) (tC (.int 1))) tNil)))) (by rfl) S.nd rfl rfl (sw_true rfl rfl rfl (by rfl)) (pi_tup (pv 6)) (blkOk_by (by rfl)) (fun _ _ _ _ _ => (pg_name (i := 8) S.nd rfl (by first | exact Or.inl rfl | exact Or.inr rfl))) (fun _ _ _ _ _ => pts_nil) (fun _ _ _ _ _ => (pe_tup (pa_cons (pe_callB call_len_seq (by rfl) T.n_len bt_len (pa_cons (pv 8) pa_nil)) (pa_cons (pe_ix ix_seq (pe_ix ix_seq (pv 8) pe_int (fun _ _ => rfl)) pe_int (fun _ _ => rfl)) pa_nil))))) (pss_cons (ps_if (pt_cmpR (op_neD hr.units) (pe_lst (pa_cons (pe_bm PySem.F.plainAttrs_list PySem.F.slot_list_count PySem.F.type_list_count (mt_countD hr.units) (pv 7) (pa_cons (pe_tup (pa_cons pe_int (pa_cons pe_int pa_nil))) pa_nil)) (pa_cons (pe_bm PySem.F.plainAttrs_list PySem.F.slot_list_count PySem.F.type_list_count (mt_countD hr.units) (pv 7) (pa_cons (pe_tup (pa_cons pe_int (pa_cons pe_int pa_nil))) pa_nil)) (pa_cons (pe_callB call_len_seq (by rfl) T.n_len bt_len (pa_cons (pv 7) pa_nil)) pa_nil)))) (pe_lst (pa_cons pe_int (pa_cons pe_int (pa_cons pe_int pa_nil)))) (nomark _)) (pss_one (ps_ret pe_bl)) pss_nil) (pss_one (ps_ret (pe_and (pe_cmpR (op_eqD hr.units) (pc (E := E0) (h_rule_of_patterns.mono (by decide)) hr hgd (by rfl) passE0 (pa_cons pe_int (pa_cons (pe_revT (pv 6)) pa_nil))) (pv 3) (nomark _)) (pe_one (pe_cmpR op_is_bl (pc (E := E0) (h_gives.mono (by decide)) hr hgd (by rfl) pass0 (pa_cons (pv 3) (pa_cons (pe_slice sl_tupA (pv 6) (po_some pe_int) po_none) pa_nil))) pe_bl (nomark _)))))))))))))), ?_⟩
  rintro ns h63
  have h63 : ns.length ≤ 63 := h63
  have six : ∀ {a : Nat}, a ≤ 1000000 → a ≤ sizeLine := fun h => Nat.le_trans h (by decide)
  refine ss_cut (fun ρ' => ∃ s1 s2 s3 s4, ρ' = [.fact (withTab (Is K (PL.mk ns)) Pt), s1, s2, s3, s4, .no, .no, .no, .no]) (ss_forT (α := Nat) (js := [1]) (wx_range ?_)) ?_
  · refine wa_cons (w_cb (wa_cons (w_lit (n := 1) (wa_cons (w_cb (wa_cons (w_lit (n := 5) (wa_cons (w_cb (wa_cons (wt_at (A := Is K (PL.mk ns)) (by rfl) (wa_nil (c_lenL (Le.refl _) (wa_nil (c_min (wa_nil (c_max (wa_nil ?_))))))))))))))))))
    refine ⟨_, (max (1 : Int) (min (5 : Int) (ns.length : Int))).toNat, rfl, Le.of_eq ?_, six (by omega), fun pre ρ' => ∃ s1 s2 s3 s4, ρ' = [.fact (withTab (Is K (PL.mk ns)) Pt), s1, s2, s3, s4, .no, .no, .no, .no], ⟨_, _, _, _, rfl⟩, ?_, ?_⟩
    · show isD K (.int (max (1 : Int) (min (5 : Int) (ns.length : Int)))) = isD K (.int (((max (1 : Int) (min (5 : Int) (ns.length : Int))).toNat : Nat) : Int))
      rw [Int.toNat_of_nonneg (by omega)]
    · rintro pre a ρ' ha _ ⟨s1, s2, s3, s4, rfl⟩
      have ha := List.mem_range.mp ha
      refine g_name (ss_seq (ss_set (w_call (wa_cons (wt_at (A := Is K (PL.mk ns)) (by rfl) ?_)))))
      repeat walk_at "dl"
      refine c_mk (PL.mk ns, a) ⟨by show ns.length ≤ 10000000; omega, by show a ≤ 1000; omega⟩ fun A e => ?_
      subst e
      refine ss_seq (ss_set (w_wt (P := Pt) (i := 0) (B := Is K (PL.mk ns)) (by rfl) ?_))
      repeat walk_at "dl"
      refine c_draw (n := 4) ⟨by decide, by decide⟩ fun d hd => ?_
      repeat walk_at "dl"
      refine c_mk (1 + d) ⟨by omega, by omega⟩ fun A ⟨rows, h1, hl, e⟩ => ?_
      subst e
      refine ss_seq (ss_skip (wt_not ?_))
      refine wt_B (w_call (wa_cons (w_var (by rfl) (wa_cons (w_var (by rfl) (wa_cons (w_call (wa_cons (w_op (wt_at (A := Is K ((1 + d, rows) : Rule)) (by rfl) (w_lit (n := 0) (r_fst (wa_nil ?_)))))))))))))
      refine c_mk (1 + d) (by show 1 + d ≤ 7; omega) fun A e => ?_
      subst e
      refine wa_nil ?_
      refine C.le3 (le_L _) (c_mk ((1 + d, rows), sortM (partsOf (1 + d))) ⟨h1, fun p hp => ?_, ?_⟩ fun A e => ?_)
      · exact mem_okPart (by show 1 + d ≤ 1000; omega) ((sortM_perm _).mem_iff.mp hp)
      · show (sortM (partsOf (1 + d))).length ≤ 10000
        rw [(sortM_perm _).length_eq]
        exact Nat.le_trans (parts_le (by omega)) (by decide)
      subst e
      refine is_x ⟨rfl, ?_⟩
      refine ss_forT (α := Nat) (js := [4]) (wx_range ?_)
      repeat walk_at "dl"
      refine ⟨_, 3, rfl, Le.refl _, by decide, fun pre ρ' => ∃ s4, ρ' = [.fact (withTab (Is K (PL.mk ns)) Pt), .fact (Is K a), .fact isS, .fact (withTab (Is K ((1 + d, rows) : Rule)) Pt), s4, .no, .no, .no, .no], ⟨_, rfl⟩, ?_, ?_⟩
      · rintro pre x ρ' hx _ ⟨s4, rfl⟩
        refine g_name (ss_skip (wt_not ?_))
        repeat walk_at "dl"
        refine c_draw (n := 4) ⟨by decide, by decide⟩ fun d2 hd2 => ?_
        repeat walk_at "dl"
        refine c_mk (1 + d2) ⟨by omega, by omega⟩ fun A e => ?_
        subst e
        exact is_x ⟨rfl, ⟨_, rfl⟩⟩
      · rintro ρ' ⟨s4, rfl⟩
        exact ⟨_, _, _, _, rfl⟩
    · exact fun ρ' h => h
  rintro ρ' ⟨s1, s2, s3, s4, rfl⟩
  refine ss_seq (ss_set (w_call (wa_cons (wt_at (A := Is K (PL.mk ns)) (by rfl) ?_))))
  repeat walk_at "dl"
  refine c_mk (PL.mk ns, 0) ⟨by show ns.length ≤ 10000000; omega, by show 0 ≤ 1000; omega⟩ fun A e => ?_
  subst e
  refine ss_seq (ss_set (w_wt (P := Pt) (i := 0) (B := Is K (PL.mk ns)) (by rfl) ?_))
  repeat walk_at "dl"
  refine c_mk 5 ⟨by omega, by omega⟩ fun A ⟨rows, h1, hl, e⟩ => ?_
  subst e
  refine ss_seq (ss_skip (wt_not ?_))
  refine wt_B (w_call (wa_cons (w_var (by rfl) (wa_cons (w_var (by rfl) (wa_cons (w_new (wn_rel (α := Nat) (β := Part) (js := [4]) (by decide) (wx_range ?_)))))))))
  repeat walk_at "dl"
  refine ⟨_, 20, rfl, Le.refl _, by decide, fun pre ys => ys.length = pre.length ∧ ∀ p ∈ ys, OkPart 5 p, ⟨rfl, fun _ z => by cases z⟩, fun pre x ys hx hp _ iv => ?_, fun ys hl2 iv => ?_⟩
  · repeat walk_at "dl"
    refine ⟨fun _ => ?_, fun z => by cases z⟩
    repeat walk_at "dl"
    refine c_mk (5, 5) ⟨by show 5 ≤ 7; omega, by show 5 ≤ 1000; omega⟩ fun A ⟨p, hp, _, e⟩ => ?_
    subst e
    refine ⟨p, Le.refl _, by rw [List.length_append, List.length_append, iv.1]; rfl, fun q hq => ?_⟩
    rcases List.mem_append.mp hq with z | z
    · exact iv.2 q z
    · rw [List.mem_singleton.mp z]; exact hp
  rw [List.length_range] at hl2
  refine wa_nil (C.le3 (le_L _) (c_mk ((5, rows), ys) ⟨h1, iv.2, by show ys.length ≤ 10000; omega⟩ fun A e => ?_))
  subst e
  refine is_x ⟨rfl, ?_⟩
  have l7 : (rowsOf 7).length ≤ 128 := rows_len (by decide)
  refine ss_seq (ss_set (w_tup2 (α := Nat) (β := List Row) ?_))
  refine wa_cons (w_lit (n := 7) (wa_cons (w_cb (wa_cons (w_new (wn_comp (α := Row) (fun x : Row => decide (x.sum = 2)) (fun x => x) (js := [5]) (by decide) (wx_list (α := Row) ?_)))))))
  repeat walk_at "dl"
  refine c_mk 7 (by decide) fun A e => ?_
  subst e
  refine ⟨_, le_L _, six (by omega), fun x hx => ?_, ?_⟩
  · repeat walk_at "dl"
    refine c_sumT ?_
    repeat walk_at "dl"
    refine is_x ⟨rfl, fun _ => ?_⟩
    repeat walk_at "dl"
    exact Le.refl _
  rw [List.map_id', r7_eq]
  refine wa_nil (c_tup le_l (wa_nil ⟨7, R7L, ⟨_, _, rfl, Le.refl _, Le.refl _⟩, ?_⟩))
  have plR := plain.len R7 r7_ok
  refine ss_seq (ss_set ?_)
  repeat walk_at "dl"
  refine c_mk R7 ⟨r7_ok, sort_ok r7_ok⟩ fun A e => ?_
  subst e
  refine ss_cut (fun ρ' => ∃ s1 s2 s4, ρ' = [.fact (withTab (Is K (PL.mk ns)) Pt), s1, s2, .fact (Is K R7), s4, .no, .fact (Is K (patternsM R7)), .fact (IsL K ((patternsM R7).map kind7)), .no]) (ss_set ?_) ?_
  · refine w_new (wn_mapT (α := Part) kind7 (js := [8]) (by decide) (wx_tup (α := Part) ?_))
    repeat walk_at "dl"
    refine ⟨patternsM R7, Le.refl _, Nat.le_trans plR (by decide), fun q hq => ?_, ⟨_, _, _, rfl⟩⟩
    have hne := pat_ne r7_ok (pat_of r7_ok hq).1
    obtain ⟨l, q', rfl⟩ : ∃ l q', q = l :: q' := by
      cases q with
      | nil => exact absurd rfl hne
      | cons l q' => exact ⟨l, q', rfl⟩
    repeat walk_at "dl"
    refine w_tup2 (α := Nat) (β := Nat) ?_
    repeat walk_at "dl"
    refine r_ixT (i := 0) (x := l) rfl ?_
    repeat walk_at "dl"
    exact ⟨_, _, ⟨_, _, rfl, Le.refl _, Le.refl _⟩, Le.refl _⟩
  rintro ρ' ⟨s1, s2, s4, rfl⟩
  refine ss_seq (ss_skip (wt_test (w_op (w_new (wn_lstL (α := Nat) ?_)))))
  refine wa_cons (w_count (α := Nat × Nat) (w_var (by rfl) ⟨_, Le.refl _, wa_cons (w_tup2 (α := Nat) (β := Nat) ?_)⟩))
  repeat walk_at "dl"
  refine ⟨3, 1, ⟨_, _, rfl, Le.refl _, Le.refl _⟩, wa_nil ⟨_, (3, 1), rfl, Le.refl _, plain_pairs _, plain_pair _, ?_⟩⟩
  refine wa_cons (w_count (α := Nat × Nat) (w_var (by rfl) ⟨_, Le.refl _, wa_cons (w_tup2 (α := Nat) (β := Nat) ?_)⟩))
  repeat walk_at "dl"
  refine ⟨6, 0, ⟨_, _, rfl, Le.refl _, Le.refl _⟩, wa_nil ⟨_, (6, 0), rfl, Le.refl _, plain_pairs _, plain_pair _, ?_⟩⟩
  refine wa_cons (w_cb (wa_cons (w_var (by rfl) (wa_nil (c_lenL (le_L ((patternsM R7).map kind7)) (wa_nil ?_))))))
  refine ⟨[_, _, _], ⟨Le.refl _, Le.refl _, Le.refl _, trivial⟩, by show 3 ≤ 1000; decide, ?_⟩
  rw [kinds7]
  refine w_new (wn_lstL (α := Nat) ?_)
  repeat walk_at "dl"
  refine ⟨[35, 7, 42], ⟨Le.refl _, Le.refl _, Le.refl _, trivial⟩, by show 3 ≤ 1000; decide, ?_⟩
  refine R.le (le_L ([35, 7, 42] : List Nat)) (le_L ([35, 7, 42] : List Nat)) (r_ne (α := PL Nat) (is_x ⟨decide_eq_false fun z => z rfl, ?_⟩))
  have pok := plain.ok R7 r7_ok
  have e1 : rowsWithout 7 (patternsM R7).reverse = R7L := without_eq r7_ok (fun p hp => pat_notHeld (pat_of r7_ok (List.mem_reverse.mp hp)).1) fun p hp => List.mem_reverse.mpr hp
  refine ss_ret (w_andV ?_)
  repeat walk_at "dl"
  refine w_revT (α := Part) ?_
  repeat walk_at "dl"
  refine ⟨patternsM R7, Le.refl _, ?_⟩
  repeat walk_at "dl"
  refine c_mkE (7, (patternsM R7).reverse) ⟨by decide, by decide, fun p hp => pok p (List.mem_reverse.mp hp), by show (patternsM R7).reverse.length ≤ 10000; rw [List.length_reverse]; omega⟩ (fun z => ?_) fun A ⟨_, e⟩ => ?_
  · have z : both 7 (rowsWithout 7 (patternsM R7).reverse) = false := z
    rw [e1] at z
    have h2 : both 7 R7L = true := r7_ok.2
    rw [h2] at z
    cases z
  subst e
  have er : ruleE 7 (patternsM R7).reverse = R7 := by
    unfold ruleE
    rw [e1]
    rfl
  rw [er]
  repeat walk_at "dl"
  refine is_x ⟨fun _ => ?_, fun z => absurd rfl (of_decide_eq_false z)⟩
  refine w_op (w_call (wa_cons (w_var (by rfl) (wa_cons (w_slT (α := Part) (fun _ _ _ _ _ z => z) ?_)))))
  repeat walk_at "dl"
  refine ⟨((1 : Nat) : Int), Le.refl _, ?_⟩
  repeat walk_at "dl"
  refine ⟨patternsM R7, Le.refl _, ?_⟩
  rw [cut_from]
  repeat walk_at "dl"
  refine c_mk (R7, (patternsM R7).drop 1) ⟨r7_ok, by decide, fun p hp => pok p (List.mem_of_mem_drop hp), by show ((patternsM R7).drop 1).length ≤ 10000; rw [List.length_drop]; omega⟩ fun A e => ?_
  subst e
  repeat walk_at "dl"
  refine r_isB ?_
  show Is K (decide (decide (rowsWithout 7 ((patternsM R7).drop 1) = R7L) = false)) = Is K true
  rw [decide_eq_false not7]
  rfl
end
end K89
/-! DLend: the law's call, its promise being one that holds where nothing is being shown (Fn); one table of one code object is tracked. -/
namespace DL
open PySem PySem.Spec PyProof.Rows L2
section
variable {P : Program} {w : World} {K : PySem.W.Frag} {mg mb : Str → Option Value}
/-- what is tracked at the start: the table, the script where the written part does not tell it -/
def startHp (K : PySem.W.Frag) (a Pt : Addr) (ob : Obj) (us : List V) : Hp := fun b => if b = Pt then some (.tbl #[]) else if b = a ∧ K.lookup a = none then some (.frz ob (.lst us)) else none
variable {a Pt : Addr} {ob : Obj} {us : List V}
theorem startHp_tab : startHp K a Pt ob us Pt = some (.tbl #[]) := if_pos rfl
theorem startHp_cases {b : Addr} {u : HO} (h : startHp K a Pt ob us b = some u) : (b = Pt ∧ u = .tbl #[]) ∨ (b = a ∧ K.lookup a = none ∧ u = .frz ob (.lst us)) := by
  unfold startHp at h
  split at h
  · rename_i e
    exact .inl ⟨e, (Option.some.inj h).symm⟩
  · split at h
    · rename_i e
      exact .inr ⟨e.1, e.2, (Option.some.inj h).symm⟩
    · cases h
theorem startHp_none {b : Addr} (h1 : b ≠ Pt) (h2 : b ≠ a) : startHp K a Pt ob us b = none := by
  cases e : startHp K a Pt ob us b with
  | none => rfl
  | some u =>
    rcases startHp_cases e with z | z
    · exact absurd z.1 h1
    · exact absurd z.1 h2
theorem law_callF {k : Nat} {fa c : Addr} {x y : Str} {sp : Sp} {s₁ : Shared} {vs : List Value} {ns : List Int} (KX : K.In s₁.heap) (gns : s₁.heap.Ns mainGlobals mg) (bns : s₁.heap.Ns builtinsNs mb) (blt : ∀ x : Str, x ≠ "__name__" → mb x = bootBuiltins x) (lim : s₁.heap.NoLimit) (gens : s₁.gens = #[])
    (hT : s₁.heap.get? Pt = some { cls := .none, data := .fields #[] }) (nT : K.lookup Pt = none) (C : PySem.W.CodeHd s₁.heap c Pt)
    (main : ∃ (bm : Addr) (ob : Obj), mg "__builtins__" = some (.ref bm) ∧ bm ≠ builtinsNs ∧ s₁.heap.get? bm = some ob ∧ ob.cls = .type "module" ∧ ob.dict = some builtinsNs ∧ ob.data = .plain)
    (ha : s₁.heap.get? a = some { cls := .type "list", data := .seq vs.toArray }) (hi : IntsAre vs ns) (hl : ns.length ≤ sizeLine) (hr : Room k callerA)
    (hm : mg x = some (.ref fa)) (F : ∀ base : Heap, K.In base → base.Ns mainGlobals mg → LamX.TabB base mg c Pt → Has P w K mg base CX0 k x [y] sp)
    (hsp : ∀ H : Hp, H Pt = some (.tbl #[]) → SqL K H a (ns.map V.int) → sp [.ref a] H (fun v _ => v = .bl true) E0) :
    codeAny (model P w) callerA (.call (.ref fa) ⟨[.ref a], []⟩) (fun r s' => r = .ok (.ret (.bool true)) ∧ OldK s₁.heap s'.heap ∧ s'.os = s₁.os ∧ AllBare s'.gens) s₁ := by
  have rv := vals_ints hi
  have len := hi.length
  have aP : a ≠ Pt := fun z => by
    rw [z, hT] at ha
    have := congrArg Obj.data (Option.some.inj ha)
    cases this
  let H0 : Hp := startHp K a Pt { cls := .type "list", data := .seq vs.toArray } (ns.map V.int)
  have tab0 : H0 Pt = some (.tbl #[]) := startHp_tab
  -- the script is read
  have seq0 : SqL K H0 a (ns.map V.int) := by
    cases e : K.lookup a with
    | none =>
      refine .inl (.inr ⟨{ cls := .type "list", data := .seq vs.toArray }, ?_⟩)
      show (if a = Pt then _ else if a = a ∧ K.lookup a = none then _ else _) = _
      rw [if_neg aP, if_pos ⟨rfl, e⟩]
    | some o =>
      have := KX a o e
      rw [ha] at this
      cases this
      exact .inr ⟨_, vs.toArray, _, e, rfl, rfl, rfl, by rw [List.size_toArray, len]; exact hl, by simpa using rv⟩
  have ok0 : HOk P w H0 s₁.heap := fun b u e => by
    rcases startHp_cases e with ⟨rfl, rfl⟩ | ⟨rfl, _, rfl⟩
    · exact hT
    · exact ⟨ha, by rw [List.length_map]; exact hl, vs, _, rv, ha⟩
  -- everything else is in the ground
  have dat : ∀ {b : Addr} {o : Obj}, s₁.heap.get? b = some o → (∀ xs n, o.data ≠ .seq xs n) → o.data ≠ .fields #[] → H0 b = none := fun {b o} e h1 h2 => by
    refine startHp_none (fun z => ?_) fun z => ?_
    · rw [z, hT] at e
      cases e
      exact h2 rfl
    · rw [z, ha] at e
      cases e
      exact h1 _ _ rfl
  have names : ∀ {b : Addr} {m : Str → Option Value}, s₁.heap.Ns b m → (hidT s₁.heap H0).Ns b m := fun {b m} ⟨o, es, ep, e, d, r⟩ =>
    ⟨o, es, ep, hidT_get e (dat e (fun _ _ z => by rw [d] at z; cases z) fun z => by rw [d] at z; cases z), d, r⟩
  have KB : K.In (hidT s₁.heap H0) := fun b o e => by
    refine hidT_get (KX b o e) ?_
    cases q : H0 b with
    | none => rfl
    | some u =>
      exfalso
      rcases startHp_cases q with ⟨rfl, _⟩ | ⟨rfl, n, _⟩
      · rw [nT] at e
        cases e
      · rw [n] at e
        cases e
  have M : L2.Mod K mg (hidT s₁.heap H0) := ⟨KB, names gns, ⟨mb, names bns, blt⟩, let ⟨mc, h1, h2⟩ := lim; ⟨mc, names h1, h2⟩⟩
  have noG : ∀ {b : Addr} {o : Obj}, s₁.heap.get? b = some o → (∀ es ep, o.data ≠ .dict es ep) → mainGlobals ≠ b := fun {b o} e h z => by
    obtain ⟨o', es, ep, e', d, _⟩ := gns
    rw [z, e] at e'
    cases e'
    exact h es ep d
  have TB : LamX.TabB (hidT s₁.heap H0) mg c Pt := by
    refine ⟨?_, ?_, noG hT fun es ep z => by cases z⟩
    · obtain ⟨o, ws, file, tf, flags, tg, inF, text, tt, e1, r1, r2, r3, r4⟩ := C
      refine ⟨o, ws, file, tf, flags, tg, inF, text, tt, hidT_get e1 (dat e1 (fun _ _ z => by rw [r2] at z; cases z) fun z => ?_), r1, r2, r3, r4⟩
      rw [r2] at z
      cases z
      simp at r3
    · obtain ⟨bm, o, b1, b2, b3, b4, b5, b6⟩ := main
      refine ⟨bm, o, b1, b2, (noG b3 fun es ep z => by rw [b6] at z; cases z).symm, fun z => ?_, hidT_get b3 (dat b3 (fun _ _ z => by rw [b6] at z; cases z) fun z => by rw [b6] at z; cases z), b4, b5, b6⟩
      rw [z, hT] at b3
      cases b3
      cases b6
  have e0 : Env0 P w K mg (hidT s₁.heap H0) callerA [] s₁ H0 := ⟨rfl, M, fun b o e => of_hidT e, Nat.le_of_eq (hidT_size _ _), trivial, fun b hb => (nomatch hb), ok0, .of_eq gens⟩
  obtain ⟨f, fd, Fd, hm', _, hb⟩ := (F _ KB (names gns) TB).ex
  rw [hm] at hm'
  cases hm'
  refine codeAny_mono (Fd.run callerA [] s₁ H0 ⟨[.ref a], []⟩ [.ref a] [.ref a] _ _ hr rfl e0 (hb s₁ [.ref a] KX rfl) (.cons rfl .nil) (hsp H0 tab0 seq0)) fun r s' h => ?_
  cases r with
  | error e => exact h.elim
  | ok fl =>
    cases fl with
    | next => exact h.elim
    | brk => exact h.elim
    | cont => exact h.elim
    | ret u =>
      obtain ⟨v, H', os, bare, un, ok', r', q⟩ := h
      have q : v = .bl true := q
      subst q
      obtain rfl : u = Value.bool true := r'
      obtain ⟨more, hm⟩ := un.tbls Pt #[] tab0
      have tab' := ok' Pt _ hm
      rw [Array.empty_append] at tab'
      have tab' : s'.heap.get? Pt = some { cls := .none, data := .fields more } := tab'
      have key : ∀ b o, b ≠ Pt → s₁.heap.get? b = some o → s'.heap.get? b = some o := fun b o nb e => by
        cases z : H0 b with
        | none => exact un.keep b o e z (by simp [frs]) (by simp)
        | some u =>
          rcases startHp_cases z with y | ⟨_, _, y⟩
          · exact absurd y.1 nb
          · rw [y] at z
            have e1 := (ok0 b _ z).1
            have e2 := (ok' b _ (un.frzs b _ _ z)).1
            rw [e] at e1
            cases e1
            exact e2
      refine ⟨rfl, ⟨fun b o e => ?_, fun b o e => ?_⟩, os, bare⟩
      · by_cases hb : b = Pt
        · rw [hb] at e ⊢
          rw [hT] at e
          cases e
          exact .inr (.inl ⟨(C.tab hT).isCodeTable, rfl, #[], more, rfl, by rw [Array.empty_append]; exact tab'⟩)
        · exact .inl (key b o hb e)
      · by_cases hb : b = Pt
        · rw [hb]
          exact ⟨_, tab'⟩
        · exact ⟨o, key b o hb e⟩
end
end DL
/-! K89y: the law's defs, further. -/
namespace K89
open PySem PySem.Spec PyProof.Rows L2 DL
section
variable {P : Program} {w : World} {K : PySem.W.Frag} {mg : PySem.Str → Option Value} {base : Heap}
theorem law_has {Pt c C_InvalidRule : Addr} (T : TF K mg) (L : LamT K mg base Pt c) (X : ExcK K mg "InvalidRule" C_InvalidRule) (hx : PySem.W.exmOne K (.ref C_InvalidRule) (.ref C_InvalidRule) = some true) : Has P w K mg base CX0 10 "law" ["script"] (sp_law K Pt) := by
  have h__law_draw : Has P w K mg base CX0 1 "_law_draw" ["stream", "total"] (sp__law_draw K) := d__law_draw T
  have h__law_is_part : Has P w K mg base CX0 1 "_law_is_part" ["partial", "other"] (sp__law_is_part K) := d__law_is_part T
  have h__law_is_rule : Has P w K mg base CX0 1 "_law_is_rule" ["size", "rows"] (sp__law_is_rule K) := d__law_is_rule T
  have h__law_mixed : Has P w K mg base CX0 2 "_law_mixed" ["stream", "items"] (sp__law_mixed K) := d__law_mixed T h__law_draw
  have h__law_partial : Has P w K mg base CX0 3 "_law_partial" ["stream", "size", "most"] (sp__law_partial K) := d__law_partial T h__law_draw h__law_mixed
  have h__law_contains : Has P w K mg base CX0 1 "_law_contains" ["row", "partial"] (sp__law_contains K) := d__law_contains T
  have h__law_rows : Has P w K mg base CX0 1 "_law_rows" ["size"] (sp__law_rows K) := d__law_rows T
  have h__law_without : Has P w K mg base CX0 2 "_law_without" ["size", "partials"] (sp__law_without K) := d__law_without T h__law_contains h__law_rows
  have h_code_of : Has P w K mg base CX0 1 "code_of" ["row"] (sp_code_of K) := d_code_of T
  have h_held_codes : Has P w K mg base CX0 2 "held_codes" ["rule"] (sp_held_codes K) := d_held_codes T h_code_of
  have h_is_least : Has P w K mg base CX0 1 "is_least" ["held", "size", "mask", "bits"] (sp_is_least K) := d_is_least T
  have h_numbers_within : Has P w K mg base CX0 1 "numbers_within" ["mask"] (sp_numbers_within K) := d_numbers_within T
  have h_partial_of : Has P w K mg base CX0 1 "partial_of" ["size", "mask", "bits"] (sp_partial_of K) := d_partial_of T
  have h_patterns_in : Has P w K mg base CX0 3 "patterns_in" ["rule"] (sp_patterns_in K) := d_patterns_in T h_held_codes h_is_least h_numbers_within h_partial_of
  have h_are_ascending : Has P w K mg base CX0 1 "are_ascending" ["items"] (sp_are_ascending K) := d_are_ascending T
  have h_has_both_bits : Has P w K mg base CX0 1 "has_both_bits" ["size", "rows"] (sp_has_both_bits K) := d_has_both_bits T
  have h_is_integer : Has P w K mg base CX0 1 "is_integer" ["value"] (sp_is_integer K) := d_is_integer T
  have h_is_between : Has P w K mg base CX0 2 "is_between" ["value", "low", "high"] (sp_is_between K) := d_is_between T h_is_integer
  have h_is_row_in : Has P w K mg base CX0 3 "is_row_in" ["size", "value"] (sp_is_row_in K) := d_is_row_in T h_is_between
  have h_is_rule : Has P w K mg base CX0 4 "is_rule" ["value"] (sp_is_rule K) := d_is_rule T h_are_ascending h_has_both_bits h_is_between h_is_row_in
  have h_require_rule : Has P w K mg base CX0 5 "require_rule" ["rule"] (sp_require_rule K) := d_require_rule T h_is_rule
  have h_patterns : Has P w K mg base CX0 6 "patterns" ["rule"] (sp_patterns K) := d_patterns T h_patterns_in h_require_rule
  have h_is_literal : Has P w K mg base CX0 3 "is_literal" ["size", "value"] (sp_is_literal K) := d_is_literal T h_is_between
  have h_is_partial_in : Has P w K mg base CX0 4 "is_partial_in" ["size", "value"] (sp_is_partial_in K) := d_is_partial_in T h_are_ascending h_is_literal
  have h_require_partial : Has P w K mg base CX0 5 "require_partial" ["size", "partial"] (sp_require_partial K) := d_require_partial T h_is_partial_in
  have h_require_partials : Has P w K mg base CX0 6 "require_partials" ["size", "partials"] (sp_require_partials K) := d_require_partials T h_require_partial
  have h_require_size : Has P w K mg base CX0 3 "require_size" ["size"] (sp_require_size K) := d_require_size T h_is_between
  have h_contains_in : Has P w K mg base CX0 1 "contains_in" ["row", "partial"] (sp_contains_in K) := d_contains_in T
  have h_rows_of_size : Has P w K mg base CX0 1 "rows_of_size" ["size"] (sp_rows_of_size K) := d_rows_of_size T
  have h_rows_without : Has P w K mg base CX0 2 "rows_without" ["size", "partials"] (sp_rows_without K) := d_rows_without T h_contains_in h_rows_of_size
  have h_rule_of_patterns : Has P w K mg base (L2N.CX P w) 7 "rule_of_patterns" ["size", "partials"] (sp_rule_of_patterns K C_InvalidRule) := d_rule_of_patterns T X h_is_rule h_require_partials h_require_size h_rows_without
  have h__law_given_right : Has P w K mg base CX0 8 "_law_given_right" ["stream", "size"] (sp__law_given_right K) := d__law_given_right T plain X hx h__law_draw h__law_partial h__law_without h_rule_of_patterns (h__law_is_ruleT T) (d__law_is_ruleT T) h_patterns h__law_is_part
  have h__law_partials : Has P w K mg base CX0 1 "_law_partials" ["size"] (sp__law_partials K) := d__law_partials T
  have h__law_is_held : Has P w K mg base CX0 2 "_law_is_held" ["rule", "partial"] (sp__law_is_held K) := d__law_is_held T h__law_contains
  have h__law_is_pattern : Has P w K mg base CX0 3 "_law_is_pattern" ["rule", "partial"] (sp__law_is_pattern K) := d__law_is_pattern T h__law_is_held
  have h__law_pick : Has P w K mg base CX0 2 "_law_pick" ["stream", "items"] (sp__law_pick K) := d__law_pick T h__law_draw
  have h__law_rows_for : Has P w K mg base CX0 2 "_law_rows_for" ["rule", "partial"] (sp__law_rows_for K) := d__law_rows_for T h__law_contains
  have h_is_held : Has P w K mg base CX0 2 "is_held" ["rule", "partial"] (sp_is_held K) := d_is_held T h_contains_in
  have h_is_pattern_in : Has P w K mg base CX0 5 "is_pattern_in" ["rule", "value"] (sp_is_pattern_in K) := d_is_pattern_in T h_is_held h_is_partial_in
  have h_is_pattern : Has P w K mg base CX0 6 "is_pattern" ["rule", "value"] (sp_is_pattern K) := d_is_pattern T h_is_pattern_in h_require_rule
  have h_is_row_for : Has P w K mg base CX0 4 "is_row_for" ["rule", "row", "pattern", "at"] (sp_is_row_for K) := d_is_row_for T h_contains_in h_is_row_in
  have h_is_pattern_paper : Has P w K mg base CX0 6 "is_pattern_paper" ["rule", "value"] (sp_is_pattern_paper K) := d_is_pattern_paper T h_is_held h_is_partial_in h_is_row_for h_require_rule
  have h_is_part : Has P w K mg base CX0 1 "is_part" ["partial", "other"] (sp_is_part K) := d_is_part T
  have h_first_within : Has P w K mg base CX0 2 "first_within" ["found", "partial"] (sp_first_within K Pt) := d_first_within T L h_is_part
  have h_pattern_within : Has P w K mg base CX0 6 "pattern_within" ["rule", "partial"] (sp_pattern_within K Pt) := d_pattern_within T h_first_within h_patterns_in h_require_partial h_require_rule
  have h__law_partial_right : Has P w K mg base CX0 7 "_law_partial_right" ["stream", "rule", "told", "partial"] (sp__law_partial_right K Pt) := d__law_partial_right T h__law_is_held h__law_is_part h__law_is_pattern h__law_pick h__law_rows_for h_is_pattern h_is_pattern_paper h_pattern_within
  have h_gives : Has P w K mg base CX0 7 "gives" ["rule", "partials"] (sp_gives K) := d_gives T h_require_partials h_require_rule h_rows_without
  have h_pattern_rows : Has P w K mg base CX0 6 "pattern_rows" ["rule", "pattern"] (sp_pattern_rows K) := d_pattern_rows T h_contains_in h_is_pattern_in h_require_rule
  have h__law_set_right : Has P w K mg base CX0 8 "_law_set_right" ["stream", "rule", "told"] (sp__law_set_right K) := d__law_set_right T h__law_is_held h__law_mixed h__law_partials h__law_pick h__law_rows_for h__law_without h_gives h_is_pattern_paper h_pattern_rows h_patterns h_rule_of_patterns
  have h__law_right : Has P w K mg base CX0 9 "_law_right" ["stream", "rule", "partials"] (sp__law_right K Pt) := d__law_right T h__law_is_pattern h__law_partial_right h__law_partials h__law_set_right h_patterns
  have h__law_row : Has P w K mg base CX0 2 "_law_row" ["stream", "size"] (sp__law_row K) := d__law_row T h__law_draw
  have h__law_drawn_rows : Has P w K mg base CX0 4 "_law_drawn_rows" ["stream", "size", "way"] (sp__law_drawn_rows K) := d__law_drawn_rows T h__law_contains h__law_draw h__law_partial h__law_row h__law_rows
  have h__law_rule_of : Has P w K mg base CX0 3 "_law_rule_of" ["stream", "size", "rows"] (sp__law_rule_of K) := d__law_rule_of T h__law_is_rule h__law_row
  have h__law_rule : Has P w K mg base CX0 5 "_law_rule" ["stream", "size"] (sp__law_rule K) := d__law_rule T h__law_draw h__law_drawn_rows h__law_rule_of
  have h__law_stream : Has P w K mg base CX0 1 "_law_stream" ["script", "at"] (sp__law_stream K) := d__law_stream T
  have h_law : Has P w K mg base CX0 10 "law" ["script"] (sp_law K Pt) := d_law T h__law_draw h__law_given_right h__law_partial h__law_partials h__law_right h__law_rows h__law_rule h__law_stream h_gives h_patterns h_rule_of_patterns
  exact h_law
end
theorem mk_def {K : PySem.W.Frag} {h : Heap} {mg : PySem.Str → Option Value} {x : PySem.Str} {st : Stmt} {ps : List PySem.Str} {f : Addr} {oc kV dc pm cd ct : Value} {od an : Option Addr} {sl : Array (Option Value)} (X : K.In h) (G : h.Ns mainGlobals mg)
    (hb : ∀ (kV dc pm : Value) (an : Option Addr) (cd ct : Value) (us : List Value), us.length = ps.length → bindArgs (PySem.W.fnOf x x (defArgs st) (defBody st) (defScope st) .none kV dc pm an cd ct) ⟨us, []⟩ = pure (ps.zip us)) (a : PySem.W.nsIn K mainGlobals x = some (some (.ref f))) (l : K.lookup f = some ⟨oc, od, .func (PySem.W.fnOf x x (defArgs st) (defBody st) (defScope st) .none kV dc pm an cd ct), sl⟩)
    (c : PySem.W.codeIn K cd x = true) (k : PySem.W.keepIn K (.ref f) = true) : ∃ f fd, Fun K x x st f fd ∧ mg x = some (.ref f) ∧ Binds K fd ps [] := by
  have F := fun_mk (st := st) l c k
  exact ⟨f, _, F, PySem.W.mg_of X G a, F.binds (ps := ps) hb⟩
theorem bd_is_integer (kV dc pm : Value) (an : Option Addr) (cd ct : Value) (us : List Value) (hl : us.length = (["value"] : List PySem.Str).length) : bindArgs (PySem.W.fnOf "is_integer" "is_integer" (defArgs s_is_integer) (defBody s_is_integer) (defScope s_is_integer) .none kV dc pm an cd ct) ⟨us, []⟩ = pure ((["value"] : List PySem.Str).zip us) := match us, hl with | [_], _ => rfl
theorem bd_is_between (kV dc pm : Value) (an : Option Addr) (cd ct : Value) (us : List Value) (hl : us.length = (["value", "low", "high"] : List PySem.Str).length) : bindArgs (PySem.W.fnOf "is_between" "is_between" (defArgs s_is_between) (defBody s_is_between) (defScope s_is_between) .none kV dc pm an cd ct) ⟨us, []⟩ = pure ((["value", "low", "high"] : List PySem.Str).zip us) := match us, hl with | [_, _, _], _ => rfl
theorem bd_are_ascending (kV dc pm : Value) (an : Option Addr) (cd ct : Value) (us : List Value) (hl : us.length = (["items"] : List PySem.Str).length) : bindArgs (PySem.W.fnOf "are_ascending" "are_ascending" (defArgs s_are_ascending) (defBody s_are_ascending) (defScope s_are_ascending) .none kV dc pm an cd ct) ⟨us, []⟩ = pure ((["items"] : List PySem.Str).zip us) := match us, hl with | [_], _ => rfl
theorem bd_is_row_in (kV dc pm : Value) (an : Option Addr) (cd ct : Value) (us : List Value) (hl : us.length = (["size", "value"] : List PySem.Str).length) : bindArgs (PySem.W.fnOf "is_row_in" "is_row_in" (defArgs s_is_row_in) (defBody s_is_row_in) (defScope s_is_row_in) .none kV dc pm an cd ct) ⟨us, []⟩ = pure ((["size", "value"] : List PySem.Str).zip us) := match us, hl with | [_, _], _ => rfl
theorem bd_is_literal (kV dc pm : Value) (an : Option Addr) (cd ct : Value) (us : List Value) (hl : us.length = (["size", "value"] : List PySem.Str).length) : bindArgs (PySem.W.fnOf "is_literal" "is_literal" (defArgs s_is_literal) (defBody s_is_literal) (defScope s_is_literal) .none kV dc pm an cd ct) ⟨us, []⟩ = pure ((["size", "value"] : List PySem.Str).zip us) := match us, hl with | [_, _], _ => rfl
theorem bd_is_partial_in (kV dc pm : Value) (an : Option Addr) (cd ct : Value) (us : List Value) (hl : us.length = (["size", "value"] : List PySem.Str).length) : bindArgs (PySem.W.fnOf "is_partial_in" "is_partial_in" (defArgs s_is_partial_in) (defBody s_is_partial_in) (defScope s_is_partial_in) .none kV dc pm an cd ct) ⟨us, []⟩ = pure ((["size", "value"] : List PySem.Str).zip us) := match us, hl with | [_, _], _ => rfl
theorem bd_has_both_bits (kV dc pm : Value) (an : Option Addr) (cd ct : Value) (us : List Value) (hl : us.length = (["size", "rows"] : List PySem.Str).length) : bindArgs (PySem.W.fnOf "has_both_bits" "has_both_bits" (defArgs s_has_both_bits) (defBody s_has_both_bits) (defScope s_has_both_bits) .none kV dc pm an cd ct) ⟨us, []⟩ = pure ((["size", "rows"] : List PySem.Str).zip us) := match us, hl with | [_, _], _ => rfl
theorem bd_is_rule (kV dc pm : Value) (an : Option Addr) (cd ct : Value) (us : List Value) (hl : us.length = (["value"] : List PySem.Str).length) : bindArgs (PySem.W.fnOf "is_rule" "is_rule" (defArgs s_is_rule) (defBody s_is_rule) (defScope s_is_rule) .none kV dc pm an cd ct) ⟨us, []⟩ = pure ((["value"] : List PySem.Str).zip us) := match us, hl with | [_], _ => rfl
theorem bd_require_size (kV dc pm : Value) (an : Option Addr) (cd ct : Value) (us : List Value) (hl : us.length = (["size"] : List PySem.Str).length) : bindArgs (PySem.W.fnOf "require_size" "require_size" (defArgs s_require_size) (defBody s_require_size) (defScope s_require_size) .none kV dc pm an cd ct) ⟨us, []⟩ = pure ((["size"] : List PySem.Str).zip us) := match us, hl with | [_], _ => rfl
theorem bd_require_rule (kV dc pm : Value) (an : Option Addr) (cd ct : Value) (us : List Value) (hl : us.length = (["rule"] : List PySem.Str).length) : bindArgs (PySem.W.fnOf "require_rule" "require_rule" (defArgs s_require_rule) (defBody s_require_rule) (defScope s_require_rule) .none kV dc pm an cd ct) ⟨us, []⟩ = pure ((["rule"] : List PySem.Str).zip us) := match us, hl with | [_], _ => rfl
theorem bd_require_partial (kV dc pm : Value) (an : Option Addr) (cd ct : Value) (us : List Value) (hl : us.length = (["size", "partial"] : List PySem.Str).length) : bindArgs (PySem.W.fnOf "require_partial" "require_partial" (defArgs s_require_partial) (defBody s_require_partial) (defScope s_require_partial) .none kV dc pm an cd ct) ⟨us, []⟩ = pure ((["size", "partial"] : List PySem.Str).zip us) := match us, hl with | [_, _], _ => rfl
theorem bd_rows_of_size (kV dc pm : Value) (an : Option Addr) (cd ct : Value) (us : List Value) (hl : us.length = (["size"] : List PySem.Str).length) : bindArgs (PySem.W.fnOf "rows_of_size" "rows_of_size" (defArgs s_rows_of_size) (defBody s_rows_of_size) (defScope s_rows_of_size) .none kV dc pm an cd ct) ⟨us, []⟩ = pure ((["size"] : List PySem.Str).zip us) := match us, hl with | [_], _ => rfl
theorem bd_contains_in (kV dc pm : Value) (an : Option Addr) (cd ct : Value) (us : List Value) (hl : us.length = (["row", "partial"] : List PySem.Str).length) : bindArgs (PySem.W.fnOf "contains_in" "contains_in" (defArgs s_contains_in) (defBody s_contains_in) (defScope s_contains_in) .none kV dc pm an cd ct) ⟨us, []⟩ = pure ((["row", "partial"] : List PySem.Str).zip us) := match us, hl with | [_, _], _ => rfl
theorem bd_code_of (kV dc pm : Value) (an : Option Addr) (cd ct : Value) (us : List Value) (hl : us.length = (["row"] : List PySem.Str).length) : bindArgs (PySem.W.fnOf "code_of" "code_of" (defArgs s_code_of) (defBody s_code_of) (defScope s_code_of) .none kV dc pm an cd ct) ⟨us, []⟩ = pure ((["row"] : List PySem.Str).zip us) := match us, hl with | [_], _ => rfl
theorem bd_held_codes (kV dc pm : Value) (an : Option Addr) (cd ct : Value) (us : List Value) (hl : us.length = (["rule"] : List PySem.Str).length) : bindArgs (PySem.W.fnOf "held_codes" "held_codes" (defArgs s_held_codes) (defBody s_held_codes) (defScope s_held_codes) .none kV dc pm an cd ct) ⟨us, []⟩ = pure ((["rule"] : List PySem.Str).zip us) := match us, hl with | [_], _ => rfl
theorem bd_numbers_within (kV dc pm : Value) (an : Option Addr) (cd ct : Value) (us : List Value) (hl : us.length = (["mask"] : List PySem.Str).length) : bindArgs (PySem.W.fnOf "numbers_within" "numbers_within" (defArgs s_numbers_within) (defBody s_numbers_within) (defScope s_numbers_within) .none kV dc pm an cd ct) ⟨us, []⟩ = pure ((["mask"] : List PySem.Str).zip us) := match us, hl with | [_], _ => rfl
theorem bd_is_least (kV dc pm : Value) (an : Option Addr) (cd ct : Value) (us : List Value) (hl : us.length = (["held", "size", "mask", "bits"] : List PySem.Str).length) : bindArgs (PySem.W.fnOf "is_least" "is_least" (defArgs s_is_least) (defBody s_is_least) (defScope s_is_least) .none kV dc pm an cd ct) ⟨us, []⟩ = pure ((["held", "size", "mask", "bits"] : List PySem.Str).zip us) := match us, hl with | [_, _, _, _], _ => rfl
theorem bd_partial_of (kV dc pm : Value) (an : Option Addr) (cd ct : Value) (us : List Value) (hl : us.length = (["size", "mask", "bits"] : List PySem.Str).length) : bindArgs (PySem.W.fnOf "partial_of" "partial_of" (defArgs s_partial_of) (defBody s_partial_of) (defScope s_partial_of) .none kV dc pm an cd ct) ⟨us, []⟩ = pure ((["size", "mask", "bits"] : List PySem.Str).zip us) := match us, hl with | [_, _, _], _ => rfl
theorem bd_patterns_in (kV dc pm : Value) (an : Option Addr) (cd ct : Value) (us : List Value) (hl : us.length = (["rule"] : List PySem.Str).length) : bindArgs (PySem.W.fnOf "patterns_in" "patterns_in" (defArgs s_patterns_in) (defBody s_patterns_in) (defScope s_patterns_in) .none kV dc pm an cd ct) ⟨us, []⟩ = pure ((["rule"] : List PySem.Str).zip us) := match us, hl with | [_], _ => rfl
theorem bd_is_held (kV dc pm : Value) (an : Option Addr) (cd ct : Value) (us : List Value) (hl : us.length = (["rule", "partial"] : List PySem.Str).length) : bindArgs (PySem.W.fnOf "is_held" "is_held" (defArgs s_is_held) (defBody s_is_held) (defScope s_is_held) .none kV dc pm an cd ct) ⟨us, []⟩ = pure ((["rule", "partial"] : List PySem.Str).zip us) := match us, hl with | [_, _], _ => rfl
theorem bd_is_pattern_in (kV dc pm : Value) (an : Option Addr) (cd ct : Value) (us : List Value) (hl : us.length = (["rule", "value"] : List PySem.Str).length) : bindArgs (PySem.W.fnOf "is_pattern_in" "is_pattern_in" (defArgs s_is_pattern_in) (defBody s_is_pattern_in) (defScope s_is_pattern_in) .none kV dc pm an cd ct) ⟨us, []⟩ = pure ((["rule", "value"] : List PySem.Str).zip us) := match us, hl with | [_, _], _ => rfl
theorem bd_is_part (kV dc pm : Value) (an : Option Addr) (cd ct : Value) (us : List Value) (hl : us.length = (["partial", "other"] : List PySem.Str).length) : bindArgs (PySem.W.fnOf "is_part" "is_part" (defArgs s_is_part) (defBody s_is_part) (defScope s_is_part) .none kV dc pm an cd ct) ⟨us, []⟩ = pure ((["partial", "other"] : List PySem.Str).zip us) := match us, hl with | [_, _], _ => rfl
theorem bd_first_within (kV dc pm : Value) (an : Option Addr) (cd ct : Value) (us : List Value) (hl : us.length = (["found", "partial"] : List PySem.Str).length) : bindArgs (PySem.W.fnOf "first_within" "first_within" (defArgs s_first_within) (defBody s_first_within) (defScope s_first_within) .none kV dc pm an cd ct) ⟨us, []⟩ = pure ((["found", "partial"] : List PySem.Str).zip us) := match us, hl with | [_, _], _ => rfl
theorem bd_is_row_for (kV dc pm : Value) (an : Option Addr) (cd ct : Value) (us : List Value) (hl : us.length = (["rule", "row", "pattern", "at"] : List PySem.Str).length) : bindArgs (PySem.W.fnOf "is_row_for" "is_row_for" (defArgs s_is_row_for) (defBody s_is_row_for) (defScope s_is_row_for) .none kV dc pm an cd ct) ⟨us, []⟩ = pure ((["rule", "row", "pattern", "at"] : List PySem.Str).zip us) := match us, hl with | [_, _, _, _], _ => rfl
theorem bd_require_partials (kV dc pm : Value) (an : Option Addr) (cd ct : Value) (us : List Value) (hl : us.length = (["size", "partials"] : List PySem.Str).length) : bindArgs (PySem.W.fnOf "require_partials" "require_partials" (defArgs s_require_partials) (defBody s_require_partials) (defScope s_require_partials) .none kV dc pm an cd ct) ⟨us, []⟩ = pure ((["size", "partials"] : List PySem.Str).zip us) := match us, hl with | [_, _], _ => rfl
theorem bd_rows_without (kV dc pm : Value) (an : Option Addr) (cd ct : Value) (us : List Value) (hl : us.length = (["size", "partials"] : List PySem.Str).length) : bindArgs (PySem.W.fnOf "rows_without" "rows_without" (defArgs s_rows_without) (defBody s_rows_without) (defScope s_rows_without) .none kV dc pm an cd ct) ⟨us, []⟩ = pure ((["size", "partials"] : List PySem.Str).zip us) := match us, hl with | [_, _], _ => rfl
theorem bd_patterns (kV dc pm : Value) (an : Option Addr) (cd ct : Value) (us : List Value) (hl : us.length = (["rule"] : List PySem.Str).length) : bindArgs (PySem.W.fnOf "patterns" "patterns" (defArgs s_patterns) (defBody s_patterns) (defScope s_patterns) .none kV dc pm an cd ct) ⟨us, []⟩ = pure ((["rule"] : List PySem.Str).zip us) := match us, hl with | [_], _ => rfl
theorem bd_is_pattern (kV dc pm : Value) (an : Option Addr) (cd ct : Value) (us : List Value) (hl : us.length = (["rule", "value"] : List PySem.Str).length) : bindArgs (PySem.W.fnOf "is_pattern" "is_pattern" (defArgs s_is_pattern) (defBody s_is_pattern) (defScope s_is_pattern) .none kV dc pm an cd ct) ⟨us, []⟩ = pure ((["rule", "value"] : List PySem.Str).zip us) := match us, hl with | [_, _], _ => rfl
theorem bd_pattern_within (kV dc pm : Value) (an : Option Addr) (cd ct : Value) (us : List Value) (hl : us.length = (["rule", "partial"] : List PySem.Str).length) : bindArgs (PySem.W.fnOf "pattern_within" "pattern_within" (defArgs s_pattern_within) (defBody s_pattern_within) (defScope s_pattern_within) .none kV dc pm an cd ct) ⟨us, []⟩ = pure ((["rule", "partial"] : List PySem.Str).zip us) := match us, hl with | [_, _], _ => rfl
theorem bd_pattern_rows (kV dc pm : Value) (an : Option Addr) (cd ct : Value) (us : List Value) (hl : us.length = (["rule", "pattern"] : List PySem.Str).length) : bindArgs (PySem.W.fnOf "pattern_rows" "pattern_rows" (defArgs s_pattern_rows) (defBody s_pattern_rows) (defScope s_pattern_rows) .none kV dc pm an cd ct) ⟨us, []⟩ = pure ((["rule", "pattern"] : List PySem.Str).zip us) := match us, hl with | [_, _], _ => rfl
theorem bd_is_pattern_paper (kV dc pm : Value) (an : Option Addr) (cd ct : Value) (us : List Value) (hl : us.length = (["rule", "value"] : List PySem.Str).length) : bindArgs (PySem.W.fnOf "is_pattern_paper" "is_pattern_paper" (defArgs s_is_pattern_paper) (defBody s_is_pattern_paper) (defScope s_is_pattern_paper) .none kV dc pm an cd ct) ⟨us, []⟩ = pure ((["rule", "value"] : List PySem.Str).zip us) := match us, hl with | [_, _], _ => rfl
theorem bd_rule_of_patterns (kV dc pm : Value) (an : Option Addr) (cd ct : Value) (us : List Value) (hl : us.length = (["size", "partials"] : List PySem.Str).length) : bindArgs (PySem.W.fnOf "rule_of_patterns" "rule_of_patterns" (defArgs s_rule_of_patterns) (defBody s_rule_of_patterns) (defScope s_rule_of_patterns) .none kV dc pm an cd ct) ⟨us, []⟩ = pure ((["size", "partials"] : List PySem.Str).zip us) := match us, hl with | [_, _], _ => rfl
theorem bd_gives (kV dc pm : Value) (an : Option Addr) (cd ct : Value) (us : List Value) (hl : us.length = (["rule", "partials"] : List PySem.Str).length) : bindArgs (PySem.W.fnOf "gives" "gives" (defArgs s_gives) (defBody s_gives) (defScope s_gives) .none kV dc pm an cd ct) ⟨us, []⟩ = pure ((["rule", "partials"] : List PySem.Str).zip us) := match us, hl with | [_, _], _ => rfl
theorem bd__law_stream (kV dc pm : Value) (an : Option Addr) (cd ct : Value) (us : List Value) (hl : us.length = (["script", "at"] : List PySem.Str).length) : bindArgs (PySem.W.fnOf "_law_stream" "_law_stream" (defArgs s__law_stream) (defBody s__law_stream) (defScope s__law_stream) .none kV dc pm an cd ct) ⟨us, []⟩ = pure ((["script", "at"] : List PySem.Str).zip us) := match us, hl with | [_, _], _ => rfl
theorem bd__law_draw (kV dc pm : Value) (an : Option Addr) (cd ct : Value) (us : List Value) (hl : us.length = (["stream", "total"] : List PySem.Str).length) : bindArgs (PySem.W.fnOf "_law_draw" "_law_draw" (defArgs s__law_draw) (defBody s__law_draw) (defScope s__law_draw) .none kV dc pm an cd ct) ⟨us, []⟩ = pure ((["stream", "total"] : List PySem.Str).zip us) := match us, hl with | [_, _], _ => rfl
theorem bd__law_pick (kV dc pm : Value) (an : Option Addr) (cd ct : Value) (us : List Value) (hl : us.length = (["stream", "items"] : List PySem.Str).length) : bindArgs (PySem.W.fnOf "_law_pick" "_law_pick" (defArgs s__law_pick) (defBody s__law_pick) (defScope s__law_pick) .none kV dc pm an cd ct) ⟨us, []⟩ = pure ((["stream", "items"] : List PySem.Str).zip us) := match us, hl with | [_, _], _ => rfl
theorem bd__law_mixed (kV dc pm : Value) (an : Option Addr) (cd ct : Value) (us : List Value) (hl : us.length = (["stream", "items"] : List PySem.Str).length) : bindArgs (PySem.W.fnOf "_law_mixed" "_law_mixed" (defArgs s__law_mixed) (defBody s__law_mixed) (defScope s__law_mixed) .none kV dc pm an cd ct) ⟨us, []⟩ = pure ((["stream", "items"] : List PySem.Str).zip us) := match us, hl with | [_, _], _ => rfl
theorem bd__law_rows (kV dc pm : Value) (an : Option Addr) (cd ct : Value) (us : List Value) (hl : us.length = (["size"] : List PySem.Str).length) : bindArgs (PySem.W.fnOf "_law_rows" "_law_rows" (defArgs s__law_rows) (defBody s__law_rows) (defScope s__law_rows) .none kV dc pm an cd ct) ⟨us, []⟩ = pure ((["size"] : List PySem.Str).zip us) := match us, hl with | [_], _ => rfl
theorem bd__law_row (kV dc pm : Value) (an : Option Addr) (cd ct : Value) (us : List Value) (hl : us.length = (["stream", "size"] : List PySem.Str).length) : bindArgs (PySem.W.fnOf "_law_row" "_law_row" (defArgs s__law_row) (defBody s__law_row) (defScope s__law_row) .none kV dc pm an cd ct) ⟨us, []⟩ = pure ((["stream", "size"] : List PySem.Str).zip us) := match us, hl with | [_, _], _ => rfl
theorem bd__law_is_rule (kV dc pm : Value) (an : Option Addr) (cd ct : Value) (us : List Value) (hl : us.length = (["size", "rows"] : List PySem.Str).length) : bindArgs (PySem.W.fnOf "_law_is_rule" "_law_is_rule" (defArgs s__law_is_rule) (defBody s__law_is_rule) (defScope s__law_is_rule) .none kV dc pm an cd ct) ⟨us, []⟩ = pure ((["size", "rows"] : List PySem.Str).zip us) := match us, hl with | [_, _], _ => rfl
theorem bd__law_rule_of (kV dc pm : Value) (an : Option Addr) (cd ct : Value) (us : List Value) (hl : us.length = (["stream", "size", "rows"] : List PySem.Str).length) : bindArgs (PySem.W.fnOf "_law_rule_of" "_law_rule_of" (defArgs s__law_rule_of) (defBody s__law_rule_of) (defScope s__law_rule_of) .none kV dc pm an cd ct) ⟨us, []⟩ = pure ((["stream", "size", "rows"] : List PySem.Str).zip us) := match us, hl with | [_, _, _], _ => rfl
theorem bd__law_contains (kV dc pm : Value) (an : Option Addr) (cd ct : Value) (us : List Value) (hl : us.length = (["row", "partial"] : List PySem.Str).length) : bindArgs (PySem.W.fnOf "_law_contains" "_law_contains" (defArgs s__law_contains) (defBody s__law_contains) (defScope s__law_contains) .none kV dc pm an cd ct) ⟨us, []⟩ = pure ((["row", "partial"] : List PySem.Str).zip us) := match us, hl with | [_, _], _ => rfl
theorem bd__law_partial (kV dc pm : Value) (an : Option Addr) (cd ct : Value) (us : List Value) (hl : us.length = (["stream", "size", "most"] : List PySem.Str).length) : bindArgs (PySem.W.fnOf "_law_partial" "_law_partial" (defArgs s__law_partial) (defBody s__law_partial) (defScope s__law_partial) .none kV dc pm an cd ct) ⟨us, []⟩ = pure ((["stream", "size", "most"] : List PySem.Str).zip us) := match us, hl with | [_, _, _], _ => rfl
theorem bd__law_drawn_rows (kV dc pm : Value) (an : Option Addr) (cd ct : Value) (us : List Value) (hl : us.length = (["stream", "size", "way"] : List PySem.Str).length) : bindArgs (PySem.W.fnOf "_law_drawn_rows" "_law_drawn_rows" (defArgs s__law_drawn_rows) (defBody s__law_drawn_rows) (defScope s__law_drawn_rows) .none kV dc pm an cd ct) ⟨us, []⟩ = pure ((["stream", "size", "way"] : List PySem.Str).zip us) := match us, hl with | [_, _, _], _ => rfl
theorem bd__law_rule (kV dc pm : Value) (an : Option Addr) (cd ct : Value) (us : List Value) (hl : us.length = (["stream", "size"] : List PySem.Str).length) : bindArgs (PySem.W.fnOf "_law_rule" "_law_rule" (defArgs s__law_rule) (defBody s__law_rule) (defScope s__law_rule) .none kV dc pm an cd ct) ⟨us, []⟩ = pure ((["stream", "size"] : List PySem.Str).zip us) := match us, hl with | [_, _], _ => rfl
theorem bd__law_partials (kV dc pm : Value) (an : Option Addr) (cd ct : Value) (us : List Value) (hl : us.length = (["size"] : List PySem.Str).length) : bindArgs (PySem.W.fnOf "_law_partials" "_law_partials" (defArgs s__law_partials) (defBody s__law_partials) (defScope s__law_partials) .none kV dc pm an cd ct) ⟨us, []⟩ = pure ((["size"] : List PySem.Str).zip us) := match us, hl with | [_], _ => rfl
theorem bd__law_is_held (kV dc pm : Value) (an : Option Addr) (cd ct : Value) (us : List Value) (hl : us.length = (["rule", "partial"] : List PySem.Str).length) : bindArgs (PySem.W.fnOf "_law_is_held" "_law_is_held" (defArgs s__law_is_held) (defBody s__law_is_held) (defScope s__law_is_held) .none kV dc pm an cd ct) ⟨us, []⟩ = pure ((["rule", "partial"] : List PySem.Str).zip us) := match us, hl with | [_, _], _ => rfl
theorem bd__law_is_pattern (kV dc pm : Value) (an : Option Addr) (cd ct : Value) (us : List Value) (hl : us.length = (["rule", "partial"] : List PySem.Str).length) : bindArgs (PySem.W.fnOf "_law_is_pattern" "_law_is_pattern" (defArgs s__law_is_pattern) (defBody s__law_is_pattern) (defScope s__law_is_pattern) .none kV dc pm an cd ct) ⟨us, []⟩ = pure ((["rule", "partial"] : List PySem.Str).zip us) := match us, hl with | [_, _], _ => rfl
theorem bd__law_is_part (kV dc pm : Value) (an : Option Addr) (cd ct : Value) (us : List Value) (hl : us.length = (["partial", "other"] : List PySem.Str).length) : bindArgs (PySem.W.fnOf "_law_is_part" "_law_is_part" (defArgs s__law_is_part) (defBody s__law_is_part) (defScope s__law_is_part) .none kV dc pm an cd ct) ⟨us, []⟩ = pure ((["partial", "other"] : List PySem.Str).zip us) := match us, hl with | [_, _], _ => rfl
theorem bd__law_without (kV dc pm : Value) (an : Option Addr) (cd ct : Value) (us : List Value) (hl : us.length = (["size", "partials"] : List PySem.Str).length) : bindArgs (PySem.W.fnOf "_law_without" "_law_without" (defArgs s__law_without) (defBody s__law_without) (defScope s__law_without) .none kV dc pm an cd ct) ⟨us, []⟩ = pure ((["size", "partials"] : List PySem.Str).zip us) := match us, hl with | [_, _], _ => rfl
theorem bd__law_rows_for (kV dc pm : Value) (an : Option Addr) (cd ct : Value) (us : List Value) (hl : us.length = (["rule", "partial"] : List PySem.Str).length) : bindArgs (PySem.W.fnOf "_law_rows_for" "_law_rows_for" (defArgs s__law_rows_for) (defBody s__law_rows_for) (defScope s__law_rows_for) .none kV dc pm an cd ct) ⟨us, []⟩ = pure ((["rule", "partial"] : List PySem.Str).zip us) := match us, hl with | [_, _], _ => rfl
theorem bd__law_partial_right (kV dc pm : Value) (an : Option Addr) (cd ct : Value) (us : List Value) (hl : us.length = (["stream", "rule", "told", "partial"] : List PySem.Str).length) : bindArgs (PySem.W.fnOf "_law_partial_right" "_law_partial_right" (defArgs s__law_partial_right) (defBody s__law_partial_right) (defScope s__law_partial_right) .none kV dc pm an cd ct) ⟨us, []⟩ = pure ((["stream", "rule", "told", "partial"] : List PySem.Str).zip us) := match us, hl with | [_, _, _, _], _ => rfl
theorem bd__law_set_right (kV dc pm : Value) (an : Option Addr) (cd ct : Value) (us : List Value) (hl : us.length = (["stream", "rule", "told"] : List PySem.Str).length) : bindArgs (PySem.W.fnOf "_law_set_right" "_law_set_right" (defArgs s__law_set_right) (defBody s__law_set_right) (defScope s__law_set_right) .none kV dc pm an cd ct) ⟨us, []⟩ = pure ((["stream", "rule", "told"] : List PySem.Str).zip us) := match us, hl with | [_, _, _], _ => rfl
theorem bd__law_given_right (kV dc pm : Value) (an : Option Addr) (cd ct : Value) (us : List Value) (hl : us.length = (["stream", "size"] : List PySem.Str).length) : bindArgs (PySem.W.fnOf "_law_given_right" "_law_given_right" (defArgs s__law_given_right) (defBody s__law_given_right) (defScope s__law_given_right) .none kV dc pm an cd ct) ⟨us, []⟩ = pure ((["stream", "size"] : List PySem.Str).zip us) := match us, hl with | [_, _], _ => rfl
theorem bd__law_right (kV dc pm : Value) (an : Option Addr) (cd ct : Value) (us : List Value) (hl : us.length = (["stream", "rule", "partials"] : List PySem.Str).length) : bindArgs (PySem.W.fnOf "_law_right" "_law_right" (defArgs s__law_right) (defBody s__law_right) (defScope s__law_right) .none kV dc pm an cd ct) ⟨us, []⟩ = pure ((["stream", "rule", "partials"] : List PySem.Str).zip us) := match us, hl with | [_, _, _], _ => rfl
theorem bd_law (kV dc pm : Value) (an : Option Addr) (cd ct : Value) (us : List Value) (hl : us.length = (["script"] : List PySem.Str).length) : bindArgs (PySem.W.fnOf "law" "law" (defArgs s_law) (defBody s_law) (defScope s_law) .none kV dc pm an cd ct) ⟨us, []⟩ = pure ((["script"] : List PySem.Str).zip us) := match us, hl with | [_], _ => rfl
/-- an own error is caught by its own name -/
theorem exm_own {K : PySem.W.Frag} {S : Addr} (h1 : PySem.W.subIn K (.ref S) (.type "BaseException") = some true) (h2 : PySem.W.isClsIn K S = true) (h3 : PySem.W.typeIn K (.ref S) = some (.type "type")) (h4 : PySem.W.subIn K (.ref S) (.ref S) = some true) : PySem.W.exmOne K (.ref S) (.ref S) = some true := by
  have e1 : (PySem.W.subIn K (.ref S) (.type "BaseException") == some true) = true := by rw [h1]; rfl
  have e2 : ((PySem.W.clsIn K S).isSome && PySem.W.typeIn K (.ref S) == some (.type "type")) = true := by
    rw [show (PySem.W.clsIn K S).isSome = true from h2, h3]
    rfl
  unfold PySem.W.exmOne
  rw [if_pos e1]
  unfold PySem.W.kitCls
  dsimp only
  rw [if_pos e2]
  exact h4
theorem mk_exc {K : PySem.W.Frag} {h : Heap} {mg : PySem.Str → Option Value} {x : PySem.Str} {C : Addr} (X : K.In h) (G : h.Ns mainGlobals mg) (a : PySem.W.nsIn K mainGlobals x = some (some (.ref C))) (e : PySem.W.excIn K C [.type "ValueError", .type "Exception", .type "BaseException", .type "object"] "ValueError.__new__" = true)
    (k : PySem.W.keepIn K (.ref C) = true) (s : PySem.W.subIn K (.ref C) (.type "BaseException") = some true) (t : PySem.W.typeIn K (.ref C) = some (.type "type")) : ExcK K mg x C :=
  ⟨PySem.W.mg_of X G a, ⟨_, _, _, PySem.F.excBase_ValueError, e⟩, k, s, t⟩
/-- where the code object of first_within stands -/
theorem code_at {K : PySem.W.Frag} {h : Heap} {mg : PySem.Str → Option Value} {x : PySem.Str} {f c : Addr} {oc : Value} {od : Option Addr} {fd : FuncData} {sl : Array (Option Value)} (X : K.In h) (G : h.Ns mainGlobals mg) (a : PySem.W.nsIn K mainGlobals x = some (some (.ref f))) (l : K.lookup f = some ⟨oc, od, .func fd, sl⟩) (e : fd.code = .ref c) :
    ∀ (f : Addr) (oc : Value) (od : Option Addr) (osl : Array (Option Value)) (fd' : FuncData), mg x = some (.ref f) → K.lookup f = some ⟨oc, od, .func fd', osl⟩ → fd'.code = .ref c := fun f' oc' od' osl' fd' hm hl => by
  rw [PySem.W.mg_of X G a] at hm
  cases hm
  rw [l] at hl
  cases hl
  exact e
theorem fin {P : Program} {w : World} {K : PySem.W.Frag} {mg mb : PySem.Str → Option Value} {fa a c Pt Ce : Addr} {s₁ : Shared} {vs : List Value} {ns : List Int} (KX : K.In s₁.heap) (gns : s₁.heap.Ns mainGlobals mg) (bns : s₁.heap.Ns builtinsNs mb) (blt : ∀ x : PySem.Str, x ≠ "__name__" → mb x = bootBuiltins x) (lim : s₁.heap.NoLimit) (gens : s₁.gens = #[])
    (main : ∃ (bm : Addr) (ob : Obj), mg "__builtins__" = some (.ref bm) ∧ bm ≠ builtinsNs ∧ s₁.heap.get? bm = some ob ∧ ob.cls = .type "module" ∧ ob.dict = some builtinsNs ∧ ob.data = .plain)
    (hm : mg "law" = some (.ref fa)) (ha : s₁.heap.get? a = some { cls := .type "list", data := .seq vs.toArray }) (hi : IntsAre vs ns) (hl : ns.length ≤ 63)
    (hT : s₁.heap.get? Pt = some { cls := .none, data := .fields #[] }) (nT : K.lookup Pt = none) (C : PySem.W.CodeHd s₁.heap c Pt)
    (hcd : ∀ (f : Addr) (oc : Value) (od : Option Addr) (osl : Array (Option Value)) (fd' : FuncData), mg "first_within" = some (.ref f) → K.lookup f = some ⟨oc, od, .func fd', osl⟩ → fd'.code = .ref c)
    (X : ExcK K mg "InvalidRule" Ce) (hx : PySem.W.exmOne K (.ref Ce) (.ref Ce) = some true) (T : TF K mg) :
    codeAny (model P w) callerA (.call (.ref fa) ⟨[.ref a], []⟩) (fun r s' => r = .ok (.ret (.bool true)) ∧ OldK s₁.heap s'.heap ∧ s'.os = s₁.os ∧ AllBare s'.gens) s₁ := by
  refine law_callF (k := 10) (sp := sp_law K Pt) KX gns bns blt lim gens hT nT C main ha hi (Nat.le_trans hl (by decide)) ⟨rfl, by decide, by decide⟩ hm (fun base _ _ tb => law_has T ⟨tb, hcd⟩ X hx) fun H hH hS => ?_
  refine ⟨ns, H, Same.refl H, ⟨⟨.lst hS ?_, #[], hH, ?_, ?_⟩, trivial⟩, hl, fun v Hf' H' A g ok e => ?_⟩
  · clear hS hi hl
    induction ns with
    | nil => exact .nil
    | cons n ns ih => exact .cons (Dp.int n) ih
  · exact True.intro
  · intro pos cv z
    cases z
  · have e : A = Is K true := e
    subst e
    exact dp_bl ok
end K89
open PySem PySem.W PyProof.Rows
set_option maxRecDepth 100000 in
set_option maxHeartbeats 0 in
theorem PySem.Challenge.cw_keywise_k89_whole_patterns_give_the_rule_holds : PySem.Challenge.rw_keywise_k89_whole_patterns_give_the_rule.Holds := by
  w_on; o_law; k_head; (case hw => w_witness2)
  k_fill
  refine' Att.attach_callB (l := PySem.Challenge.rw_keywise_k89_whole_patterns_give_the_rule) (n := 63) rfl rfl ?call
  case call =>
    intro w s₀ s₁ mg mb fa o pm cd doc a vs ns G Y ho hd hcd hmg hobj hints hlen hbits hg
    have KX := km_in_of Y
    have TX := km_tabs_of Y
    have GX := G.T.g
    refine' K89.fin KX GX G.T.b G.T.builtins G.T.nolimit hg G.T.bmain hmg hobj hints hlen (TX _ List.mem_cons_self) ?nT ?C (K89.code_at KX GX ?fa ?fl ?fe) (K89.mk_exc KX GX ?ea ?ee ?ek ?es ?et) (K89.exm_own ?es2 ?ei ?et2 ?ess) ?T
    (case fa => k_is); (case fl => k_is); (case fe => rfl)
    (case nT => rfl)
    (case C => refine codeHd_of_K KX ?_; rfl)
    (case ea => k_is); (case ee => k_exc); (case ek => k_is); (case es => k_is); (case et => k_is); (case es2 => k_is); (case ei => k_is); (case et2 => k_is); (case ess => first | rfl | k_is)
    case T =>
      constructor
      case d_is_integer => (refine' K89.mk_def KX GX K89.bd_is_integer ?a ?l ?c ?k; (case a => k_is); (case l => k_is); (case c => k_is); (case k => k_is))
      case d_is_between => (refine' K89.mk_def KX GX K89.bd_is_between ?a ?l ?c ?k; (case a => k_is); (case l => k_is); (case c => k_is); (case k => k_is))
      case d_are_ascending => (refine' K89.mk_def KX GX K89.bd_are_ascending ?a ?l ?c ?k; (case a => k_is); (case l => k_is); (case c => k_is); (case k => k_is))
      case d_is_row_in => (refine' K89.mk_def KX GX K89.bd_is_row_in ?a ?l ?c ?k; (case a => k_is); (case l => k_is); (case c => k_is); (case k => k_is))
      case d_is_literal => (refine' K89.mk_def KX GX K89.bd_is_literal ?a ?l ?c ?k; (case a => k_is); (case l => k_is); (case c => k_is); (case k => k_is))
      case d_is_partial_in => (refine' K89.mk_def KX GX K89.bd_is_partial_in ?a ?l ?c ?k; (case a => k_is); (case l => k_is); (case c => k_is); (case k => k_is))
      case d_has_both_bits => (refine' K89.mk_def KX GX K89.bd_has_both_bits ?a ?l ?c ?k; (case a => k_is); (case l => k_is); (case c => k_is); (case k => k_is))
      case d_is_rule => (refine' K89.mk_def KX GX K89.bd_is_rule ?a ?l ?c ?k; (case a => k_is); (case l => k_is); (case c => k_is); (case k => k_is))
      case d_require_size => (refine' K89.mk_def KX GX K89.bd_require_size ?a ?l ?c ?k; (case a => k_is); (case l => k_is); (case c => k_is); (case k => k_is))
      case d_require_rule => (refine' K89.mk_def KX GX K89.bd_require_rule ?a ?l ?c ?k; (case a => k_is); (case l => k_is); (case c => k_is); (case k => k_is))
      case d_require_partial => (refine' K89.mk_def KX GX K89.bd_require_partial ?a ?l ?c ?k; (case a => k_is); (case l => k_is); (case c => k_is); (case k => k_is))
      case d_rows_of_size => (refine' K89.mk_def KX GX K89.bd_rows_of_size ?a ?l ?c ?k; (case a => k_is); (case l => k_is); (case c => k_is); (case k => k_is))
      case d_contains_in => (refine' K89.mk_def KX GX K89.bd_contains_in ?a ?l ?c ?k; (case a => k_is); (case l => k_is); (case c => k_is); (case k => k_is))
      case d_code_of => (refine' K89.mk_def KX GX K89.bd_code_of ?a ?l ?c ?k; (case a => k_is); (case l => k_is); (case c => k_is); (case k => k_is))
      case d_held_codes => (refine' K89.mk_def KX GX K89.bd_held_codes ?a ?l ?c ?k; (case a => k_is); (case l => k_is); (case c => k_is); (case k => k_is))
      case d_numbers_within => (refine' K89.mk_def KX GX K89.bd_numbers_within ?a ?l ?c ?k; (case a => k_is); (case l => k_is); (case c => k_is); (case k => k_is))
      case d_is_least => (refine' K89.mk_def KX GX K89.bd_is_least ?a ?l ?c ?k; (case a => k_is); (case l => k_is); (case c => k_is); (case k => k_is))
      case d_partial_of => (refine' K89.mk_def KX GX K89.bd_partial_of ?a ?l ?c ?k; (case a => k_is); (case l => k_is); (case c => k_is); (case k => k_is))
      case d_patterns_in => (refine' K89.mk_def KX GX K89.bd_patterns_in ?a ?l ?c ?k; (case a => k_is); (case l => k_is); (case c => k_is); (case k => k_is))
      case d_is_held => (refine' K89.mk_def KX GX K89.bd_is_held ?a ?l ?c ?k; (case a => k_is); (case l => k_is); (case c => k_is); (case k => k_is))
      case d_is_pattern_in => (refine' K89.mk_def KX GX K89.bd_is_pattern_in ?a ?l ?c ?k; (case a => k_is); (case l => k_is); (case c => k_is); (case k => k_is))
      case d_is_part => (refine' K89.mk_def KX GX K89.bd_is_part ?a ?l ?c ?k; (case a => k_is); (case l => k_is); (case c => k_is); (case k => k_is))
      case d_first_within => (refine' K89.mk_def KX GX K89.bd_first_within ?a ?l ?c ?k; (case a => k_is); (case l => k_is); (case c => k_is); (case k => k_is))
      case d_is_row_for => (refine' K89.mk_def KX GX K89.bd_is_row_for ?a ?l ?c ?k; (case a => k_is); (case l => k_is); (case c => k_is); (case k => k_is))
      case d_require_partials => (refine' K89.mk_def KX GX K89.bd_require_partials ?a ?l ?c ?k; (case a => k_is); (case l => k_is); (case c => k_is); (case k => k_is))
      case d_rows_without => (refine' K89.mk_def KX GX K89.bd_rows_without ?a ?l ?c ?k; (case a => k_is); (case l => k_is); (case c => k_is); (case k => k_is))
      case d_patterns => (refine' K89.mk_def KX GX K89.bd_patterns ?a ?l ?c ?k; (case a => k_is); (case l => k_is); (case c => k_is); (case k => k_is))
      case d_is_pattern => (refine' K89.mk_def KX GX K89.bd_is_pattern ?a ?l ?c ?k; (case a => k_is); (case l => k_is); (case c => k_is); (case k => k_is))
      case d_pattern_within => (refine' K89.mk_def KX GX K89.bd_pattern_within ?a ?l ?c ?k; (case a => k_is); (case l => k_is); (case c => k_is); (case k => k_is))
      case d_pattern_rows => (refine' K89.mk_def KX GX K89.bd_pattern_rows ?a ?l ?c ?k; (case a => k_is); (case l => k_is); (case c => k_is); (case k => k_is))
      case d_is_pattern_paper => (refine' K89.mk_def KX GX K89.bd_is_pattern_paper ?a ?l ?c ?k; (case a => k_is); (case l => k_is); (case c => k_is); (case k => k_is))
      case d_rule_of_patterns => (refine' K89.mk_def KX GX K89.bd_rule_of_patterns ?a ?l ?c ?k; (case a => k_is); (case l => k_is); (case c => k_is); (case k => k_is))
      case d_gives => (refine' K89.mk_def KX GX K89.bd_gives ?a ?l ?c ?k; (case a => k_is); (case l => k_is); (case c => k_is); (case k => k_is))
      case d__law_stream => (refine' K89.mk_def KX GX K89.bd__law_stream ?a ?l ?c ?k; (case a => k_is); (case l => k_is); (case c => k_is); (case k => k_is))
      case d__law_draw => (refine' K89.mk_def KX GX K89.bd__law_draw ?a ?l ?c ?k; (case a => k_is); (case l => k_is); (case c => k_is); (case k => k_is))
      case d__law_pick => (refine' K89.mk_def KX GX K89.bd__law_pick ?a ?l ?c ?k; (case a => k_is); (case l => k_is); (case c => k_is); (case k => k_is))
      case d__law_mixed => (refine' K89.mk_def KX GX K89.bd__law_mixed ?a ?l ?c ?k; (case a => k_is); (case l => k_is); (case c => k_is); (case k => k_is))
      case d__law_rows => (refine' K89.mk_def KX GX K89.bd__law_rows ?a ?l ?c ?k; (case a => k_is); (case l => k_is); (case c => k_is); (case k => k_is))
      case d__law_row => (refine' K89.mk_def KX GX K89.bd__law_row ?a ?l ?c ?k; (case a => k_is); (case l => k_is); (case c => k_is); (case k => k_is))
      case d__law_is_rule => (refine' K89.mk_def KX GX K89.bd__law_is_rule ?a ?l ?c ?k; (case a => k_is); (case l => k_is); (case c => k_is); (case k => k_is))
      case d__law_rule_of => (refine' K89.mk_def KX GX K89.bd__law_rule_of ?a ?l ?c ?k; (case a => k_is); (case l => k_is); (case c => k_is); (case k => k_is))
      case d__law_contains => (refine' K89.mk_def KX GX K89.bd__law_contains ?a ?l ?c ?k; (case a => k_is); (case l => k_is); (case c => k_is); (case k => k_is))
      case d__law_partial => (refine' K89.mk_def KX GX K89.bd__law_partial ?a ?l ?c ?k; (case a => k_is); (case l => k_is); (case c => k_is); (case k => k_is))
      case d__law_drawn_rows => (refine' K89.mk_def KX GX K89.bd__law_drawn_rows ?a ?l ?c ?k; (case a => k_is); (case l => k_is); (case c => k_is); (case k => k_is))
      case d__law_rule => (refine' K89.mk_def KX GX K89.bd__law_rule ?a ?l ?c ?k; (case a => k_is); (case l => k_is); (case c => k_is); (case k => k_is))
      case d__law_partials => (refine' K89.mk_def KX GX K89.bd__law_partials ?a ?l ?c ?k; (case a => k_is); (case l => k_is); (case c => k_is); (case k => k_is))
      case d__law_is_held => (refine' K89.mk_def KX GX K89.bd__law_is_held ?a ?l ?c ?k; (case a => k_is); (case l => k_is); (case c => k_is); (case k => k_is))
      case d__law_is_pattern => (refine' K89.mk_def KX GX K89.bd__law_is_pattern ?a ?l ?c ?k; (case a => k_is); (case l => k_is); (case c => k_is); (case k => k_is))
      case d__law_is_part => (refine' K89.mk_def KX GX K89.bd__law_is_part ?a ?l ?c ?k; (case a => k_is); (case l => k_is); (case c => k_is); (case k => k_is))
      case d__law_without => (refine' K89.mk_def KX GX K89.bd__law_without ?a ?l ?c ?k; (case a => k_is); (case l => k_is); (case c => k_is); (case k => k_is))
      case d__law_rows_for => (refine' K89.mk_def KX GX K89.bd__law_rows_for ?a ?l ?c ?k; (case a => k_is); (case l => k_is); (case c => k_is); (case k => k_is))
      case d__law_partial_right => (refine' K89.mk_def KX GX K89.bd__law_partial_right ?a ?l ?c ?k; (case a => k_is); (case l => k_is); (case c => k_is); (case k => k_is))
      case d__law_set_right => (refine' K89.mk_def KX GX K89.bd__law_set_right ?a ?l ?c ?k; (case a => k_is); (case l => k_is); (case c => k_is); (case k => k_is))
      case d__law_given_right => (refine' K89.mk_def KX GX K89.bd__law_given_right ?a ?l ?c ?k; (case a => k_is); (case l => k_is); (case c => k_is); (case k => k_is))
      case d__law_right => (refine' K89.mk_def KX GX K89.bd__law_right ?a ?l ?c ?k; (case a => k_is); (case l => k_is); (case c => k_is); (case k => k_is))
      case d_law => (refine' K89.mk_def KX GX K89.bd_law ?a ?l ?c ?k; (case a => k_is); (case l => k_is); (case c => k_is); (case k => k_is))
      case g_MAX_KEYS => exact ⟨_, PySem.W.mg_of KX GX (by k_is)⟩
      all_goals exact PySem.W.mg_none_of KX GX (by k_is)
