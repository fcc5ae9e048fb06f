import PyProof.Rows.All
import Wide.All
import OpenK.AllK
import Wide.FinOn
import HandS.ForMost
import HandS.ForExc
import HandS.Defaults
import HandS.DictComp
import HandS.IsInst
import HandS.Flow
import HandS.Strs
import HandS.TupLe
import HandS.TupAny
import HandS.Deep
import HandS.Zip
import HandS.Rev
import HandS.RevRange
import HandS.Remove
import HandS.SetKeys
import HandS.Style
import HandS.Lambda
import HandS.SortKw
import HandS.Conv
import KE.DataMinMax
import KE.SortKeyHeap
import KE.GoesEnum
import HandS.HeadHook1
import KE.SortData
import KE.DataFind
import HandS.TupSets
import KE.KStateDown
import HandS.Head0
import HandS.Head1
import HandS.Head2
import HandS.HeadEnd
import HandS.HeadHook2
import PySem.Challenge.RW_shoplands_k08_whole_least_sum
section
set_option Elab.async false
set_option linter.all false
set_option maxRecDepth 100000
set_option maxHeartbeats 4000000
set_option autoImplicit false
/-! DL1: data values, memory, the relation to the hand layer's heap, the judgements. -/
namespace DL
open PySem PySem.Spec PyProof.Rows L2

inductive DV where
  | non | bl (b : Bool) | int (i : Int) | str (x : Str) | tup (ds : List DV) | ref (i : Nat)
inductive MO where
  | lst (ds : List DV)
  | rol (ds : List DV)
  | dic (kvs : List (Key × DV))
  | rod (kvs : List (Key × DV))
  | ins (C : Addr) (fs : List (Str × DV))
abbrev Mem := List MO
abbrev Env := List (Option DV)
def MO.mut : MO → Prop
  | .rol _ => False
  | _ => True

/-- an exception: its class, its fields -/
structure DX where
  cls : Value
  fs : List (Str × DV)
inductive Out (α : Type) where
  | ok (a : α) (m : Mem)
  | exc (x : DX) (m : Mem)
  | bad
def Out.bind {α β : Type} (o : Out α) (f : α → Mem → Out β) : Out β := match o with
  | .ok a m => f a m
  | .exc x m => .exc x m
  | .bad => .bad
@[simp] theorem Out.bind_ok {α β : Type} (a : α) (m : Mem) (f : α → Mem → Out β) : (Out.ok a m).bind f = f a m := id rfl
@[simp] theorem Out.bind_exc {α β : Type} (x : DX) (m : Mem) (f : α → Mem → Out β) : (Out.exc x m).bind f = .exc x m := id rfl
@[simp] theorem Out.bind_bad {α β : Type} (f : α → Mem → Out β) : (Out.bad : Out α).bind f = .bad := id rfl
abbrev DE := Env → Mem → Out DV
abbrev DT := Env → Mem → Out Bool
abbrev DA := Env → Mem → Out (List DV)
inductive Fl where
  | nx (env : Env) | bk (env : Env) | ct (env : Env) | rt (d : DV)
abbrev DS := Env → Mem → Out Fl
abbrev DG := DV → Env → Mem → Out Env
abbrev DGs := List DV → Env → Mem → Out Env
abbrev DF := List DV → Mem → Out DV

/-! ### the relation -/
mutual
inductive RV (K : PySem.W.Frag) (μ : List Addr) (H : Hp) : DV → V → Prop
  | non : RV K μ H .non .non
  | bl (b : Bool) : RV K μ H (.bl b) (.bl b)
  | int (i : Int) : RV K μ H (.int i) (.int i)
  | str (x : Str) : RV K μ H (.str x) (.str x)
  | tup {a : Addr} {xs : List V} {ds : List DV} : SqT K H a xs → RVs K μ H ds xs → RV K μ H (.tup ds) (.ref a)
  | ref {i : Nat} {a : Addr} : μ[i]? = some a → RV K μ H (.ref i) (.ref a)
inductive RVs (K : PySem.W.Frag) (μ : List Addr) (H : Hp) : List DV → List V → Prop
  | nil : RVs K μ H [] []
  | cons {d : DV} {v : V} {ds : List DV} {vs : List V} : RV K μ H d v → RVs K μ H ds vs → RVs K μ H (d :: ds) (v :: vs)
end

/-- later: more addresses, all tuples stand -/
structure Ext0 (K : PySem.W.Frag) (μ : List Addr) (H : Hp) (μ' : List Addr) (H' : Hp) : Prop where
  pre : ∀ (i : Nat) (a : Addr), μ[i]? = some a → μ'[i]? = some a
  tups : ∀ (a : Addr) (xs : List V), SqT K H a xs → SqT K H' a xs
/-- .. what is locked too -/
structure Ext (K : PySem.W.Frag) (μ : List Addr) (H : Hp) (μ' : List Addr) (H' : Hp) : Prop extends Ext0 K μ H μ' H' where
  frz : ∀ (a : Addr) (o : Obj) (u : HO), H a = some (.frz o u) → H' a = some (.frz o u)
variable {K : PySem.W.Frag} {μ μ' μ'' : List Addr} {H H' H'' : Hp} {W : XK}
theorem Ext.refl : Ext K μ H μ H := ⟨⟨fun _ _ h => h, fun _ _ h => h⟩, fun _ _ _ h => h⟩
theorem Ext.trans (a : Ext K μ H μ' H') (b : Ext K μ' H' μ'' H'') : Ext K μ H μ'' H'' := ⟨⟨fun i x h => b.pre i x (a.pre i x h), fun x xs h => b.tups x xs (a.tups x xs h)⟩, fun x o u h => b.frz x o u (a.frz x o u h)⟩
mutual
theorem RV.mono0 (e : Ext0 K μ H μ' H') : ∀ (d : DV) (v : V), RV K μ H d v → RV K μ' H' d v
  | .non, _, .non => .non
  | .bl _, _, .bl b => .bl b
  | .int _, _, .int i => .int i
  | .str _, _, .str x => .str x
  | .tup ds, _, .tup q r => .tup (e.tups _ _ q) (RVs.mono0 e ds _ r)
  | .ref _, _, .ref h => .ref (e.pre _ _ h)
theorem RVs.mono0 (e : Ext0 K μ H μ' H') : ∀ (ds : List DV) (vs : List V), RVs K μ H ds vs → RVs K μ' H' ds vs
  | [], _, .nil => .nil
  | d :: ds, _, .cons a b => .cons (RV.mono0 e d _ a) (RVs.mono0 e ds _ b)
end
theorem RV.mono {d : DV} {v : V} (r : RV K μ H d v) (e : Ext K μ H μ' H') : RV K μ' H' d v := r.mono0 e.toExt0
theorem RVs.mono {d : List DV} {v : List V} (r : RVs K μ H d v) (e : Ext K μ H μ' H') : RVs K μ' H' d v := r.mono0 e.toExt0
theorem RVs.length : ∀ {ds : List DV} {vs : List V}, RVs K μ H ds vs → ds.length = vs.length
  | [], _, .nil => rfl
  | _ :: _, _, .cons _ b => by simp [RVs.length b]
theorem RVs.get : ∀ {ds : List DV} {vs : List V} {i : Nat} {d : DV}, RVs K μ H ds vs → ds[i]? = some d → ∃ v, vs[i]? = some v ∧ RV K μ H d v
  | [], _, _, _, .nil, e => by simp at e
  | _ :: _, _, 0, _, .cons a _, e => by simp at e; subst e; exact ⟨_, rfl, a⟩
  | _ :: _, _, i + 1, d, .cons _ b, e => by
    obtain ⟨v, h1, h2⟩ := RVs.get (i := i) (d := d) b (by simpa using e)
    exact ⟨v, by simpa using h1, h2⟩
theorem RVs.get' : ∀ {ds : List DV} {vs : List V} {i : Nat} {v : V}, RVs K μ H ds vs → vs[i]? = some v → ∃ d, ds[i]? = some d ∧ RV K μ H d v
  | [], _, _, _, .nil, e => by simp at e
  | _ :: _, _, 0, _, .cons a _, e => by simp at e; subst e; exact ⟨_, rfl, a⟩
  | _ :: _, _, i + 1, v, .cons _ b, e => by
    obtain ⟨d, h1, h2⟩ := RVs.get' (i := i) (v := v) b (by simpa using e)
    exact ⟨d, by simpa using h1, h2⟩
theorem RVs.append : ∀ {ds es : List DV} {vs us : List V}, RVs K μ H ds vs → RVs K μ H es us → RVs K μ H (ds ++ es) (vs ++ us)
  | [], _, _, _, .nil, r => r
  | _ :: _, _, _, _, .cons a b, r => .cons a (RVs.append b r)
theorem RVs.set {d : DV} {v : V} (r : RV K μ H d v) : ∀ {ds : List DV} {vs : List V} (i : Nat), RVs K μ H ds vs → RVs K μ H (ds.set i d) (vs.set i v)
  | [], _, _, .nil => .nil
  | _ :: _, _, 0, .cons _ b => .cons r b
  | _ :: _, _, i + 1, .cons a b => .cons a (RVs.set r i b)
theorem RVs.take : ∀ {ds : List DV} {vs : List V} (n : Nat), RVs K μ H ds vs → RVs K μ H (ds.take n) (vs.take n)
  | _, _, 0, _ => by simpa using RVs.nil
  | [], _, _ + 1, .nil => .nil
  | _ :: _, _, n + 1, .cons a b => .cons a (RVs.take n b)
theorem RVs.drop : ∀ {ds : List DV} {vs : List V} (n : Nat), RVs K μ H ds vs → RVs K μ H (ds.drop n) (vs.drop n)
  | _, _, 0, r => r
  | [], _, _ + 1, .nil => .nil
  | _ :: _, _, n + 1, .cons _ b => RVs.drop n b
theorem RVs.eraseIdx : ∀ {ds : List DV} {vs : List V} (n : Nat), RVs K μ H ds vs → RVs K μ H (ds.eraseIdx n) (vs.eraseIdx n)
  | [], _, _, .nil => .nil
  | _ :: _, _, 0, .cons _ b => b
  | _ :: _, _, n + 1, .cons a b => .cons a (RVs.eraseIdx n b)
theorem RVs.reverse : ∀ {ds : List DV} {vs : List V}, RVs K μ H ds vs → RVs K μ H ds.reverse vs.reverse
  | [], _, .nil => .nil
  | _ :: _, _, .cons a b => by
    rw [List.reverse_cons, List.reverse_cons]
    exact (RVs.reverse b).append (.cons a .nil)

/-- a list of the written part -/
abbrev KL (K : PySem.W.Frag) (a : Addr) (xs : List V) : Prop := SqL K (fun _ => none) a xs
theorem KL.sq {a : Addr} {xs : List V} (h : KL K a xs) : SqL K H a xs := by
  rcases h with h | h
  · rcases h with h | ⟨o, h⟩ <;> cases h
  · exact .inr h

/-- a dict's pairs -/
abbrev RKV (K : PySem.W.Frag) (μ : List Addr) (H : Hp) : List (Key × DV) → List (Key × V) → Prop := Paired fun p q => p.1 = q.1 ∧ RV K μ H p.2 q.2
theorem rkv_mono {kvs : List (Key × DV)} {kk : List (Key × V)} (r : RKV K μ H kvs kk) (e : Ext0 K μ H μ' H') : RKV K μ' H' kvs kk := Paired.mapP r fun _ _ h => ⟨h.1, h.2.mono0 e⟩
/-- what stands at a, by its content -/
def RO (K : PySem.W.Frag) (μ : List Addr) (H : Hp) (a : Addr) : MO → Prop
  | .lst ds => ∃ xs, H a = some (.lst xs) ∧ RVs K μ H ds xs
  | .rol ds => ∃ xs, ((∃ o, H a = some (.frz o (.lst xs))) ∨ KL K a xs) ∧ RVs K μ H ds xs
  | .rod kvs => ∃ (o : Obj) (kk : List (Key × V)), H a = some (.frz o (.dK kk)) ∧ RKV K μ H kvs kk
  | .dic kvs => ∃ kk : List (Key × V), H a = some (.dK kk) ∧ RKV K μ H kvs kk
  | .ins C fs => ∃ dx fv, H a = some (.ins C dx fv) ∧ fs.map (·.1) = fv.map (·.1) ∧ RVs K μ H (fs.map (·.2)) (fv.map (·.2))
theorem RO.mono {a : Addr} {o : MO} (e : Ext0 K μ H μ' H') (ha : H' a = H a) (r : RO K μ H a o) : RO K μ' H' a o := by
  cases o with
  | lst ds => obtain ⟨xs, h, q⟩ := r; exact ⟨xs, ha.trans h, q.mono0 e⟩
  | rol ds => obtain ⟨xs, h, q⟩ := r; exact ⟨xs, by rw [ha]; exact h, q.mono0 e⟩
  | rod kvs => obtain ⟨o, kk, h, q1⟩ := r; exact ⟨o, kk, ha.trans h, rkv_mono q1 e⟩
  | dic kvs => obtain ⟨kk, h, q1⟩ := r; exact ⟨kk, ha.trans h, rkv_mono q1 e⟩
  | ins C fs => obtain ⟨dx, fv, h, q1, q2⟩ := r; exact ⟨dx, fv, ha.trans h, q1, q2.mono0 e⟩
/-- one that is not read-only is tracked, and is no tuple, no locked list -/
def Bare (u : HO) : Prop := (∀ xs, u ≠ .tup xs) ∧ (∀ ob xs, u ≠ .frz ob (.tup xs)) ∧ ∀ ob xs, u ≠ .frz ob (.lst xs)
theorem RO.trk {a : Addr} {o : MO} (r : RO K μ H a o) (hm : o.mut) : ∃ u, H a = some u ∧ Bare u := by
  cases o with
  | lst ds => obtain ⟨xs, h, _⟩ := r; exact ⟨_, h, (by simp), (by simp), (by simp)⟩
  | rol ds => exact hm.elim
  | rod kvs => obtain ⟨o, kk, h, _⟩ := r; exact ⟨_, h, (by simp), (by simp), (by simp)⟩
  | dic kvs => obtain ⟨kk, h, _⟩ := r; exact ⟨_, h, (by simp), (by simp), (by simp)⟩
  | ins C fs => obtain ⟨dx, fv, h, _⟩ := r; exact ⟨_, h, (by simp), (by simp), (by simp)⟩

structure Rel (K : PySem.W.Frag) (m : Mem) (μ : List Addr) (H : Hp) : Prop where
  len : μ.length = m.length
  obj : ∀ (i : Nat) (a : Addr) (o : MO), μ[i]? = some a → m[i]? = some o → RO K μ H a o
  inj : ∀ (i j : Nat) (a : Addr) (o o' : MO), μ[i]? = some a → μ[j]? = some a → m[i]? = some o → m[j]? = some o' → o.mut → o'.mut → i = j

variable {m m' : Mem}
theorem Rel.at_ (R : Rel K m μ H) {i : Nat} {o : MO} (h : m[i]? = some o) : ∃ a, μ[i]? = some a ∧ RO K μ H a o := by
  have hi : i < μ.length := by rw [R.len]; exact (List.getElem?_eq_some_iff.mp h).1
  exact ⟨μ[i], by simp [hi], R.obj i _ o (by simp [hi]) h⟩

/-- the same memory over a heap in which the tracked ones stand as before -/
theorem Rel.over (R : Rel K m μ H) (t : ∀ a xs, SqT K H a xs → SqT K H' a xs) (k : ∀ a u, H a = some u → H' a = some u) : Rel K m μ H' where
  len := R.len
  inj := R.inj
  obj i a o h1 h2 := by
    have r := R.obj i a o h1 h2
    have e : Ext0 K μ H μ H' := ⟨fun _ _ h => h, t⟩
    cases o with
    | lst ds => obtain ⟨xs, h, q⟩ := r; exact ⟨xs, k _ _ h, q.mono0 e⟩
    | rol ds =>
      obtain ⟨xs, h, q⟩ := r
      refine ⟨xs, ?_, q.mono0 e⟩
      rcases h with ⟨o, h⟩ | h
      · exact .inl ⟨o, k _ _ h⟩
      · exact .inr h
    | rod kvs => obtain ⟨o, kk, h, q1⟩ := r; exact ⟨o, kk, k _ _ h, rkv_mono q1 e⟩
    | dic kvs => obtain ⟨kk, h, q1⟩ := r; exact ⟨kk, k _ _ h, rkv_mono q1 e⟩
    | ins C fs => obtain ⟨dx, fv, h, q1, q2⟩ := r; exact ⟨dx, fv, k _ _ h, q1, q2.mono0 e⟩

theorem same_upd {p : Addr} {o : HO} (hp : H p = none) : ∀ a u, H a = some u → upd H p o a = some u := fun a u h => by
  rw [upd_ne]; exact h
  rintro rfl; rw [hp] at h; cases h
theorem sqT_keep {k : ∀ a u, H a = some u → H' a = some u} : ∀ a xs, SqT K H a xs → SqT K H' a xs := fun a xs h => by
  rcases h with (h | ⟨o, h⟩) | h
  · exact .inl (.inl (k _ _ h))
  · exact .inl (.inr ⟨o, k _ _ h⟩)
  · exact .inr h
theorem ext_fresh {p : Addr} {o : HO} (hp : H p = none) : Ext K μ H μ (upd H p o) := ⟨⟨fun _ _ h => h, sqT_keep (k := same_upd hp)⟩, fun a o u h => same_upd hp a _ h⟩
theorem Rel.fresh (R : Rel K m μ H) {p : Addr} {o : HO} (hp : H p = none) : Rel K m μ (upd H p o) := R.over (sqT_keep (k := same_upd hp)) (same_upd hp)

theorem getElem?_snoc {α : Type} {l : List α} {x : α} {i : Nat} {y : α} (h : (l ++ [x])[i]? = some y) : l[i]? = some y ∨ (i = l.length ∧ y = x) := by
  rcases Nat.lt_trichotomy i l.length with q | q | q
  · rw [List.getElem?_append_left q] at h; exact .inl h
  · subst q; simp at h; exact .inr ⟨rfl, h.symm⟩
  · rw [List.getElem?_eq_none (by simp; omega)] at h; cases h
theorem getElem?_snoc_old {α : Type} {l : List α} {x : α} {i : Nat} {y : α} (h : l[i]? = some y) : (l ++ [x])[i]? = some y := by
  rw [List.getElem?_append_left (List.getElem?_eq_some_iff.mp h).1]; exact h
theorem ext_snoc {p : Addr} : Ext K μ H (μ ++ [p]) H := ⟨⟨fun _ _ h => getElem?_snoc_old h, fun _ _ h => h⟩, fun _ _ _ h => h⟩

/-- a new object, tracked at p -/
theorem Rel.alloc (R : Rel K m μ H) {p : Addr} {o : MO} {u : HO} (hp : H p = none) (new : RO K (μ ++ [p]) (upd H p u) p o) : Rel K (m ++ [o]) (μ ++ [p]) (upd H p u) where
  len := by simp [R.len]
  obj i a o' h1 h2 := by
    rcases getElem?_snoc h1 with h1 | ⟨e1, e2⟩
    · rcases getElem?_snoc h2 with h2 | ⟨e1, e2⟩
      · have r := (R.fresh (o := u) hp).obj i a o' h1 h2
        exact r.mono ext_snoc.toExt0 rfl
      · have := (List.getElem?_eq_some_iff.mp h1).1
        rw [R.len] at this; omega
    · subst e1 e2
      rcases getElem?_snoc h2 with h2 | ⟨e1, e2⟩
      · have := (List.getElem?_eq_some_iff.mp h2).1
        rw [R.len] at this; omega
      · subst e2; exact new
  inj i j a o1 o2 h1 h2 g1 g2 m1 m2 := by
    have old : ∀ {k : Nat} {b : Addr} {ob : MO}, μ[k]? = some b → m[k]? = some ob → ob.mut → b ≠ p := fun {k b ob} q1 q2 q3 e => by
      obtain ⟨u', hu, _⟩ := (R.obj k b ob q1 q2).trk q3
      rw [e, hp] at hu; cases hu
    rcases getElem?_snoc h1 with h1 | ⟨e1, e2⟩ <;> rcases getElem?_snoc h2 with h2 | ⟨f1, f2⟩
    · rcases getElem?_snoc g1 with g1 | ⟨k1, k2⟩ <;> rcases getElem?_snoc g2 with g2 | ⟨l1, l2⟩
      · exact R.inj i j a o1 o2 h1 h2 g1 g2 m1 m2
      · have := (List.getElem?_eq_some_iff.mp h2).1; rw [R.len] at this; omega
      · have := (List.getElem?_eq_some_iff.mp h1).1; rw [R.len] at this; omega
      · omega
    · rcases getElem?_snoc g1 with g1 | ⟨k1, k2⟩
      · exact absurd f2 (old h1 g1 m1)
      · have := (List.getElem?_eq_some_iff.mp h1).1; rw [R.len] at this; omega
    · rcases getElem?_snoc g2 with g2 | ⟨k1, k2⟩
      · exact absurd e2 (old h2 g2 m2)
      · have := (List.getElem?_eq_some_iff.mp h2).1; rw [R.len] at this; omega
    · omega

theorem ext_write0 {a : Addr} {u u' : HO} (ha : H a = some u) (hb : Bare u) : Ext0 K μ H μ (upd H a u') := by
  refine ⟨fun _ _ h => h, fun b xs h => ?_⟩
  rcases h with (h | ⟨o, h⟩) | h
  · refine .inl (.inl ?_)
    rw [upd_ne]; exact h
    rintro rfl; rw [ha] at h; exact hb.1 _ (Option.some.inj h)
  · refine .inl (.inr ⟨o, ?_⟩)
    rw [upd_ne]; exact h
    rintro rfl; rw [ha] at h; exact hb.2.1 _ _ (Option.some.inj h)
  · exact .inr h
theorem ext_write {a : Addr} {u u' : HO} (ha : H a = some u) (hb : Bare u) (hf : ∀ o w, u ≠ .frz o w) : Ext K μ H μ (upd H a u') :=
  ⟨ext_write0 ha hb, fun b o w h => by
    rw [upd_ne]; exact h
    rintro rfl; rw [ha] at h; exact hf _ _ (Option.some.inj h)⟩
/-- an object written -/
theorem Rel.write (R : Rel K m μ H) {i : Nat} {a : Addr} {o o' : MO} {u : HO} (hi : μ[i]? = some a) (hm : m[i]? = some o) (mo : o.mut) (new : RO K μ (upd H a u) a o') (mo' : o'.mut) : Rel K (m.set i o') μ (upd H a u) := by
  obtain ⟨u0, hu, nb⟩ := (R.obj i a o hi hm).trk mo
  have e : Ext0 K μ H μ (upd H a u) := ext_write0 hu nb
  have il : i < m.length := (List.getElem?_eq_some_iff.mp hm).1
  refine ⟨by rw [List.length_set]; exact R.len, fun j b ob h1 h2 => ?_, fun j k b o1 o2 h1 h2 g1 g2 m1 m2 => ?_⟩
  · by_cases hj : i = j
    · subst hj
      rw [List.getElem?_set_self il] at h2
      cases h2
      rw [hi] at h1; cases h1
      exact new
    · rw [List.getElem?_set_ne hj] at h2
      have r := R.obj j b ob h1 h2
      by_cases hb : b = a
      · subst hb
        cases ob with
        | rol ds =>
          obtain ⟨xs, h, q⟩ := r
          refine ⟨xs, ?_, q.mono0 e⟩
          rcases h with ⟨oo, h⟩ | h
          · rw [hu] at h; exact absurd (Option.some.inj h) (nb.2.2 _ _)
          · exact .inr h
        | lst ds => exact absurd (R.inj i j b o _ hi h1 hm h2 mo trivial) hj
        | dic ds => exact absurd (R.inj i j b o _ hi h1 hm h2 mo trivial) hj
        | rod ds => exact absurd (R.inj i j b o _ hi h1 hm h2 mo trivial) hj
        | ins C fs => exact absurd (R.inj i j b o _ hi h1 hm h2 mo trivial) hj
      · exact r.mono e (upd_ne hb)
  · have look : ∀ {x : Nat} {ox : MO}, (m.set i o')[x]? = some ox → ox.mut → ∃ oy, m[x]? = some oy ∧ oy.mut := fun {x ox} g mx => by
      by_cases hx : i = x
      · subst hx; exact ⟨o, hm, mo⟩
      · rw [List.getElem?_set_ne hx] at g; exact ⟨_, g, mx⟩
    obtain ⟨p1, q1, r1⟩ := look g1 m1
    obtain ⟨p2, q2, r2⟩ := look g2 m2
    exact R.inj j k b p1 p2 h1 h2 q1 q2 r1 r2
end DL

end
section
set_option Elab.async false
set_option linter.all false
set_option maxRecDepth 100000
set_option maxHeartbeats 4000000
set_option autoImplicit false
/-! DL2: judgements; names, constants, operators, displays, tests, statements. -/
namespace DL
open PySem PySem.Spec L2

/-- an exception's fields -/
def XR (K : PySem.W.Frag) (μ : List Addr) (H : Hp) (x : DX) (a : Option Addr) : Prop :=
  ∃ dd fv, a = some dd ∧ H dd = some (.xd fv) ∧ x.fs.map (·.1) = fv.map (·.1) ∧ RVs K μ H (x.fs.map (·.2)) (fv.map (·.2))

/-- what is wanted behind an outcome -/
def wp {α β : Type} (K : PySem.W.Frag) (W : XK) (R : List Addr → Hp → α → β → Prop) (μ : List Addr) (H : Hp) (o : Out α) (Q : β → Hp → Prop) : Prop := match o with
  | .ok a m' => ∀ b μ' H', Ext K μ H μ' H' → Rel K m' μ' H' → R μ' H' a b → Q b H'
  | .exc x m' => ∀ a μ' H', Ext K μ H μ' H' → Rel K m' μ' H' → XR K μ' H' x a → W x.cls a H'
  | .bad => False

section
variable {α β γ δ : Type} {K : PySem.W.Frag} {W : XK} {R : List Addr → Hp → α → β → Prop} {R' : List Addr → Hp → γ → δ → Prop} {μ μ' : List Addr} {H H' : Hp}
theorem wp.later {o : Out α} {Q : β → Hp → Prop} (e : Ext K μ H μ' H') (h : wp K W R μ H o Q) : wp K W R μ' H' o Q := by
  cases o with
  | ok a m => exact fun b μ2 H2 e2 => h b μ2 H2 (e.trans e2)
  | exc x m => exact fun a μ2 H2 e2 => h a μ2 H2 (e.trans e2)
  | bad => exact h
theorem wp.mono {o : Out α} {Q Q' : β → Hp → Prop} (h : wp K W R μ H o Q) (k : ∀ b H', Q b H' → Q' b H') : wp K W R μ H o Q' := by
  cases o with
  | ok a m => exact fun b μ2 H2 e2 r1 r2 => k _ _ (h b μ2 H2 e2 r1 r2)
  | exc x m => exact h
  | bad => exact h
/-- what stands behind the first part -/
def Mid (K : PySem.W.Frag) (W : XK) (R : List Addr → Hp → α → β → Prop) (R' : List Addr → Hp → γ → δ → Prop) (μ : List Addr) (H : Hp) (f : α → Mem → Out γ) (Q : δ → Hp → Prop) (b : β) (H1 : Hp) : Prop :=
  ∃ a m' μ', Ext K μ H μ' H1 ∧ Rel K m' μ' H1 ∧ R μ' H1 a b ∧ wp K W R' μ' H1 (f a m') Q
theorem wp.bind {o : Out α} {f : α → Mem → Out γ} {Q : δ → Hp → Prop} (h : wp K W R' μ H (o.bind f) Q) : wp K W R μ H o (Mid K W R R' μ H f Q) := by
  cases o with
  | ok a m => exact fun b μ2 H2 e2 r1 r2 => ⟨a, m, μ2, e2, r1, r2, wp.later e2 h⟩
  | exc x m => exact h
  | bad => exact h
theorem wp.ok {a : α} {m : Mem} {b : β} {Q : β → Hp → Prop} (h : wp K W R μ H (.ok a m) Q) (r1 : Rel K m μ H) (r2 : R μ H a b) : Q b H := h b μ H Ext.refl r1 r2
end

/-- slots -/
structure RE (K : PySem.W.Frag) (μ : List Addr) (H : Hp) (env : Env) (σ : St) : Prop where
  len : env.length = σ.length
  get : ∀ (i : Nat) (d : DV), env[i]? = some (some d) → ∃ v, σ[i]? = some (some v) ∧ RV K μ H d v
section
variable {K : PySem.W.Frag} {μ μ' : List Addr} {H H' : Hp} {env : Env} {σ : St}
theorem RE.mono (r : RE K μ H env σ) (e : Ext K μ H μ' H') : RE K μ' H' env σ := ⟨r.len, fun i d h => let ⟨v, h1, h2⟩ := r.get i d h; ⟨v, h1, h2.mono e⟩⟩
theorem RE.set (r : RE K μ H env σ) (i : Nat) {d : DV} {v : V} (h : RV K μ H d v) : RE K μ H (env.set i (some d)) (σ.set i (some v)) := by
  refine ⟨by simp [r.len], fun j e q => ?_⟩
  by_cases hj : i = j
  · subst hj
    have hl : i < env.length := by
      have := (List.getElem?_eq_some_iff.mp q).1
      simpa using this
    rw [List.getElem?_set_self hl] at q
    cases q
    exact ⟨v, by rw [List.getElem?_set_self (by rw [← r.len]; exact hl)], h⟩
  · rw [List.getElem?_set_ne hj] at q
    obtain ⟨u, h1, h2⟩ := r.get j e q
    exact ⟨u, by rw [List.getElem?_set_ne hj]; exact h1, h2⟩
theorem RE.kill (r : RE K μ H env σ) (i : Nat) : RE K μ H (env.set i none) σ := by
  refine ⟨by simp [r.len], fun j e q => ?_⟩
  by_cases hj : i = j
  · subst hj
    have hl : i < env.length := by
      have := (List.getElem?_eq_some_iff.mp q).1
      simpa using this
    rw [List.getElem?_set_self hl] at q
    cases q
  · rw [List.getElem?_set_ne hj] at q
    exact r.get j e q
end

/-- the static part of a context -/
structure Cn where
  P : Program
  w : World
  K : PySem.W.Frag
  mg : Str → Option Value
  base : Heap
  N : List Str
  sc : Scope
  k : Nat
  W : XK
  df : Bool
structure Cn.Is (C : Cn) (X : Cx) : Prop where
  P : X.prog = C.P
  w : X.w = C.w
  K : X.K = C.K
  mg : X.mg = C.mg
  base : X.base = C.base
  N : X.N = C.N
  nd : C.N.Nodup
  sc : X.env.scope = C.sc
  calm : X.calm = true
  room : Room C.k X.A
  po : PassesOwn (model X.prog X.w) X.A X.env X.xe
  px : Passes (L2.CX X.prog X.w) X C.W
  fn : C.df = true → ∀ x, X.fn x = true

structure Sd (K : PySem.W.Frag) (W : XK) (t : TE) (D : DE) : Prop where
  run : ∀ env m μ σ H Q, Rel K m μ H → RE K μ H env σ → wp K W (RV K) μ H (D env m) Q → t σ H Q
structure SdT (K : PySem.W.Frag) (W : XK) (t : TT) (D : DT) : Prop where
  run : ∀ env m μ σ H Q, Rel K m μ H → RE K μ H env σ → wp K W (fun _ _ a b => a = b) μ H (D env m) Q → t σ H Q
structure SdA (K : PySem.W.Frag) (W : XK) (t : TA) (D : DA) : Prop where
  run : ∀ env m μ σ H Q, Rel K m μ H → RE K μ H env σ → wp K W (RVs K) μ H (D env m) Q → t σ H Q
def SE (C : Cn) (e : Expr) (D : DE) : Prop := ∃ t, (∀ X, C.Is X → PE X e t) ∧ Sd C.K C.W t D
def ST (C : Cn) (e : Expr) (D : DT) : Prop := ∃ t, (∀ X, C.Is X → PT X e t) ∧ SdT C.K C.W t D
def SW (C : Cn) (e : Expr) (D : DT) : Prop := ∃ t, (∀ X, C.Is X → PW X e t) ∧ SdT C.K C.W t D
def SA (C : Cn) (es : List Expr) (D : DA) : Prop := ∃ t, (∀ X, C.Is X → PA X es t) ∧ SdA C.K C.W t D

variable {C : Cn} {a b c e : Expr} {es : List Expr} {pos : Pos} {A B : DE}

/-! ### names, constants -/
def eVar (i : Nat) : DE := fun env m => match env[i]? with
  | some (some d) => .ok d m
  | _ => .bad
def eC (d : DV) : DE := fun _ m => .ok d m
theorem se_var (i : Nat) {x : Str} (hN : C.N[i]? = some x := by rfl) (hv : Vis C.sc x := by first | exact Or.inl rfl | exact Or.inr (Or.inl rfl) | exact Or.inr (Or.inr rfl)) (hd : (x == ("__debug__" : Str)) = false := by decide)
    (hcd : (x == ("__classdict__" : Str)) = false := by decide) : SE C (.Name x pos) (eVar i) := by
  refine ⟨tVar i, fun X h => pe_var (by rw [h.N]; exact hN) (by rw [h.sc]; exact hv) hd hcd, ⟨fun env m μ σ H Q R E h => ?_⟩⟩
  unfold eVar at h
  cases q : env[i]? with
  | none => rw [q] at h; exact h.elim
  | some o =>
    cases o with
    | none => rw [q] at h; exact h.elim
    | some d =>
      rw [q] at h
      obtain ⟨v, h1, h2⟩ := E.get i d q
      exact ⟨v, h1, h.ok R h2⟩
theorem sd_c {K : PySem.W.Frag} {W : XK} {v : V} {d : DV} (h : ∀ μ H, RV K μ H d v) : Sd K W (tC v) (eC d) := ⟨fun env m μ σ H Q R E q => wp.ok q R (h μ H)⟩
theorem se_int {i j} : SE C (.Constant (.int i) j pos) (eC (.int i)) := ⟨tC (.int i), fun X h => pe_int, sd_c fun _ _ => .int i⟩
theorem se_bl {b j} : SE C (.Constant (.bool b) j pos) (eC (.bl b)) := ⟨tC (.bl b), fun X h => pe_bl, sd_c fun _ _ => .bl b⟩
theorem se_non {j} : SE C (.Constant .none j pos) (eC .non) := ⟨tC .non, fun X h => pe_non, sd_c fun _ _ => .non⟩
theorem se_str {x j} : SE C (.Constant (.str x) j pos) (eC (.str x)) := ⟨tC (.str x), fun X h => pe_str, sd_c fun _ _ => .str x⟩

/-! ### operators -/
abbrev D2 := DV → DV → Mem → Out DV
abbrev D1 := DV → Mem → Out DV
def eBin (f : D2) (A B : DE) : DE := fun env m => (A env m).bind fun x m1 => (B env m1).bind fun y m2 => f x y m2
def eUn (f : D1) (A : DE) : DE := fun env m => (A env m).bind f
def BinD (K : PySem.W.Frag) (W : XK) (r : R2) (f : D2) : Prop := ∀ μ H m x y dx dy Q, Rel K m μ H → RV K μ H dx x → RV K μ H dy y → wp K W (RV K) μ H (f dx dy m) Q → r x y H Q
def UnD (K : PySem.W.Frag) (W : XK) (r : V → Hp → VK → Prop) (f : D1) : Prop := ∀ μ H m x dx Q, Rel K m μ H → RV K μ H dx x → wp K W (RV K) μ H (f dx m) Q → r x H Q
theorem sd_bin {K : PySem.W.Frag} {W : XK} {r : R2} {f : D2} {ta tb : TE} (hf : BinD K W r f) (ha : Sd K W ta A) (hb : Sd K W tb B) : Sd K W (tOp r ta tb) (eBin f A B) := by
  refine ⟨fun env m μ σ H Q R E h => ?_⟩
  refine ha.run env m μ σ H _ R E (wp.mono (wp.bind h) fun x H1 ⟨dx, m1, μ1, e1, R1, r1, h1⟩ => ?_)
  refine hb.run env m1 μ1 σ H1 _ R1 (E.mono e1) (wp.mono (wp.bind h1) fun y H2 ⟨dy, m2, μ2, e2, R2, r2, h2⟩ => ?_)
  exact hf μ2 H2 m2 x y dx dy Q R2 (r1.mono e2) r2 h2
theorem sd_un {K : PySem.W.Frag} {W : XK} {r : V → Hp → VK → Prop} {f : D1} {ta : TE} (hf : UnD K W r f) (ha : Sd K W ta A) : Sd K W (fun σ H Q => ta σ H fun x H1 => r x H1 Q) (eUn f A) := by
  refine ⟨fun env m μ σ H Q R E h => ?_⟩
  refine ha.run env m μ σ H _ R E (wp.mono (wp.bind h) fun x H1 ⟨dx, m1, μ1, e1, R1, r1, h1⟩ => ?_)
  exact hf μ1 H1 m1 x dx Q R1 r1 h1
theorem se_bin {op : Operator} {r : R2} {f : D2} (ho : ∀ X, C.Is X → OpR X (binaryOp op) r) (hf : BinD C.K C.W r f) (ha : SE C a A) (hb : SE C b B) : SE C (.BinOp a op b pos) (eBin f A B) := by
  obtain ⟨ta, pa, da⟩ := ha
  obtain ⟨tb, pb, db⟩ := hb
  exact ⟨tOp r ta tb, fun X h => pe_op (ho X h) (pa X h) (pb X h), sd_bin hf da db⟩
theorem se_cmp {op : CmpOp} {r : R2} {f : D2} (ho : ∀ X, C.Is X → OpR X (compareOp op) r) (hf : BinD C.K C.W r f) (ha : SE C a A) (hb : SE C b B) (hm : behindInMarks op b = false) : SE C (.Compare a [op] [b] pos) (eBin f A B) := by
  obtain ⟨ta, pa, da⟩ := ha
  obtain ⟨tb, pb, db⟩ := hb
  exact ⟨tOp r ta tb, fun X h => pe_cmpR (ho X h) (pa X h) (pb X h) hm, sd_bin hf da db⟩
/-- a value that is a bool, as a test -/
def tst (A : DE) : DT := fun env m => (A env m).bind fun x m1 => match x with
  | .bl c => .ok c m1
  | _ => .bad
theorem sd_tst {K : PySem.W.Frag} {W : XK} {t : TE} (h : Sd K W t A) : SdT K W (tTest t) (tst A) := by
  refine ⟨fun env m μ σ H Q R E q => ?_⟩
  refine h.run env m μ σ H _ R E (wp.mono (wp.bind q) fun x H1 ⟨dx, m1, μ1, e1, R1, r1, h1⟩ => ?_)
  cases r1 <;> first | exact h1.elim | exact ⟨_, rfl, h1.ok R1 rfl⟩
theorem st_cmp {op : CmpOp} {r : R2} {f : D2} (ho : ∀ X, C.Is X → OpR X (compareOp op) r) (hf : BinD C.K C.W r f) (ha : SE C a A) (hb : SE C b B) (hm : behindInMarks op b = false) : ST C (.Compare a [op] [b] pos) (tst (eBin f A B)) := by
  obtain ⟨ta, pa, da⟩ := ha
  obtain ⟨tb, pb, db⟩ := hb
  exact ⟨tTest (tOp r ta tb), fun X h => pt_cmpR (ho X h) (pa X h) (pb X h) hm, sd_tst (sd_bin hf da db)⟩
theorem st_val (ha : SE C a A) (he : ∀ env whole, isTrue a env whole = (do let v ← whole; standAt a.pos; holding [v] (truthy v)) := by intro _ _; rfl) : ST C a (tst A) := by
  obtain ⟨ta, pa, da⟩ := ha
  exact ⟨tB ta, fun X h => pt_val (pa X h) (he X.env), sd_tst da⟩

/-- ints -/
instance (i j : Int) : Decidable (CMul i j) := by unfold CMul; infer_instance
instance (i j : Int) : Decidable (CDiv i j) := by unfold CDiv; infer_instance
instance (i j : Int) : Decidable (CPow i j) := by unfold CPow; infer_instance
def iOp (h : Int → Int → DV) : D2 := fun x y m => match x, y with
  | .int i, .int j => .ok (h i j) m
  | _, _ => .bad
def iOpC (c : Int → Int → Prop) [∀ i j, Decidable (c i j)] (h : Int → Int → DV) : D2 := fun x y m => match x, y with
  | .int i, .int j => if c i j then .ok (h i j) m else .bad
  | _, _ => .bad
abbrev iAdd : D2 := iOp fun i j => .int (i + j)
abbrev iSub : D2 := iOp fun i j => .int (i - j)
abbrev iMul : D2 := iOpC CMul fun i j => .int (i * j)
abbrev iFdiv : D2 := iOpC CDiv fun i j => .int (i / j)
abbrev iMod : D2 := iOpC (fun _ j => 0 < j) fun i j => .int (i % j)
abbrev iPow : D2 := iOpC CPow fun i j => .int (i ^ j.toNat)
abbrev iLt : D2 := iOp fun i j => .bl (decide (i < j))
abbrev iLe : D2 := iOp fun i j => .bl (decide (i ≤ j))
abbrev iGt : D2 := iOp fun i j => .bl (decide (j < i))
abbrev iGe : D2 := iOp fun i j => .bl (decide (j ≤ i))
section
variable {K : PySem.W.Frag} {W : XK}
theorem bd_int0 {g : Int → Int → V} {h : Int → Int → DV} (hg : ∀ μ H i j, RV K μ H (h i j) (g i j)) : BinD K W (rI0 g) (iOp h) := by
  intro μ H m x y dx dy Q R r1 r2 q
  cases r1 <;> cases r2 <;> first | exact False.elim q | exact ⟨_, _, rfl, rfl, wp.ok q R (hg _ _ _ _)⟩
theorem bd_intC {c : Int → Int → Prop} [∀ i j, Decidable (c i j)] {g : Int → Int → V} {h : Int → Int → DV} (hg : ∀ μ H i j, RV K μ H (h i j) (g i j)) : BinD K W (rI c g) (iOpC c h) := by
  intro μ H m x y dx dy Q R r1 r2 q
  cases r1 <;> cases r2 <;> first
    | exact False.elim q
    | (rename_i i j
       have q' : wp K W (RV K) μ H (if c i j then .ok (h i j) m else .bad) Q := q
       by_cases hc : c i j
       · rw [if_pos hc] at q'
         exact ⟨_, _, rfl, rfl, hc, wp.ok q' R (hg _ _ _ _)⟩
       · rw [if_neg hc] at q'
         exact False.elim q')
end
theorem se_add (ha : SE C a A) (hb : SE C b B) : SE C (.BinOp a .Add b pos) (eBin iAdd A B) := se_bin (fun _ _ => op_add) (bd_int0 fun _ _ _ _ => .int _) ha hb
theorem se_sub (ha : SE C a A) (hb : SE C b B) : SE C (.BinOp a .Sub b pos) (eBin iSub A B) := se_bin (fun _ _ => op_sub) (bd_int0 fun _ _ _ _ => .int _) ha hb
theorem se_mul (ha : SE C a A) (hb : SE C b B) : SE C (.BinOp a .Mult b pos) (eBin iMul A B) := se_bin (fun _ _ => op_mul) (bd_intC fun _ _ _ _ => .int _) ha hb
theorem se_fdiv (ha : SE C a A) (hb : SE C b B) : SE C (.BinOp a .FloorDiv b pos) (eBin iFdiv A B) := se_bin (fun _ _ => op_fdiv) (bd_intC fun _ _ _ _ => .int _) ha hb
theorem se_mod (ha : SE C a A) (hb : SE C b B) : SE C (.BinOp a .Mod b pos) (eBin iMod A B) := se_bin (fun _ _ => op_mod) (bd_intC fun _ _ _ _ => .int _) ha hb
theorem se_pow (ha : SE C a A) (hb : SE C b B) : SE C (.BinOp a .Pow b pos) (eBin iPow A B) := se_bin (fun _ _ => op_pow) (bd_intC fun _ _ _ _ => .int _) ha hb
theorem or_lt : ∀ X, C.Is X → OpR X (compareOp .Lt) (rI0 fun i j => .bl (decide (i < j))) := fun _ _ => op_lt
theorem or_le : ∀ X, C.Is X → OpR X (compareOp .LtE) (rI0 fun i j => .bl (decide (i ≤ j))) := fun _ _ => op_le
theorem or_gt : ∀ X, C.Is X → OpR X (compareOp .Gt) (rI0 fun i j => .bl (decide (j < i))) := fun _ _ => op_gt
theorem or_ge : ∀ X, C.Is X → OpR X (compareOp .GtE) (rI0 fun i j => .bl (decide (j ≤ i))) := fun _ _ => op_ge
theorem bd_lt : BinD C.K C.W (rI0 fun i j => .bl (decide (i < j))) iLt := bd_int0 fun _ _ _ _ => .bl _
theorem bd_le : BinD C.K C.W (rI0 fun i j => .bl (decide (i ≤ j))) iLe := bd_int0 fun _ _ _ _ => .bl _
theorem bd_gt : BinD C.K C.W (rI0 fun i j => .bl (decide (j < i))) iGt := bd_int0 fun _ _ _ _ => .bl _
theorem bd_ge : BinD C.K C.W (rI0 fun i j => .bl (decide (j ≤ i))) iGe := bd_int0 fun _ _ _ _ => .bl _

/-- chains: a < b < c -/
def eChain (f g : D2) (A B D : DE) : DE := fun env m => (A env m).bind fun x m1 => (B env m1).bind fun y m2 => (f x y m2).bind fun z m3 => match z with
  | .bl true => (D env m3).bind fun w m4 => g y w m4
  | .bl false => .ok (.bl false) m3
  | _ => .bad

/-! ### and, or, not, if else: tests -/
def tAnd' (A B : DT) : DT := fun env m => (A env m).bind fun x m1 => if x then B env m1 else .ok false m1
def tOr' (A B : DT) : DT := fun env m => (A env m).bind fun x m1 => if x then .ok true m1 else B env m1
def tNot' (A : DT) : DT := fun env m => (A env m).bind fun x m1 => .ok (!x) m1
variable {S T : DT} {rest : List Expr}
theorem SW.st (h : SW C e S) : ST C e S := let ⟨t, p, d⟩ := h; ⟨t, fun X hX => (p X hX).pt, d⟩
theorem sw_and1 (h : ST C a S) : SW C (.BoolOp .And [a] pos) S := let ⟨t, p, d⟩ := h; ⟨t, fun X hX => pw_and1 (p X hX), d⟩
theorem sw_or1 (h : ST C a S) : SW C (.BoolOp .Or [a] pos) S := let ⟨t, p, d⟩ := h; ⟨t, fun X hX => pw_or1 (p X hX), d⟩
theorem sw_and (h : ST C a S) (g : SW C (.BoolOp .And (b :: rest) pos) T) : SW C (.BoolOp .And (a :: b :: rest) pos) (tAnd' S T) := by
  obtain ⟨ta, pa, da⟩ := h
  obtain ⟨tb, pb, db⟩ := g
  refine ⟨tAnd ta tb, fun X hX => pw_and (pa X hX) (pb X hX), ⟨fun env m μ σ H Q R E q => ?_⟩⟩
  refine da.run env m μ σ H _ R E (wp.mono (wp.bind q) fun x H1 ⟨dx, m1, μ1, e1, R1, r1, h1⟩ => ?_)
  subst r1
  cases dx with
  | true => rw [if_pos rfl]; exact db.run env m1 μ1 σ H1 _ R1 (E.mono e1) h1
  | false => rw [if_neg Bool.false_ne_true]; exact h1.ok R1 rfl
theorem sw_or (h : ST C a S) (g : SW C (.BoolOp .Or (b :: rest) pos) T) : SW C (.BoolOp .Or (a :: b :: rest) pos) (tOr' S T) := by
  obtain ⟨ta, pa, da⟩ := h
  obtain ⟨tb, pb, db⟩ := g
  refine ⟨tOr ta tb, fun X hX => pw_or (pa X hX) (pb X hX), ⟨fun env m μ σ H Q R E q => ?_⟩⟩
  refine da.run env m μ σ H _ R E (wp.mono (wp.bind q) fun x H1 ⟨dx, m1, μ1, e1, R1, r1, h1⟩ => ?_)
  subst r1
  cases dx with
  | true => rw [if_pos rfl]; exact h1.ok R1 rfl
  | false => rw [if_neg Bool.false_ne_true]; exact db.run env m1 μ1 σ H1 _ R1 (E.mono e1) h1
theorem st_not (h : ST C a S) : ST C (.UnaryOp .Not a pos) (tNot' S) := by
  obtain ⟨ta, pa, da⟩ := h
  refine ⟨tNot ta, fun X hX => pt_not (pa X hX), ⟨fun env m μ σ H Q R E q => ?_⟩⟩
  refine da.run env m μ σ H _ R E (wp.mono (wp.bind q) fun x H1 ⟨dx, m1, μ1, e1, R1, r1, h1⟩ => ?_)
  subst r1
  exact h1.ok R1 rfl
/-- as values -/
def eAndV (A B : DE) : DE := fun env m => (A env m).bind fun x m1 => match x with
  | .bl true => B env m1
  | .bl false => .ok (.bl false) m1
  | _ => .bad
def eOrV (A B : DE) : DE := fun env m => (A env m).bind fun x m1 => match x with
  | .bl true => .ok (.bl true) m1
  | .bl false => B env m1
  | _ => .bad
def eNotV (A : DE) : DE := fun env m => (A env m).bind fun x m1 => match x with
  | .bl c => .ok (.bl (!c)) m1
  | _ => .bad
theorem se_one {op} (h : SE C a A) : SE C (.BoolOp op [a] pos) A := let ⟨t, p, d⟩ := h; ⟨t, fun X hX => pe_one (p X hX), d⟩
theorem se_and (h : SE C a A) (g : SE C (.BoolOp .And (b :: rest) pos) B) : SE C (.BoolOp .And (a :: b :: rest) pos) (eAndV A B) := by
  obtain ⟨ta, pa, da⟩ := h
  obtain ⟨tb, pb, db⟩ := g
  refine ⟨tAndV ta tb, fun X hX => pe_and (pa X hX) (pb X hX), ⟨fun env m μ σ H Q R E q => ?_⟩⟩
  refine da.run env m μ σ H _ R E (wp.mono (wp.bind q) fun x H1 ⟨dx, m1, μ1, e1, R1, r1, h1⟩ => ?_)
  cases r1 <;> first | exact h1.elim | skip
  case bl c _ =>
  refine ⟨c, rfl, ?_⟩
  cases c with
  | true => rw [if_pos rfl]; exact db.run env m1 μ1 σ H1 _ R1 (E.mono e1) h1
  | false => rw [if_neg Bool.false_ne_true]; exact wp.ok h1 R1 (.bl false)
theorem se_or (h : SE C a A) (g : SE C (.BoolOp .Or (b :: rest) pos) B) : SE C (.BoolOp .Or (a :: b :: rest) pos) (eOrV A B) := by
  obtain ⟨ta, pa, da⟩ := h
  obtain ⟨tb, pb, db⟩ := g
  refine ⟨tOrV ta tb, fun X hX => pe_or (pa X hX) (pb X hX), ⟨fun env m μ σ H Q R E q => ?_⟩⟩
  refine da.run env m μ σ H _ R E (wp.mono (wp.bind q) fun x H1 ⟨dx, m1, μ1, e1, R1, r1, h1⟩ => ?_)
  cases r1 <;> first | exact h1.elim | skip
  case bl c _ =>
  refine ⟨c, rfl, ?_⟩
  cases c with
  | true => rw [if_pos rfl]; exact wp.ok h1 R1 (.bl true)
  | false => rw [if_neg Bool.false_ne_true]; exact db.run env m1 μ1 σ H1 _ R1 (E.mono e1) h1
theorem se_not (h : SE C a A) : SE C (.UnaryOp .Not a pos) (eNotV A) := by
  obtain ⟨ta, pa, da⟩ := h
  refine ⟨tNotV ta, fun X hX => pe_not (pa X hX), ⟨fun env m μ σ H Q R E q => ?_⟩⟩
  refine da.run env m μ σ H _ R E (wp.mono (wp.bind q) fun x H1 ⟨dx, m1, μ1, e1, R1, r1, h1⟩ => ?_)
  cases r1 <;> first | exact h1.elim | exact ⟨_, rfl, wp.ok h1 R1 (.bl _)⟩
def eIf (S : DT) (A B : DE) : DE := fun env m => (S env m).bind fun c m1 => if c then A env m1 else B env m1
theorem se_ifExp (h : ST C c S) (ha : SE C a A) (hb : SE C b B) : SE C (.IfExp c a b pos) (eIf S A B) := by
  obtain ⟨tc, pc, dc⟩ := h
  obtain ⟨ta, pa, da⟩ := ha
  obtain ⟨tb, pb, db⟩ := hb
  refine ⟨tIf tc ta tb, fun X hX => pe_ifExp (pc X hX) (pa X hX) (pb X hX), ⟨fun env m μ σ H Q R E q => ?_⟩⟩
  refine dc.run env m μ σ H _ R E (wp.mono (wp.bind q) fun x H1 ⟨dx, m1, μ1, e1, R1, r1, h1⟩ => ?_)
  subst r1
  cases dx with
  | true => rw [if_pos rfl]; exact da.run env m1 μ1 σ H1 _ R1 (E.mono e1) h1
  | false => rw [if_neg Bool.false_ne_true]; exact db.run env m1 μ1 σ H1 _ R1 (E.mono e1) h1

/-! ### argument lists, displays -/
def aNil : DA := fun _ m => .ok [] m
def aCons (A : DE) (As : DA) : DA := fun env m => (A env m).bind fun x m1 => (As env m1).bind fun xs m2 => .ok (x :: xs) m2
variable {As : DA}
theorem sa_nil : SA C [] aNil := ⟨tNil, fun X h => pa_nil, ⟨fun env m μ σ H Q R E q => q.ok R .nil⟩⟩
theorem sa_cons (h : SE C e A) (hr : SA C es As) (hs : ∀ env, starEach (e :: es) env = (false, eval e env) :: starEach es env := by intro _; rfl) : SA C (e :: es) (aCons A As) := by
  obtain ⟨ta, pa, da⟩ := h
  obtain ⟨tr, pr, dr⟩ := hr
  refine ⟨tCons ta tr, fun X hX => pa_cons (pa X hX) (pr X hX) (hs X.env), ⟨fun env m μ σ H Q R E q => ?_⟩⟩
  refine da.run env m μ σ H _ R E (wp.mono (wp.bind q) fun x H1 ⟨dx, m1, μ1, e1, R1, r1, h1⟩ => ?_)
  refine dr.run env m1 μ1 σ H1 _ R1 (E.mono e1) (wp.mono (wp.bind h1) fun y H2 ⟨dy, m2, μ2, e2, R2, r2, h2⟩ => ?_)
  exact h2.ok R2 (.cons (r1.mono e2) r2)
def eTup (As : DA) : DE := fun env m => (As env m).bind fun ds m1 => if ds.length ≤ 16777216 then .ok (.tup ds) m1 else .bad
def eLst (As : DA) : DE := fun env m => (As env m).bind fun ds m1 => if ds.length ≤ 16777216 then .ok (.ref m1.length) (m1 ++ [.lst ds]) else .bad
theorem line_eq : (sizeLine : Nat) = 16777216 := sizeLine_eq
theorem sqT_new {K : PySem.W.Frag} {H : Hp} {p : Addr} {xs : List V} : SqT K (upd H p (.tup xs)) p xs := .of upd_same
theorem se_tup {x1} (h : SA C es As) : SE C (.Tuple es x1 pos) (eTup As) := by
  obtain ⟨ta, pa, da⟩ := h
  refine ⟨tTup ta, fun X hX => pe_tup (pa X hX), ⟨fun env m μ σ H Q R E q => ?_⟩⟩
  refine da.run env m μ σ H _ R E (wp.mono (wp.bind q) fun xs H1 ⟨ds, m1, μ1, e1, R1, r1, h1⟩ => ?_)
  dsimp only at h1
  by_cases hl : ds.length ≤ 16777216
  · rw [if_pos hl] at h1
    refine ⟨by rw [← r1.length, line_eq]; exact hl, fun p hp => ?_⟩
    exact h1 _ μ1 _ (ext_fresh hp) (R1.fresh hp) (.tup sqT_new (r1.mono (ext_fresh hp)))
  · rw [if_neg hl] at h1; exact h1.elim
theorem rel_lst {K : PySem.W.Frag} {m : Mem} {μ : List Addr} {H : Hp} {ds : List DV} {xs : List V} {p : Addr} (R : Rel K m μ H) (hp : H p = none) (r : RVs K μ H ds xs) : Rel K (m ++ [.lst ds]) (μ ++ [p]) (upd H p (.lst xs)) :=
  R.alloc hp ⟨xs, upd_same, r.mono ((ext_fresh hp).trans ext_snoc)⟩
theorem rv_new {K : PySem.W.Frag} {m : Mem} {μ : List Addr} {H H' : Hp} {p : Addr} (R : Rel K m μ H) : RV K (μ ++ [p]) H' (.ref m.length) (.ref p) := .ref (by rw [← R.len]; simp)
theorem se_lst (h : SA C es As) : SE C (.List es pos) (eLst As) := by
  obtain ⟨ta, pa, da⟩ := h
  refine ⟨tLst ta, fun X hX => pe_lst (pa X hX), ⟨fun env m μ σ H Q R E q => ?_⟩⟩
  refine da.run env m μ σ H _ R E (wp.mono (wp.bind q) fun xs H1 ⟨ds, m1, μ1, e1, R1, r1, h1⟩ => ?_)
  dsimp only at h1
  by_cases hl : ds.length ≤ 16777216
  · rw [if_pos hl] at h1
    refine ⟨by rw [← r1.length, line_eq]; exact hl, fun p hp => ?_⟩
    exact h1 _ _ _ ((ext_fresh hp).trans ext_snoc) (rel_lst R1 hp r1) (rv_new R1)
  · rw [if_neg hl] at h1; exact h1.elim
end DL

end
section
set_option Elab.async false
set_option linter.all false
set_option maxRecDepth 100000
set_option maxHeartbeats 4000000
set_option autoImplicit false
/-! DL3: statements, loops, comprehensions, calls of defs, defs. -/
namespace DL
open PySem PySem.Spec L2

/-! ### statements -/
def wpS (K : PySem.W.Frag) (W : XK) (μ : List Addr) (H : Hp) (o : Out Fl) (Dn : Ends) : Prop := match o with
  | .ok fl m' => ∀ μ' H', Ext K μ H μ' H' → Rel K m' μ' H' → (match fl with
    | .nx env => ∀ σ', RE K μ' H' env σ' → Dn.nx σ' H'
    | .bk env => ∀ σ', RE K μ' H' env σ' → Dn.bk σ' H'
    | .ct env => ∀ σ', RE K μ' H' env σ' → Dn.ct σ' H'
    | .rt d => ∀ v, RV K μ' H' d v → Dn.rt v H')
  | .exc x m' => ∀ a μ' H', Ext K μ H μ' H' → Rel K m' μ' H' → XR K μ' H' x a → W x.cls a H'
  | .bad => False
section
variable {α β : Type} {K : PySem.W.Frag} {W : XK} {R : List Addr → Hp → α → β → Prop} {μ μ' : List Addr} {H H' : Hp} {Dn Dn' : Ends}
theorem wpS.later {o : Out Fl} (e : Ext K μ H μ' H') (h : wpS K W μ H o Dn) : wpS K W μ' H' o Dn := by
  cases o with
  | ok a m => exact fun μ2 H2 e2 r => h μ2 H2 (e.trans e2) r
  | exc x m => exact fun a μ2 H2 e2 => h a μ2 H2 (e.trans e2)
  | bad => exact h
def MidS (K : PySem.W.Frag) (W : XK) (R : List Addr → Hp → α → β → Prop) (μ : List Addr) (H : Hp) (f : α → Mem → Out Fl) (Dn : Ends) (b : β) (H1 : Hp) : Prop :=
  ∃ a m' μ', Ext K μ H μ' H1 ∧ Rel K m' μ' H1 ∧ R μ' H1 a b ∧ wpS K W μ' H1 (f a m') Dn
theorem wpS.bind {o : Out α} {f : α → Mem → Out Fl} (h : wpS K W μ H (o.bind f) Dn) : wp K W R μ H o (MidS K W R μ H f Dn) := by
  cases o with
  | ok a m => exact fun b μ2 H2 e2 r1 r2 => ⟨a, m, μ2, e2, r1, r2, wpS.later e2 h⟩
  | exc x m => exact h
  | bad => exact h
theorem wpS.nx {env : Env} {m : Mem} {σ : St} (h : wpS K W μ H (.ok (.nx env) m) Dn) (r1 : Rel K m μ H) (r2 : RE K μ H env σ) : Dn.nx σ H := h μ H Ext.refl r1 σ r2
theorem wpS.rt {d : DV} {m : Mem} {v : V} (h : wpS K W μ H (.ok (.rt d) m) Dn) (r1 : Rel K m μ H) (r2 : RV K μ H d v) : Dn.rt v H := h μ H Ext.refl r1 v r2
end
structure SdS (K : PySem.W.Frag) (W : XK) (t : TS) (D : DS) : Prop where
  run : ∀ env m μ σ H Dn, Rel K m μ H → RE K μ H env σ → wpS K W μ H (D env m) Dn → t Dn σ H
structure SdG (K : PySem.W.Frag) (W : XK) (t : TG) (D : DG) : Prop where
  run : ∀ d v env m μ σ H Q, Rel K m μ H → RE K μ H env σ → RV K μ H d v → wp K W (fun μ H => RE K μ H) μ H (D d env m) Q → t v σ H Q
structure SdGs (K : PySem.W.Frag) (W : XK) (t : TGs) (D : DGs) : Prop where
  run : ∀ ds vs env m μ σ H Q, Rel K m μ H → RE K μ H env σ → RVs K μ H ds vs → wp K W (fun μ H => RE K μ H) μ H (D ds env m) Q → t vs σ H Q
def SS (C : Cn) (st : Stmt) (D : DS) : Prop := ∃ t, (∀ X, C.Is X → PS X st t) ∧ SdS C.K C.W t D
def SSs (C : Cn) (sts : List Stmt) (D : DS) : Prop := ∃ t, (∀ X, C.Is X → PSs X sts t) ∧ SdS C.K C.W t D
def SG (C : Cn) (e : Expr) (D : DG) : Prop := ∃ t, (∀ X, C.Is X → PG X e t) ∧ SdG C.K C.W t D
def SGs (C : Cn) (es : List Expr) (D : DGs) : Prop := ∃ t, (∀ X, C.Is X → PGs X es t) ∧ SdGs C.K C.W t D

section
variable {C : Cn} {a b c e : Expr} {es : List Expr} {pos : Pos} {A B : DE} {st : Stmt} {sts : List Stmt} {S S' : DS} {T : DT}
def sSkip : DS := fun env m => .ok (.nx env) m
def sSeq (S S' : DS) : DS := fun env m => (S env m).bind fun fl m1 => match fl with
  | .nx env1 => S' env1 m1
  | fl => .ok fl m1
theorem ss_nil : SSs C [] sSkip := ⟨tNext, fun X h => pss_nil, ⟨fun env m μ σ H Dn R E q => q.nx R E⟩⟩
/-- the next statement, behind a first one -/
theorem wpS.seq {K : PySem.W.Frag} {W : XK} {μ : List Addr} {H : Hp} {Dn : Ends} {o : Out Fl} {S' : DS} {u : TS} (hu : SdS K W u S')
    (h : wpS K W μ H (o.bind fun fl m1 => match fl with | .nx env1 => S' env1 m1 | fl => .ok fl m1) Dn) : wpS K W μ H o { Dn with nx := u Dn } := by
  cases o with
  | ok fl m =>
    intro μ2 H2 e2 R2
    cases fl with
    | nx env => exact fun σ' E' => hu.run env m μ2 σ' H2 Dn R2 E' (wpS.later e2 h)
    | bk env => exact h μ2 H2 e2 R2
    | ct env => exact h μ2 H2 e2 R2
    | rt d => exact h μ2 H2 e2 R2
  | exc x m => exact h
  | bad => exact h
theorem ss_cons (h : SS C st S) (g : SSs C sts S') : SSs C (st :: sts) (sSeq S S') := by
  obtain ⟨t, p, d⟩ := h
  obtain ⟨u, p', d'⟩ := g
  exact ⟨tSeq t u, fun X hX => pss_cons (p X hX) (p' X hX), ⟨fun env m μ σ H Dn R E q => d.run env m μ σ H _ R E (wpS.seq d' q)⟩⟩
theorem ss_one (h : SS C st S) : SSs C [st] S := let ⟨t, p, d⟩ := h; ⟨t, fun X hX => pss_one (p X hX), d⟩
theorem ss_pass : SS C (.Pass pos) sSkip := ⟨tNext, fun X h => ps_pass, ⟨fun env m μ σ H Dn R E q => q.nx R E⟩⟩
def sBreak : DS := fun env m => .ok (.bk env) m
def sCont : DS := fun env m => .ok (.ct env) m
theorem ss_break : SS C (.Break pos) sBreak := ⟨tBreak, fun X h => ps_break, ⟨fun env m μ σ H Dn R E q => q μ H Ext.refl R σ E⟩⟩
theorem ss_continue : SS C (.Continue pos) sCont := ⟨tCont, fun X h => ps_continue, ⟨fun env m μ σ H Dn R E q => q μ H Ext.refl R σ E⟩⟩
def sExpr (A : DE) : DS := fun env m => (A env m).bind fun _ m1 => .ok (.nx env) m1
theorem ss_expr (h : SE C e A) (hs : ∀ env, swapsWith e none pos.line env = pure false := by intro _; rfl) : SS C (.Expr e pos) (sExpr A) := by
  obtain ⟨t, p, d⟩ := h
  refine ⟨tDrop t, fun X hX => ps_expr (p X hX) (hs X.env), ⟨fun env m μ σ H Dn R E q => ?_⟩⟩
  exact d.run env m μ σ H _ R E (wp.mono (wpS.bind q) fun x H1 ⟨dx, m1, μ1, e1, R1, r1, h1⟩ => h1.nx R1 (E.mono e1))
def sRet (A : DE) : DS := fun env m => (A env m).bind fun d m1 => .ok (.rt d) m1
theorem ss_ret (h : SE C e A) : SS C (.Return (some e) pos) (sRet A) := by
  obtain ⟨t, p, d⟩ := h
  refine ⟨tRet t, fun X hX => ps_ret (p X hX), ⟨fun env m μ σ H Dn R E q => ?_⟩⟩
  exact d.run env m μ σ H _ R E (wp.mono (wpS.bind q) fun x H1 ⟨dx, m1, μ1, e1, R1, r1, h1⟩ => h1.rt R1 r1)
def sRetN : DS := fun _ m => .ok (.rt .non) m
theorem ss_retN : SS C (.Return none pos) sRetN := ⟨tRetN, fun X h => ps_retN, ⟨fun env m μ σ H Dn R E q => q.rt R .non⟩⟩
def sIf (T : DT) (S S' : DS) : DS := fun env m => (T env m).bind fun c m1 => if c then S env m1 else S' env m1
theorem ss_if {s1 s2 : List Stmt} (h : ST C c T) (g : SSs C s1 S) (g' : SSs C s2 S') : SS C (.If c s1 s2 pos) (sIf T S S') := by
  obtain ⟨t, p, d⟩ := h
  obtain ⟨u, p1, d1⟩ := g
  obtain ⟨v, p2, d2⟩ := g'
  refine ⟨tIfS t u v, fun X hX => ps_if (p X hX) (p1 X hX) (p2 X hX), ⟨fun env m μ σ H Dn R E q => ?_⟩⟩
  refine d.run env m μ σ H _ R E (wp.mono (wpS.bind q) fun x H1 ⟨dx, m1, μ1, e1, R1, r1, h1⟩ => ?_)
  subst r1
  cases dx with
  | true => rw [if_pos rfl]; exact d1.run env m1 μ1 σ H1 _ R1 (E.mono e1) h1
  | false => rw [if_neg Bool.false_ne_true]; exact d2.run env m1 μ1 σ H1 _ R1 (E.mono e1) h1

/-! ### targets, assignments -/
def gVar (i : Nat) : DG := fun d env m => .ok (env.set i (some d)) m
def Sto (C : Cn) (x : Str) : Prop := C.sc.names.lookup x = some .local ∨ (C.df = true ∧ C.sc.names.lookup x = some .cell)
theorem Sto.loc {X : Cx} {x : Str} (h : C.Is X) (s : Sto C x) : Loc X.env.scope x := by
  rw [h.sc]
  rcases s with s | s
  · exact .inl s
  · exact .inr s.2
theorem Sto.fn {X : Cx} {x : Str} (h : C.Is X) (s : Sto C x) : X.fn x = true ∨ X.env.scope.names.lookup x = some .local := by
  rcases s with s | s
  · exact .inr (by rw [h.sc]; exact s)
  · exact .inl (h.fn s.1 x)
theorem sg_var (i : Nat) {x : Str} (hi : C.N[i]? = some x := by rfl) (hx : Sto C x := by first | exact Or.inl rfl | exact Or.inr ⟨rfl, rfl⟩) : SG C (.Name x pos) (gVar i) :=
  ⟨gName i, fun X h => pg_name (by rw [h.N]; exact h.nd) (by rw [h.N]; exact hi) (hx.loc h) (hx.fn h), ⟨fun d v env m μ σ H Q R E r q => wp.ok q R (E.set i r)⟩⟩
def gsNil : DGs := fun ds env m => match ds with
  | [] => .ok env m
  | _ => .bad
def gsCons (G : DG) (Gs : DGs) : DGs := fun ds env m => match ds with
  | d :: ds => (G d env m).bind fun env1 m1 => Gs ds env1 m1
  | [] => .bad
def gTupD (n : Nat) (Gs : DGs) : DG := fun d env m => match d with
  | .tup ds => if ds.length = n then Gs ds env m else .bad
  | _ => .bad
variable {G : DG} {Gs : DGs}
theorem sgs_nil : SGs C [] gsNil := ⟨gNil, fun X h => pgs_nil, ⟨fun ds vs env m μ σ H Q R E r q => by
  cases r with
  | nil => exact ⟨rfl, wp.ok q R E⟩
  | cons _ _ => exact q.elim⟩⟩
theorem sgs_cons (h : SG C e G) (g : SGs C es Gs) (hs : ∀ env, (assignEach (e :: es) env).map (·.2) = assign e env :: (assignEach es env).map (·.2) := by intro _; rfl) : SGs C (e :: es) (gsCons G Gs) := by
  obtain ⟨t, p, d⟩ := h
  obtain ⟨u, p', d'⟩ := g
  refine ⟨gCons t u, fun X hX => pgs_cons (p X hX) (p' X hX) (hs X.env), ⟨fun ds vs env m μ σ H Q R E r q => ?_⟩⟩
  cases r with
  | nil => exact q.elim
  | @cons dx v ds vs r1 r2 =>
    refine ⟨v, vs, rfl, ?_⟩
    exact d.run dx v env m μ σ H _ R E r1 (wp.mono (wp.bind q) fun σ1 H1 ⟨env1, m1, μ1, e1, R1, E1, h1⟩ => d'.run ds vs env1 m1 μ1 σ1 H1 Q R1 E1 (r2.mono e1) h1)
theorem sg_tup {k n : Nat} (h : SGs C es Gs) (hn : ∀ env, (assignEach es env).length = n := by intro _; rfl) (hst : ∀ env, (assignEach es env).findIdx? (·.1) = none := by intro _; rfl) : SG C (.Tuple es k pos) (gTupD n Gs) := by
  obtain ⟨t, p, d⟩ := h
  refine ⟨gTup C.K n t, fun X hX => by rw [← hX.K]; exact pg_tup hX.calm (p X hX) (hn X.env) (hst X.env), ⟨fun dx v env m μ σ H Q R E r q => ?_⟩⟩
  cases r with
  | @tup a xs ds s r =>
    have q' : wp C.K C.W (fun μ H => RE C.K μ H) μ H (if ds.length = n then Gs ds env m else .bad) Q := q
    by_cases hl : ds.length = n
    · rw [if_pos hl] at q'
      exact ⟨a, xs, rfl, s, by rw [← r.length]; exact hl, d.run ds xs env m μ σ H Q R E r q'⟩
    · rw [if_neg hl] at q'; exact q'.elim
  | _ => exact q.elim
def sAsg (A : DE) (G : DG) : DS := fun env m => (A env m).bind fun d m1 => (G d env m1).bind fun env1 m2 => .ok (.nx env1) m2
theorem ss_asg {tg : Expr} (h : SE C e A) (g : SG C tg G) (hs : ∀ env : PySem.Env, env.scope = C.sc → swapsWithSole [tg] e pos.line env = pure false := by intro _ _; rfl) (hw : ∀ env : PySem.Env, env.scope = C.sc → swappedStores [tg] e env = pure none := by intro _ _; rfl)
    (h1 : ∀ env, (assignEach [tg] env).map (·.2) = [assign tg env] := by intro _; rfl) : SS C (.Assign [tg] e pos) (sAsg A G) := by
  obtain ⟨t, p, d⟩ := h
  obtain ⟨u, p', d'⟩ := g
  refine ⟨tAsg t u, fun X hX => ps_asg (p X hX) (p' X hX) (hs X.env hX.sc) (hw X.env hX.sc) (h1 X.env), ⟨fun env m μ σ H Dn R E q => ?_⟩⟩
  refine d.run env m μ σ H _ R E (wp.mono (wpS.bind q) fun x H1 ⟨dx, m1, μ1, e1, R1, r1, h1⟩ => ?_)
  exact d'.run dx x env m1 μ1 σ H1 _ R1 (E.mono e1) r1 (wp.mono (wpS.bind h1) fun σ2 H2 ⟨env2, m2, μ2, e2, R2, E2, h2⟩ => h2.nx R2 E2)
def sSet (i : Nat) (A : DE) : DS := fun env m => (A env m).bind fun d m1 => .ok (.nx (env.set i (some d))) m1
theorem ss_set (i : Nat) {x : Str} {pos' : Pos} (h : SE C e A) (hi : C.N[i]? = some x := by rfl) (hx : Sto C x := by first | exact Or.inl rfl | exact Or.inr ⟨rfl, rfl⟩)
    (hs : ∀ env : PySem.Env, env.scope = C.sc → swapsWith e (some (.Name x pos')) pos.line env = pure false := by intro _ _; rfl) : SS C (.Assign [.Name x pos'] e pos) (sSet i A) := by
  obtain ⟨t, p, d⟩ := h
  refine ⟨tAsg t (gName i), fun X hX => ps_set (by rw [hX.N]; exact hX.nd) (by rw [hX.N]; exact hi) (hx.loc hX) (p X hX) (hs X.env hX.sc) (hx.fn hX), ⟨fun env m μ σ H Dn R E q => ?_⟩⟩
  exact d.run env m μ σ H _ R E (wp.mono (wpS.bind q) fun x H1 ⟨dx, m1, μ1, e1, R1, r1, h1⟩ => h1.nx R1 ((E.mono e1).set i r1))
/-- a, b = x, y (plain locals) -/
def sPar (i j : Nat) (As : DA) : DS := fun env m => (As env m).bind fun ds m1 => match ds with
  | [d, d'] => .ok (.nx ((env.set i (some d)).set j (some d'))) m1
  | _ => .bad
theorem ss_par (i j : Nat) {x y : Str} {As : DA} {px py pt : Pos} {kt k2 pt2} (h : SA C [a, b] As) (hi : C.N[i]? = some x := by rfl) (hj : C.N[j]? = some y := by rfl) (hij : i ≠ j := by decide)
    (hx : C.sc.names.lookup x = some .local := by rfl) (hy : C.sc.names.lookup y = some .local := by rfl)
    (hw : ∀ env : PySem.Env, env.scope = C.sc → swappedStores [.Tuple [.Name x px, .Name y py] kt pt] (.Tuple [a, b] k2 pt2) env = pure (some [x, y]))
    (hs : ∀ env, swapsWithSole [.Tuple [.Name x px, .Name y py] kt pt] (.Tuple [a, b] k2 pt2) pos.line env = pure false := by intro _; rfl) :
    SS C (.Assign [.Tuple [.Name x px, .Name y py] kt pt] (.Tuple [a, b] k2 pt2) pos) (sPar i j As) := by
  obtain ⟨t, p, d⟩ := h
  refine ⟨tPar i j t, fun X hX => ps_par hX.calm (by rw [hX.N]; exact hX.nd) (by rw [hX.N]; exact hi) (by rw [hX.N]; exact hj) hij (by rw [hX.sc]; exact hx) (by rw [hX.sc]; exact hy) (p X hX) (hw _ hX.sc) (hs X.env), ⟨fun env m μ σ H Dn R E q => ?_⟩⟩
  refine d.run env m μ σ H _ R E (wp.mono (wpS.bind q) fun xs H1 ⟨ds, m1, μ1, e1, R1, r1, h1⟩ => ?_)
  cases r1 with
  | nil => exact h1.elim
  | @cons d1 v1 ds vs r1 r2 =>
    cases r2 with
    | nil => exact h1.elim
    | @cons d2 v2 ds vs r2 r3 =>
      cases r3 with
      | nil => exact ⟨v1, v2, rfl, h1.nx R1 (((E.mono e1).set i r1).set j r2)⟩
      | cons _ _ => exact h1.elim
def sAug (i : Nat) (f : D2) (A : DE) : DS := fun env m => match env[i]? with
  | some (some x) => (A env m).bind fun y m1 => (f x y m1).bind fun z m2 => .ok (.nx (env.set i (some z))) m2
  | _ => .bad
theorem ss_aug (i : Nat) {x : Str} {op : Operator} {r : R2} {f : D2} {pos' : Pos} (ho : ∀ X, C.Is X → PIp X op r) (hf : BinD C.K C.W r f) (h : SE C e A) (hi : C.N[i]? = some x := by rfl) (hx : Sto C x := by first | exact Or.inl rfl | exact Or.inr ⟨rfl, rfl⟩) :
    SS C (.AugAssign (.Name x pos') op e pos) (sAug i f A) := by
  obtain ⟨t, p, d⟩ := h
  refine ⟨tAug i t r, fun X hX => ps_aug (by rw [hX.N]; exact hX.nd) (by rw [hX.N]; exact hi) (hx.loc hX) (p X hX) (ho X hX) (hx.fn hX), ⟨fun env m μ σ H Dn R E q => ?_⟩⟩
  unfold sAug at q
  cases g : env[i]? with
  | none => rw [g] at q; exact q.elim
  | some o =>
    cases o with
    | none => rw [g] at q; exact q.elim
    | some dx =>
      rw [g] at q
      obtain ⟨v, h1, h2⟩ := E.get i dx g
      refine ⟨v, h1, ?_⟩
      refine d.run env m μ σ H _ R E (wp.mono (wpS.bind q) fun y H1 ⟨dy, m1, μ1, e1, R1, r1, h1⟩ => ?_)
      exact hf μ1 H1 m1 v y dx dy _ R1 (h2.mono e1) r1 (wp.mono (wpS.bind h1) fun z H2 ⟨dz, m2, μ2, e2, R2, r2, h2⟩ => h2.nx R2 ((E.mono (e1.trans e2)).set i r2))
/-- forgetting a slot is always allowed -/
def sKill (is : List Nat) (S : DS) : DS := fun env m => (S env m).bind fun fl m1 => match fl with
  | .nx env1 => .ok (.nx (is.foldl (fun e i => e.set i none) env1)) m1
  | fl => .ok fl m1
theorem RE.kills {K : PySem.W.Frag} {μ : List Addr} {H : Hp} {σ : St} : ∀ (is : List Nat) {env : Env}, RE K μ H env σ → RE K μ H (is.foldl (fun e i => e.set i none) env) σ
  | [], _, r => r
  | i :: is, _, r => RE.kills is (r.kill i)
theorem ss_kill (is : List Nat) (h : SSs C sts S) : SSs C sts (sKill is S) := by
  obtain ⟨t, p, d⟩ := h
  refine ⟨t, p, ⟨fun env m μ σ H Dn R E q => d.run env m μ σ H Dn R E ?_⟩⟩
  unfold sKill at q
  cases o : S env m with
  | ok fl m1 =>
    rw [o] at q
    cases fl with
    | nx env1 => exact fun μ2 H2 e2 R2 σ' E' => q μ2 H2 e2 R2 σ' (E'.kills is)
    | _ => exact q
  | _ => rw [o] at q; exact q

/-! ### while -/
def whileN (T : DT) (S : DS) : Nat → DS
  | 0, _, _ => .bad
  | n + 1, env, m => (T env m).bind fun c m1 => if c then (S env m1).bind fun fl m2 => (match fl with
      | .nx env2 => whileN T S n env2 m2
      | .ct env2 => whileN T S n env2 m2
      | .bk env2 => .ok (.nx env2) m2
      | .rt d => .ok (.rt d) m2) else .ok (.nx env) m1
def sWhileN (n : Nat) (T : DT) (S : DS) : DS := whileN T S n
theorem ss_whileN (n : Nat) {body : List Stmt} (h : ST C c T) (g : SSs C body S) : SS C (.While c body [] pos) (sWhileN n T S) := by
  obtain ⟨t, p, d⟩ := h
  obtain ⟨u, p', d'⟩ := g
  refine ⟨tWhile t u, fun X hX => ps_while hX.po (p X hX) (p' X hX), ⟨fun env m μ σ H Dn R E q => ?_⟩⟩
  refine ⟨fun k σ' H' => ∃ env' m' μ', Rel C.K m' μ' H' ∧ RE C.K μ' H' env' σ' ∧ wpS C.K C.W μ' H' (whileN T S k env' m') Dn, ⟨n, env, m, μ, R, E, q⟩, ?_⟩
  rintro k σ1 H1 ⟨env1, m1, μ1, R1, E1, q1⟩
  cases k with
  | zero => exact q1.elim
  | succ k =>
    refine d.run env1 m1 μ1 σ1 H1 _ R1 E1 (wp.mono (wpS.bind q1) fun x H2 ⟨dx, m2, μ2, e2, R2, r2, h2⟩ => ?_)
    subst r2
    cases dx with
    | false => rw [if_neg Bool.false_ne_true]; exact h2.nx R2 (E1.mono e2)
    | true =>
      rw [if_pos rfl]
      refine ⟨fun σ' H' => ∃ env' m' μ', Rel C.K m' μ' H' ∧ RE C.K μ' H' env' σ' ∧ wpS C.K C.W μ' H' (whileN T S k env' m') Dn, fun σ' H' hh => ⟨k, Nat.lt_succ_self k, hh⟩, ?_⟩
      refine d'.run env1 m2 μ2 σ1 H2 _ R2 (E1.mono e2) ?_
      have h3 : wpS C.K C.W μ2 H2 ((S env1 m2).bind fun fl m2 => (match fl with
        | .nx env2 => whileN T S k env2 m2
        | .ct env2 => whileN T S k env2 m2
        | .bk env2 => .ok (.nx env2) m2
        | .rt d => .ok (.rt d) m2)) Dn := h2
      cases o : S env1 m2 with
      | ok fl m3 =>
        rw [o] at h3
        intro μ3 H3 e3 R3
        cases fl with
        | nx env2 => exact fun σ' E' => ⟨env2, m3, μ3, R3, E', wpS.later e3 h3⟩
        | ct env2 => exact fun σ' E' => ⟨env2, m3, μ3, R3, E', wpS.later e3 h3⟩
        | bk env2 => exact fun σ' E' => h3 μ3 H3 e3 R3 σ' E'
        | rt dd => exact fun v r => h3 μ3 H3 e3 R3 v r
      | exc x m3 => rw [o] at h3; exact h3
      | bad => rw [o] at h3; exact h3
open Classical in
/-- the loop, as many turns as it takes -/
noncomputable def sWhile (T : DT) (S : DS) : DS := fun env m => if h : ∃ n, whileN T S n env m ≠ .bad then whileN T S h.choose env m else .bad
theorem ss_while {body : List Stmt} (h : ST C c T) (g : SSs C body S) : SS C (.While c body [] pos) (sWhile T S) := by
  obtain ⟨t, p, d⟩ := h
  obtain ⟨u, p', d'⟩ := g
  refine ⟨tWhile t u, fun X hX => ps_while hX.po (p X hX) (p' X hX), ⟨fun env m μ σ H Dn R E q => ?_⟩⟩
  unfold sWhile at q
  split at q
  · rename_i hx
    obtain ⟨t', p'', d''⟩ := ss_whileN (C := C) (pos := pos) hx.choose ⟨t, p, d⟩ ⟨u, p', d'⟩
    have := ss_whileN (C := C) (pos := pos) hx.choose ⟨t, p, d⟩ ⟨u, p', d'⟩
    clear this d'' p''
    -- the reading is the same for every number of turns
    refine ⟨fun k σ' H' => ∃ env' m' μ', Rel C.K m' μ' H' ∧ RE C.K μ' H' env' σ' ∧ wpS C.K C.W μ' H' (whileN T S k env' m') Dn, ⟨hx.choose, env, m, μ, R, E, q⟩, ?_⟩
    rintro k σ1 H1 ⟨env1, m1, μ1, R1, E1, q1⟩
    cases k with
    | zero => exact q1.elim
    | succ k =>
      refine d.run env1 m1 μ1 σ1 H1 _ R1 E1 (wp.mono (wpS.bind q1) fun x H2 ⟨dx, m2, μ2, e2, R2, r2, h2⟩ => ?_)
      subst r2
      cases dx with
      | false => rw [if_neg Bool.false_ne_true]; exact h2.nx R2 (E1.mono e2)
      | true =>
        rw [if_pos rfl]
        refine ⟨fun σ' H' => ∃ env' m' μ', Rel C.K m' μ' H' ∧ RE C.K μ' H' env' σ' ∧ wpS C.K C.W μ' H' (whileN T S k env' m') Dn, fun σ' H' hh => ⟨k, Nat.lt_succ_self k, hh⟩, ?_⟩
        refine d'.run env1 m2 μ2 σ1 H2 _ R2 (E1.mono e2) ?_
        have h3 : wpS C.K C.W μ2 H2 ((S env1 m2).bind fun fl m2 => (match fl with
          | .nx env2 => whileN T S k env2 m2
          | .ct env2 => whileN T S k env2 m2
          | .bk env2 => .ok (.nx env2) m2
          | .rt d => .ok (.rt d) m2)) Dn := h2
        cases o : S env1 m2 with
        | ok fl m3 =>
          rw [o] at h3
          intro μ3 H3 e3 R3
          cases fl with
          | nx env2 => exact fun σ' E' => ⟨env2, m3, μ3, R3, E', wpS.later e3 h3⟩
          | ct env2 => exact fun σ' E' => ⟨env2, m3, μ3, R3, E', wpS.later e3 h3⟩
          | bk env2 => exact fun σ' E' => h3 μ3 H3 e3 R3 σ' E'
          | rt dd => exact fun v r => h3 μ3 H3 e3 R3 v r
        | exc x m3 => rw [o] at h3; exact h3
        | bad => rw [o] at h3; exact h3
  · exact q.elim
/-- more turns change nothing -/
theorem whileN_mono (T : DT) (S : DS) : ∀ (n k : Nat) (env : Env) (m : Mem), n ≤ k → whileN T S n env m ≠ .bad → whileN T S k env m = whileN T S n env m
  | 0, _, _, _, _, h => absurd rfl h
  | n + 1, 0, _, _, hl, _ => absurd hl (by omega)
  | n + 1, k + 1, env, m, hl, h => by
    unfold whileN at h ⊢
    cases o : T env m with
    | ok c m1 =>
      rw [o] at h
      simp only [Out.bind_ok] at h ⊢
      cases c with
      | false => rfl
      | true =>
        simp only [if_true] at h ⊢
        cases o2 : S env m1 with
        | ok fl m2 =>
          rw [o2] at h
          simp only [Out.bind_ok] at h ⊢
          cases fl with
          | nx env2 => exact whileN_mono T S n k env2 m2 (by omega) h
          | ct env2 => exact whileN_mono T S n k env2 m2 (by omega) h
          | bk env2 => rfl
          | rt d => rfl
        | _ => rfl
    | _ => rfl
theorem sWhile_of {T : DT} {S : DS} {env : Env} {m : Mem} {n : Nat} (h : whileN T S n env m ≠ .bad) : sWhile T S env m = whileN T S n env m := by
  unfold sWhile
  have hx : ∃ n, whileN T S n env m ≠ .bad := ⟨n, h⟩
  rw [dif_pos hx]
  rcases Nat.le_total hx.choose n with q | q
  · exact (whileN_mono T S _ _ env m q hx.choose_spec).symm
  · exact whileN_mono T S _ _ env m q h
theorem sWhile_bad {T : DT} {S : DS} {env : Env} {m : Mem} (h : ∀ n, whileN T S n env m = .bad) : sWhile T S env m = .bad := by
  unfold sWhile
  rw [dif_neg]
  rintro ⟨n, q⟩
  exact q (h n)
/-- one turn -/
theorem sWhile_eq (T : DT) (S : DS) (env : Env) (m : Mem) : sWhile T S env m = (T env m).bind fun c m1 => if c then (S env m1).bind fun fl m2 => (match fl with
      | .nx env2 => sWhile T S env2 m2
      | .ct env2 => sWhile T S env2 m2
      | .bk env2 => .ok (.nx env2) m2
      | .rt d => .ok (.rt d) m2) else .ok (.nx env) m1 := by
  have key : ∀ env2 m2 (f : Nat → Out Fl), (∀ n, f (n + 1) = whileN T S n env2 m2) → f 0 = .bad → (∀ n, whileN T S n env m = f n) → sWhile T S env m = sWhile T S env2 m2 := by
    intro env2 m2 f h1 h0 h2
    by_cases hx : ∃ n, whileN T S n env2 m2 ≠ .bad
    · obtain ⟨n, hn⟩ := hx
      rw [sWhile_of hn, sWhile_of (n := n + 1) (by rw [h2, h1]; exact hn), h2, h1]
    · rw [sWhile_bad (env := env2) fun n => Classical.byContradiction fun q => hx ⟨n, q⟩]
      refine sWhile_bad fun n => ?_
      cases n with
      | zero => rw [h2, h0]
      | succ n => rw [h2, h1]; exact Classical.byContradiction fun q => hx ⟨n, q⟩
  have one : ∀ (o : Out Fl), (∀ n, whileN T S (n + 1) env m = o) → sWhile T S env m = o := by
    intro o ho
    by_cases hb : o = .bad
    · subst hb
      refine sWhile_bad fun n => ?_
      cases n with
      | zero => rfl
      | succ n => exact ho n
    · rw [sWhile_of (n := 1) (by rw [ho]; exact hb), ho]
  cases o : T env m with
  | ok c m1 =>
    simp only [Out.bind_ok]
    cases c with
    | false =>
      simp only [Bool.false_eq_true, if_false]
      exact one _ fun n => by unfold whileN; rw [o]; rfl
    | true =>
      simp only [if_true]
      cases o2 : S env m1 with
      | ok fl m2 =>
        simp only [Out.bind_ok]
        cases fl with
        | nx env2 => exact key env2 m2 (fun n => whileN T S n env m) (fun n => by simp only [whileN, o, Out.bind_ok, if_true, o2]) rfl fun n => rfl
        | ct env2 => exact key env2 m2 (fun n => whileN T S n env m) (fun n => by simp only [whileN, o, Out.bind_ok, if_true, o2]) rfl fun n => rfl
        | bk env2 => exact one _ fun n => by simp only [whileN, o, Out.bind_ok, if_true, o2]
        | rt d => exact one _ fun n => by simp only [whileN, o, Out.bind_ok, if_true, o2]
      | exc x m2 => exact one _ fun n => by simp only [whileN, o, Out.bind_ok, if_true, o2, Out.bind_exc]
      | bad => exact one _ fun n => by simp only [whileN, o, Out.bind_ok, if_true, o2, Out.bind_bad]
  | exc x m2 => exact one _ fun n => by simp only [whileN, o, Out.bind_exc]
  | bad => exact one _ fun n => by simp only [whileN, o, Out.bind_bad]
end
end DL

end
section
set_option Elab.async false
set_option linter.all false
set_option maxRecDepth 100000
set_option maxHeartbeats 4000000
set_option autoImplicit false
/-! DL4: what is walked, for loops, comprehensions, calls of defs, defs, what a call leaves behind. -/
namespace DL
open PySem PySem.Spec L2

/-! ### what is walked -/
structure ItD where
  ds : List DV
  gs : List (Nat × MO)
def guard (gs : List (Nat × MO)) (m : Mem) : Prop := ∀ p ∈ gs, m[p.1]? = some p.2
abbrev DI := Env → Mem → Out ItD
def RI (K : PySem.W.Frag) (J : It) (it : ItD) (μ0 : List Addr) (H0 : Hp) : Prop := ∀ m μ H, Ext K μ0 H0 μ H → Rel K m μ H → guard it.gs m → ∀ j : Nat,
  (∀ d, it.ds[j]? = some d → J.go j H ∧ ∀ x H', J.yld j H x H' → Ext K μ H μ H' ∧ Rel K m μ H' ∧ RV K μ H' d x) ∧ (it.ds.length = j → J.stop j H)
structure SdI (K : PySem.W.Frag) (W : XK) (w : TI) (D : DI) : Prop where
  run : ∀ env m μ σ H R, Rel K m μ H → RE K μ H env σ → wp K W (fun μ H it J => RI K J it μ H) μ H (D env m) R → w σ H R
def SI (C : Cn) (tg e : Expr) (D : DI) : Prop := ∃ w, (∀ X, C.Is X → PI X tg e w) ∧ SdI C.K C.W w D

section
variable {C : Cn} {a b c e tg iter : Expr} {es : List Expr} {pos : Pos} {A B : DE} {st : Stmt} {sts body : List Stmt} {S S' : DS} {T : DT} {I : DI} {G : DG}
section
variable {X : Cx}
/-- a list, a tuple, a text, a locked dict's keys -/
def iAny (K : PySem.W.Frag) (te : TE) : TI := fun σ H R => te σ H fun x H1 => (∃ a, x = .ref a ∧ (∃ xs, SqL K H1 a xs) ∧ R (Itl K a) H1) ∨ (∃ a, x = .ref a ∧ (∃ xs, SqT K H1 a xs) ∧ R (Itt K a) H1) ∨ (∃ z, x = .str z ∧ R (Its z) H1) ∨
  ∃ d o kvs, x = .ref d ∧ H1 d = some (.frz o (.dK kvs)) ∧ R (Itk d o kvs) H1
theorem pi_any {te : TE} (he : PE X e te) : PI X tg e (iAny X.K te) := by
  refine ⟨fun pins s σ H R I h => ?_⟩
  refine thn (he.run pins s σ H _ I h) fun v s1 ⟨x, H1, I1, r1, q1⟩ => ?_
  rcases q1 with ⟨a, rfl, ⟨xs, hq⟩, q⟩ | ⟨a, rfl, ⟨xs, hq⟩, q⟩ | ⟨z, rfl, q⟩ | ⟨d, o, kvs, rfl, hd, q⟩
  · cases r1
    obtain ⟨its, rv, p, hz⟩ := I1.list hq
    refine wpAny_pyIter_list p.isList ?_
    refine ⟨s1.heap.objs.size, [s1.heap.objs.size], _, _, H1, rfl, I1.kept (t' := s1.toks) fun b o e => Heap.get?_push_of_some _ e, turn_list a _, ⟨_, Heap.get?_push_size _ rfl, rfl, rfl⟩, fun b hb => ?_, q⟩
    have e : b = s1.heap.objs.size := by simpa using hb
    subst e
    exact I1.fpOk (Nat.le_refl _) (I1.hok.fresh (Nat.le_refl _))
  · cases r1
    obtain ⟨its, rv, p, hz⟩ := I1.tuple hq
    refine wpAny_pyIter_tuple (show s1.heap.IsTuple a its.toArray from p) ?_
    refine ⟨s1.heap.objs.size, [s1.heap.objs.size], _, _, H1, rfl, I1.kept (t' := s1.toks) fun b o e => Heap.get?_push_of_some _ e, turn_tuple a _, ⟨_, Heap.get?_push_size _ rfl, rfl, rfl⟩, fun b hb => ?_, q⟩
    have e : b = s1.heap.objs.size := by simpa using hb
    subst e
    exact I1.fpOk (Nat.le_refl _) (I1.hok.fresh (Nat.le_refl _))
  · obtain ⟨t, rfl⟩ := r1
    cases ha : z.cps.all (· < 128)
    · exact wpAny_pyIter_wide ha (pi_one (tk := s1.toks) I1 _ (turn_str _ z t "str_iterator" (.inr rfl)) ⟨_, Heap.get?_push_size _ rfl, rfl, rfl⟩ q)
    · exact wpAny_pyIter_ascii ha (pi_one (tk := s1.toks) I1 _ (turn_str _ z t "str_ascii_iterator" (.inl rfl)) ⟨_, Heap.get?_push_size _ rfl, rfl, rfl⟩ q)
  · obtain rfl : v = Value.ref d := r1
    obtain ⟨hs, hgd, hx, es, ep, vs, hdt, hsz, kv, hm⟩ := I1.frzK hd
    refine iter_keys hs hgd hx hdt (pi_one (tk := s1.toks) I1 _ (turn_keys _ hdt) ⟨_, Heap.get?_push_size _ rfl, rfl, ?_⟩ q)
    rw [hsz] <;> rfl
end
/-- a key as a value -/
def kD : Key → DV
  | .inl i => .int i
  | .inr x => .str x
theorem rv_key {K : PySem.W.Frag} {μ : List Addr} {H : Hp} (k : Key) : RV K μ H (kD k) (kV k) := by cases k <;> constructor
def one (c : Nat) : DV := .str ⟨#[c]⟩
def iAnyD (A : DE) : DI := fun env m => (A env m).bind fun x m1 => match x with
  | .ref i => (match m1[i]? with
    | some (.lst ds) => .ok ⟨ds, [(i, .lst ds)]⟩ m1
    | some (.rol ds) => .ok ⟨ds, [(i, .rol ds)]⟩ m1
    | some (.rod kvs) => .ok ⟨kvs.map fun p => kD p.1, [(i, .rod kvs)]⟩ m1
    | _ => .bad)
  | .tup ds => .ok ⟨ds, []⟩ m1
  | .str z => .ok ⟨z.cps.toList.map one, []⟩ m1
  | _ => .bad
variable {K : PySem.W.Frag} {W : XK} {μ μ' : List Addr} {H H' : Hp} {m : Mem}
theorem guard1 {i : Nat} {o : MO} (h : guard [(i, o)] m) : m[i]? = some o := h (i, o) (by simp)
theorem ro_sq {a : Addr} {ds : List DV} {o : MO} (ho : o = .lst ds ∨ o = .rol ds) (r : RO K μ H a o) : ∃ xs, SqL K H a xs ∧ RVs K μ H ds xs := by
  rcases ho with rfl | rfl
  · obtain ⟨xs, h, q⟩ := r
    exact ⟨xs, .of h, q⟩
  · obtain ⟨xs, h, q⟩ := r
    refine ⟨xs, ?_, q⟩
    rcases h with ⟨o, h⟩ | h
    · exact .inl (.inr ⟨o, h⟩)
    · exact h.sq
theorem ri_list {i : Nat} {a : Addr} {ds : List DV} {o : MO} (ho : o = .lst ds ∨ o = .rol ds) (hi : μ[i]? = some a) : RI K (Itl K a) ⟨ds, [(i, o)]⟩ μ H := by
  intro m1 μ1 H1 e R g j
  obtain ⟨xs, s, r⟩ := ro_sq ho (R.obj i a o (e.pre i a hi) (guard1 g))
  refine ⟨fun d hd => ?_, fun hl => ⟨xs, s, by rw [← r.length]; exact Nat.le_of_eq hl⟩⟩
  obtain ⟨v, h1, h2⟩ := r.get hd
  refine ⟨⟨xs, v, s, h1⟩, fun x H' ⟨e1, e2⟩ => ?_⟩
  subst e1
  have := e2 xs s
  rw [h1] at this
  cases this
  exact ⟨Ext.refl, R, h2⟩
theorem ri_tup {a : Addr} {ds : List DV} {xs : List V} (s : SqT K H a xs) (r : RVs K μ H ds xs) : RI K (Itt K a) ⟨ds, []⟩ μ H := by
  intro m1 μ1 H1 e R g j
  have s1 := e.tups _ _ s
  have r1 := r.mono e
  refine ⟨fun d hd => ?_, fun hl => ⟨xs, s1, by rw [← r.length]; exact Nat.le_of_eq hl⟩⟩
  obtain ⟨v, h1, h2⟩ := r1.get hd
  refine ⟨⟨xs, v, s1, h1⟩, fun x H' ⟨e1, e2⟩ => ?_⟩
  subst e1
  have := e2 xs s1
  rw [h1] at this
  cases this
  exact ⟨Ext.refl, R, h2⟩
theorem ri_str {z : Str} : RI K (Its z) ⟨z.cps.toList.map one, []⟩ μ H := by
  intro m1 μ1 H1 e R g j
  refine ⟨fun d hd => ?_, fun hl => by
    have hl' : (z.cps.toList.map one).length ≤ j := Nat.le_of_eq hl
    show z.cps.size ≤ j
    simpa using hl'⟩
  have hd' : (z.cps.toList.map one)[j]? = some d := hd
  rw [List.getElem?_map] at hd'
  obtain ⟨c, hc, rfl⟩ := Option.map_eq_some_iff.mp hd'
  have hc' : z.cps[j]? = some c := by simpa using hc
  refine ⟨(Array.getElem?_eq_some_iff.mp hc').1, fun x H' ⟨e1, c', e2, e3⟩ => ?_⟩
  subst e1 e3
  rw [hc'] at e2
  cases e2
  exact ⟨Ext.refl, R, .str _⟩
theorem rkv_get {kvs : List (Key × DV)} {kk : List (Key × V)} (r : RKV K μ H kvs kk) : ∀ {j : Nat} {p : Key × DV}, kvs[j]? = some p → ∃ q, kk[j]? = some q ∧ p.1 = q.1 ∧ RV K μ H p.2 q.2 := by
  induction r with
  | nil => intro j p h; simp at h
  | cons h t ih =>
    intro j p hj
    cases j with
    | zero => simp at hj; subst hj; exact ⟨_, rfl, h.1, h.2⟩
    | succ j => simpa using ih (by simpa using hj)
theorem ri_keys {i : Nat} {d : Addr} {o : Obj} {kk : List (Key × V)} {kvs : List (Key × DV)} (hi : μ[i]? = some d) (hd : H d = some (.frz o (.dK kk))) : RI K (Itk d o kk) ⟨kvs.map fun p => kD p.1, [(i, .rod kvs)]⟩ μ H := by
  intro m1 μ1 H1 e R g j
  have g1 : m1[i]? = some (.rod kvs) := guard1 g
  have h0 := e.frz _ _ _ hd
  obtain ⟨o', kk', h1, r1⟩ := R.obj i d _ (e.pre i d hi) g1
  rw [h0] at h1
  cases h1
  refine ⟨fun dk hdk => ?_, fun hl => ⟨h0, ?_⟩⟩
  · have hdk' : (kvs.map fun p => kD p.1)[j]? = some dk := hdk
    rw [List.getElem?_map] at hdk'
    obtain ⟨p, h4, h5⟩ := Option.map_eq_some_iff.mp hdk'
    obtain ⟨q, h6, h7, h8⟩ := rkv_get r1 h4
    refine ⟨⟨h0, (List.getElem?_eq_some_iff.mp h6).1⟩, fun x H' ⟨e1, k', v', e2, e3⟩ => ?_⟩
    subst e1 e3
    rw [h6] at e2
    cases e2
    subst h5
    rw [h7]
    exact ⟨Ext.refl, R, rv_key _⟩
  · have := Paired.length r1
    have hl' : (kvs.map fun p => kD p.1).length = j := hl
    rw [List.length_map] at hl'
    omega
theorem si_any (h : SE C e A) : SI C tg e (iAnyD A) := by
  obtain ⟨t, p, d⟩ := h
  refine ⟨iAny C.K t, fun X hX => by rw [← hX.K]; exact pi_any (p X hX), ⟨fun env m μ σ H R Rl E q => ?_⟩⟩
  refine d.run env m μ σ H _ Rl E (wp.mono (wp.bind q) fun x H1 ⟨dx, m1, μ1, e1, R1, r1, h1⟩ => ?_)
  cases r1 with
  | @ref i a hi =>
    have h1' : wp C.K C.W (fun μ H it J => RI C.K J it μ H) μ1 H1 (match m1[i]? with
      | some (.lst ds) => .ok ⟨ds, [(i, .lst ds)]⟩ m1
      | some (.rol ds) => .ok ⟨ds, [(i, .rol ds)]⟩ m1
      | some (.rod kvs) => .ok ⟨kvs.map fun p => kD p.1, [(i, .rod kvs)]⟩ m1
      | _ => .bad) R := h1
    cases g : m1[i]? with
    | none => rw [g] at h1'; exact h1'.elim
    | some o =>
      rw [g] at h1'
      cases o with
      | lst ds =>
        obtain ⟨xs, s, r⟩ := ro_sq (ds := ds) (.inl rfl) (R1.obj i a _ hi g)
        exact .inl ⟨a, rfl, ⟨xs, s⟩, wp.ok h1' R1 (ri_list (.inl rfl) hi)⟩
      | rol ds =>
        obtain ⟨xs, s, r⟩ := ro_sq (ds := ds) (.inr rfl) (R1.obj i a _ hi g)
        exact .inl ⟨a, rfl, ⟨xs, s⟩, wp.ok h1' R1 (ri_list (.inr rfl) hi)⟩
      | rod kvs =>
        obtain ⟨o, kk, hd, r1⟩ := R1.obj i a _ hi g
        refine .inr (.inr (.inr ⟨a, o, kk, rfl, hd, ?_⟩))
        exact wp.ok h1' R1 (ri_keys hi hd)
      | _ => exact h1'.elim
  | tup s r => exact .inr (.inl ⟨_, rfl, ⟨_, s⟩, wp.ok h1 R1 (ri_tup s r)⟩)
  | str z => exact .inr (.inr (.inl ⟨z, rfl, wp.ok h1 R1 ri_str⟩))
  | _ => exact h1.elim

/-! ### ranges -/
def rng (lo : Int) (n : Nat) : List DV := (List.range n).map fun (i : Nat) => DV.int (lo + (i : Int))
theorem rng_get {lo : Int} {n j : Nat} {d : DV} (h : (rng lo n)[j]? = some d) : j < n ∧ d = .int (lo + (j : Int)) := by
  unfold rng at h
  rw [List.getElem?_map] at h
  obtain ⟨k, h1, h2⟩ := Option.map_eq_some_iff.mp h
  have hl := (List.getElem?_eq_some_iff.mp h1).1
  rw [List.length_range] at hl
  rw [List.getElem?_range hl] at h1
  cases h1
  exact ⟨hl, h2.symm⟩
theorem rng_length (lo : Int) (n : Nat) : (rng lo n).length = n := by simp [rng]
theorem ri_rng {lo : Int} {n : Nat} : RI K (Itr lo n) ⟨rng lo n, []⟩ μ H := by
  intro m1 μ1 H1 e R g j
  refine ⟨fun d hd => ?_, fun hl => by
    have hl' : (rng lo n).length ≤ j := Nat.le_of_eq hl
    rw [rng_length] at hl'
    exact hl'⟩
  obtain ⟨h1, rfl⟩ := rng_get hd
  refine ⟨h1, fun x H' ⟨e1, e2⟩ => ?_⟩
  subst e1 e2
  exact ⟨Ext.refl, R, .int _⟩
def Gb (C : Cn) (x : Str) : Prop := C.sc.names.lookup x = some .globalImplicit
theorem Gb.gl {X : Cx} {x : Str} (h : C.Is X) (g : Gb C x) : Gl X x := by
  show X.env.scope.names.lookup x = _
  rw [h.sc]; exact g
structure In62 (j : Int) : Prop where
  lo : -(2 ^ 62) ≤ j
  hi : j < 2 ^ 62
noncomputable instance (j : Int) : Decidable (In62 j) := Classical.propDecidable _
noncomputable def iRng1D (A : DE) : DI := fun env m => (A env m).bind fun x m1 => match x with
  | .int j => if In62 j then .ok ⟨rng 0 j.toNat, []⟩ m1 else .bad
  | _ => .bad
theorem si_range1 {p : Pos} (h : SE C a A) (hg : Gb C "range" := by rfl) (hm : C.mg "range" = none) (hs : ∀ env, starEach [a] env = [(false, eval a env)] := by intro _; rfl) : SI C tg (.Call (.Name "range" p) [a] [] pos) (iRng1D A) := by
  obtain ⟨t, pp, d⟩ := sa_cons h sa_nil (hs := fun env => by rw [hs]; rfl)
  refine ⟨iRng1 t, fun X hX => pi_range1 (hg.gl hX) (by rw [hX.mg]; exact hm) (pp X hX) (hs X.env), ⟨fun env m μ σ H R Rl E q => ?_⟩⟩
  refine d.run env m μ σ H _ Rl E ?_
  have q' : wp C.K C.W (fun μ H it J => RI C.K J it μ H) μ H ((aCons A aNil env m).bind fun xs m1 => match xs with
    | [.int j] => if In62 j then .ok ⟨rng 0 j.toNat, []⟩ m1 else .bad
    | _ => .bad) R := by
    unfold iRng1D at q
    unfold aCons aNil
    cases o : A env m with
    | ok x m1 => rw [o] at q; cases x <;> exact q
    | exc x m1 => rw [o] at q; exact q
    | bad => rw [o] at q; exact q
  refine wp.mono (wp.bind q') fun xs H1 ⟨ds, m1, μ1, e1, R1, r1, h1⟩ => ?_
  cases r1 with
  | nil => exact h1.elim
  | @cons d1 v1 ds vs r1 r2 =>
    cases r2 with
    | cons _ _ => cases r1 <;> exact h1.elim
    | nil =>
      cases r1 with
      | int j =>
        have h1' : wp C.K C.W (fun μ H it J => RI C.K J it μ H) μ1 H1 (if In62 j then .ok ⟨rng 0 j.toNat, []⟩ m1 else .bad) R := h1
        by_cases hj : In62 j
        · rw [if_pos hj] at h1'
          exact ⟨j, rfl, hj.lo, hj.hi, wp.ok h1' R1 ri_rng⟩
        · rw [if_neg hj] at h1'; exact h1'.elim
      | _ => exact h1.elim
noncomputable def iRng2D (A B : DE) : DI := fun env m => (A env m).bind fun x m1 => (B env m1).bind fun y m2 => match x, y with
  | .int i, .int j => if In62 i ∧ In62 j then .ok ⟨rng i (j - i).toNat, []⟩ m2 else .bad
  | _, _ => .bad
theorem si_range2 {p : Pos} (h : SE C a A) (h' : SE C b B) (hg : Gb C "range" := by rfl) (hm : C.mg "range" = none) (hs : ∀ env, starEach [a, b] env = [(false, eval a env), (false, eval b env)] := by intro _; rfl)
    (hs2 : ∀ env, starEach [b] env = [(false, eval b env)] := by intro _; rfl) : SI C tg (.Call (.Name "range" p) [a, b] [] pos) (iRng2D A B) := by
  obtain ⟨t, pp, d⟩ := sa_cons h (sa_cons h' sa_nil (hs := fun env => by rw [hs2]; rfl)) (hs := fun env => by rw [hs, hs2])
  refine ⟨iRng2 t, fun X hX => pi_range2 (hg.gl hX) (by rw [hX.mg]; exact hm) (pp X hX) (hs X.env) (hs2 X.env), ⟨fun env m μ σ H R Rl E q => ?_⟩⟩
  refine d.run env m μ σ H _ Rl E ?_
  have q' : wp C.K C.W (fun μ H it J => RI C.K J it μ H) μ H ((aCons A (aCons B aNil) env m).bind fun xs m1 => match xs with
    | [.int i, .int j] => if In62 i ∧ In62 j then .ok ⟨rng i (j - i).toNat, []⟩ m1 else .bad
    | _ => .bad) R := by
    unfold iRng2D at q
    unfold aCons aNil
    cases o : A env m with
    | ok x m1 =>
      rw [o] at q
      simp only [Out.bind_ok] at q ⊢
      cases o2 : B env m1 with
      | ok y m2 => rw [o2] at q; cases x <;> cases y <;> exact q
      | exc y m2 => rw [o2] at q; exact q
      | bad => rw [o2] at q; exact q
    | exc x m1 => rw [o] at q; exact q
    | bad => rw [o] at q; exact q
  refine wp.mono (wp.bind q') fun xs H1 ⟨ds, m1, μ1, e1, R1, r1, h1⟩ => ?_
  cases r1 with
  | nil => exact h1.elim
  | @cons d1 v1 ds vs r1 r2 =>
    cases r2 with
    | nil => cases r1 <;> exact h1.elim
    | @cons d2 v2 ds vs r2 r3 =>
      cases r3 with
      | cons _ _ => cases r1 <;> cases r2 <;> exact h1.elim
      | nil =>
        cases r1 with
        | int i =>
          cases r2 with
          | int j =>
            have h1' : wp C.K C.W (fun μ H it J => RI C.K J it μ H) μ1 H1 (if In62 i ∧ In62 j then .ok ⟨rng i (j - i).toNat, []⟩ m1 else .bad) R := h1
            by_cases hj : In62 i ∧ In62 j
            · rw [if_pos hj] at h1'
              exact ⟨i, j, rfl, ⟨hj.1.lo, hj.1.hi, hj.2.lo, hj.2.hi⟩, wp.ok h1' R1 ri_rng⟩
            · rw [if_neg hj] at h1'; exact h1'.elim
          | _ => exact h1.elim
        | _ => cases r2 <;> exact h1.elim

/-! ### for -/
open Classical in
noncomputable def forD (gs : List (Nat × MO)) (G : DG) (S : DS) : List DV → DS
  | [], env, m => if guard gs m then .ok (.nx env) m else .bad
  | d :: ds, env, m => if guard gs m then (G d env m).bind fun env1 m1 => (S env1 m1).bind fun fl m2 => (match fl with
      | .nx env2 => forD gs G S ds env2 m2
      | .ct env2 => forD gs G S ds env2 m2
      | .bk env2 => .ok (.nx env2) m2
      | .rt d => .ok (.rt d) m2) else .bad
noncomputable def sFor (I : DI) (G : DG) (S : DS) : DS := fun env m => (I env m).bind fun it m1 => forD it.gs G S it.ds env m1
theorem ss_for (hi : SI C tg iter I) (hg : SG C tg G) (hb : SSs C body S) (hs : ∀ env x, foldedSetIterable iter env x = pure x := by intro _ _; rfl) : SS C (.For tg iter body [] pos) (sFor I G S) := by
  obtain ⟨wi, pi, di⟩ := hi
  obtain ⟨g, pg, dg⟩ := hg
  obtain ⟨u, pu, du⟩ := hb
  refine ⟨tFor wi g u, fun X hX => ps_for hX.po hX.calm (pi X hX) (pg X hX) (pu X hX) (hs X.env), ⟨fun env m μ σ H Dn R E q => ?_⟩⟩
  refine di.run env m μ σ H _ R E (wp.mono (wpS.bind q) fun J H1 ⟨it, m1, μ1, e1, R1, ri, h1⟩ => ?_)
  refine ⟨fun i k σ' H' => i ≤ it.ds.length ∧ k = it.ds.length - i ∧ ∃ env' m' μ', Ext C.K μ1 H1 μ' H' ∧ Rel C.K m' μ' H' ∧ RE C.K μ' H' env' σ' ∧ wpS C.K C.W μ' H' (forD it.gs G S (it.ds.drop i) env' m') Dn,
    ⟨_, Nat.zero_le _, rfl, env, m1, μ1, Ext.refl, R1, E.mono e1, by simpa using h1⟩, ?_⟩
  rintro i k σ2 H2 ⟨hle, hk, env2, m2, μ2, e2, R2, E2, q2⟩
  subst hk
  cases hd : it.ds.drop i with
  | nil =>
    have hl : it.ds.length ≤ i := List.drop_eq_nil_iff.mp hd
    rw [hd] at q2
    unfold forD at q2
    by_cases hg : guard it.gs m2
    · rw [if_pos hg] at q2
      exact .inl ⟨(ri m2 μ2 H2 e2 R2 hg i).2 (Nat.le_antisymm hl hle), q2.nx R2 E2⟩
    · rw [if_neg hg] at q2; exact q2.elim
  | cons d ds =>
    have hlt : i < it.ds.length := by
      rcases Nat.lt_or_ge i it.ds.length with h | h
      · exact h
      · rw [List.drop_eq_nil_iff.mpr h] at hd; cases hd
    have hgd : it.ds[i]? = some d := by
      rw [List.drop_eq_getElem_cons hlt] at hd
      cases hd
      simp [hlt]
    have hrest : it.ds.drop (i + 1) = ds := by
      rw [List.drop_eq_getElem_cons hlt] at hd
      cases hd
      rfl
    rw [hd] at q2
    unfold forD at q2
    by_cases hg : guard it.gs m2
    · rw [if_pos hg] at q2
      obtain ⟨go, yl⟩ := (ri m2 μ2 H2 e2 R2 hg i).1 d hgd
      refine .inr ⟨go, fun σ' H' => ∃ env' m' μ', Ext C.K μ1 H1 μ' H' ∧ Rel C.K m' μ' H' ∧ RE C.K μ' H' env' σ' ∧ wpS C.K C.W μ' H' (forD it.gs G S ds env' m') Dn, fun σ' H' hh => ⟨it.ds.length - (i + 1), by omega, hlt, rfl, by rw [hrest]; exact hh⟩, fun x H3 y => ?_⟩
      obtain ⟨e3, R3, r3⟩ := yl x H3 y
      refine dg.run d x env2 m2 μ2 σ2 H3 _ R3 (E2.mono e3) r3 (wp.mono (wpS.bind (wpS.later e3 q2)) fun σ4 H4 ⟨env4, m4, μ4, e4, R4, E4, q4⟩ => ?_)
      refine du.run env4 m4 μ4 σ4 H4 _ R4 E4 ?_
      dsimp only at q4
      cases o : S env4 m4 with
      | ok fl m5 =>
        rw [o] at q4
        intro μ5 H5 e5 R5
        have e15 : Ext C.K μ1 H1 μ5 H5 := ((e2.trans e3).trans e4).trans e5
        cases fl with
        | nx env5 => exact fun σ' E' => ⟨env5, m5, μ5, e15, R5, E', wpS.later e5 q4⟩
        | ct env5 => exact fun σ' E' => ⟨env5, m5, μ5, e15, R5, E', wpS.later e5 q4⟩
        | bk env5 => exact fun σ' E' => q4 μ5 H5 e5 R5 σ' E'
        | rt dd => exact fun v r => q4 μ5 H5 e5 R5 v r
      | exc x m5 => rw [o] at q4; exact q4
      | bad => rw [o] at q4; exact q4
    · rw [if_neg hg] at q2; exact q2.elim

/-! ### the block of a comprehension -/
def E0' : XK := fun _ _ _ => False
abbrev Cn.blk (C : Cn) (scope : Scope) : Cn := { C with sc := relS scope C.sc, W := E0', df := false }
theorem Cn.Is.blk {X : Cx} (h : C.Is X) (scope : Scope) (s : Shared) (H : Hp) (Ca : Addr) (cl : List (Str × Addr)) (fp : List Addr) : (C.blk scope).Is (X.blk s H scope (compEnvC scope cl Ca X.env) fp) where
  P := h.P
  w := h.w
  K := h.K
  mg := h.mg
  base := h.base
  N := h.N
  nd := h.nd
  sc := by
    show relS scope X.env.scope = relS scope C.sc
    rw [h.sc]
  calm := h.calm
  room := h.room
  po := PassesOwn.never
  px := passL
  fn := fun q => nomatch q
/-- a test list -/
def STs (C : Cn) (ifs : List Expr) (D : DT) : Prop := ∃ t, (∀ X, C.Is X → PTs X ifs t) ∧ SdT C.K C.W t D
def tYesD : DT := fun _ m => .ok true m
theorem sts_nil : STs C [] tYesD := ⟨tYes, fun X h => pts_nil, ⟨fun env m μ σ H Q R E q => wp.ok q R rfl⟩⟩
theorem sts_one (h : ST C c T) : STs C [c] T := let ⟨t, p, d⟩ := h; ⟨t, fun X hX => pts_one (p X hX), d⟩
def wipeD (vs : List Nat) (env : Env) : Env := vs.foldr (fun v e => e.set v none) env
theorem RE.wipe {env : Env} {σ : L2.St} (E : RE K μ H env σ) : ∀ vs : List Nat, RE K μ H (wipeD vs env) (L2.wipe σ vs)
  | [] => E
  | v :: vs => by
    have ih := RE.wipe E vs
    refine ⟨by simpa [wipeD, L2.wipe] using ih.len, fun j d hd => ?_⟩
    have hd' : ((wipeD vs env).set v none)[j]? = some (some d) := hd
    by_cases hj : v = j
    · subst hj
      have hl : v < (wipeD vs env).length := by
        have := (List.getElem?_eq_some_iff.mp hd').1
        simpa using this
      rw [List.getElem?_set_self hl] at hd'
      cases hd'
    · rw [List.getElem?_set_ne hj] at hd'
      obtain ⟨w, h1, h2⟩ := ih.get j d hd'
      exact ⟨w, by show ((L2.wipe σ vs).set v none)[j]? = _; rw [List.getElem?_set_ne hj]; exact h1, h2⟩

/-- a target that sets only slots of vs -/
structure FrG (t : TG) (vs : List Nat) : Prop where
  run : ∀ (v : V) (σ : L2.St) (H : Hp) (Q Q' : L2.St → Hp → Prop), t v σ H Q → (∀ σ2 H2, Q σ2 H2 → σ2.length = σ.length → (∀ j, j ∉ vs → σ2[j]? = σ[j]?) → Q' σ2 H2) → t v σ H Q'
structure FrGs (t : TGs) (vs : List Nat) : Prop where
  run : ∀ (v : List V) (σ : L2.St) (H : Hp) (Q Q' : L2.St → Hp → Prop), t v σ H Q → (∀ σ2 H2, Q σ2 H2 → σ2.length = σ.length → (∀ j, j ∉ vs → σ2[j]? = σ[j]?) → Q' σ2 H2) → t v σ H Q'
def SGv (C : Cn) (vs : List Nat) (e : Expr) (D : DG) : Prop := ∃ t, (∀ X, C.Is X → PG X e t) ∧ SdG C.K C.W t D ∧ FrG t vs
def SGvs (C : Cn) (vs : List Nat) (e : List Expr) (D : DGs) : Prop := ∃ t, (∀ X, C.Is X → PGs X e t) ∧ SdGs C.K C.W t D ∧ FrGs t vs
variable {vs : List Nat} {Gs : DGs}
theorem sgv_var (i : Nat) {x : Str} (hi : C.N[i]? = some x := by rfl) (hx : Sto C x := by first | exact Or.inl rfl | exact Or.inr ⟨rfl, rfl⟩) (hv : i ∈ vs := by decide) : SGv C vs (.Name x pos) (gVar i) :=
  ⟨gName i, fun X h => pg_name (by rw [h.N]; exact h.nd) (by rw [h.N]; exact hi) (hx.loc h) (hx.fn h), ⟨fun d v env m μ σ H Q R E r q => wp.ok q R (E.set i r)⟩,
    ⟨fun v σ H Q Q' q k => k _ _ q (by simp) fun j hj => List.getElem?_set_ne (by rintro rfl; exact hj hv)⟩⟩
theorem sgvs_nil : SGvs C vs [] gsNil := by
  obtain ⟨t, p, d⟩ := sgs_nil (C := C)
  refine ⟨gNil, fun X h => pgs_nil, ⟨fun ds vs env m μ σ H Q R E r q => ?_⟩, ⟨fun v σ H Q Q' q k => ⟨q.1, k _ _ q.2 rfl fun _ _ => rfl⟩⟩⟩
  cases r with
  | nil => exact ⟨rfl, wp.ok q R E⟩
  | cons _ _ => exact q.elim
theorem sgvs_cons (h : SGv C vs e G) (g : SGvs C vs es Gs) (hs : ∀ env, (assignEach (e :: es) env).map (·.2) = assign e env :: (assignEach es env).map (·.2) := by intro _; rfl) : SGvs C vs (e :: es) (gsCons G Gs) := by
  obtain ⟨t, p, d, f⟩ := h
  obtain ⟨u, p', d', f'⟩ := g
  refine ⟨gCons t u, fun X hX => pgs_cons (p X hX) (p' X hX) (hs X.env), ⟨fun ds vs env m μ σ H Q R E r q => ?_⟩, ⟨fun vs' σ H Q Q' q k => ?_⟩⟩
  · cases r with
    | nil => exact q.elim
    | @cons dx v ds vs r1 r2 =>
      refine ⟨v, vs, rfl, ?_⟩
      exact d.run dx v env m μ σ H _ R E r1 (wp.mono (wp.bind q) fun σ1 H1 ⟨env1, m1, μ1, e1, R1, E1, h1⟩ => d'.run ds vs env1 m1 μ1 σ1 H1 Q R1 E1 (r2.mono e1) h1)
  · obtain ⟨v, r, e1, q⟩ := q
    exact ⟨v, r, e1, f.run v σ H _ _ q fun σ2 H2 q2 l2 g2 => f'.run r σ2 H2 Q Q' q2 fun σ3 H3 q3 l3 g3 => k σ3 H3 q3 (l3.trans l2) fun j hj => (g3 j hj).trans (g2 j hj)⟩
theorem sgv_tup {k n : Nat} (h : SGvs C vs es Gs) (hn : ∀ env, (assignEach es env).length = n := by intro _; rfl) (hst : ∀ env, (assignEach es env).findIdx? (·.1) = none := by intro _; rfl) : SGv C vs (.Tuple es k pos) (gTupD n Gs) := by
  obtain ⟨t, p, d, f⟩ := h
  refine ⟨gTup C.K n t, fun X hX => by rw [← hX.K]; exact pg_tup hX.calm (p X hX) (hn X.env) (hst X.env), ⟨fun dx v env m μ σ H Q R E r q => ?_⟩, ⟨fun v σ H Q Q' q k => ?_⟩⟩
  · cases r with
    | @tup a xs ds s r =>
      have q' : wp C.K C.W (fun μ H => RE C.K μ H) μ H (if ds.length = n then Gs ds env m else .bad) Q := q
      by_cases hl : ds.length = n
      · rw [if_pos hl] at q'
        exact ⟨a, xs, rfl, s, by rw [← r.length]; exact hl, d.run ds xs env m μ σ H Q R E r q'⟩
      · rw [if_neg hl] at q'; exact q'.elim
    | _ => exact q.elim
  · obtain ⟨a, xs, e1, s, hl, q⟩ := q
    exact ⟨a, xs, e1, s, hl, f.run xs σ H Q Q' q k⟩

theorem wipe_get {σ : L2.St} {j : Nat} : ∀ {vs : List Nat}, (L2.wipe σ vs)[j]? = if j ∈ vs then (if j < σ.length then some none else none) else σ[j]?
  | [] => by simp [L2.wipe]
  | v :: vs => by
    show ((L2.wipe σ vs).set v none)[j]? = _
    by_cases hj : v = j
    · subst hj
      rw [if_pos List.mem_cons_self]
      by_cases hl : v < σ.length
      · rw [if_pos hl, List.getElem?_set_self (by rw [wipe_length]; exact hl)]
      · rw [if_neg hl, List.getElem?_eq_none]
        rw [List.length_set, wipe_length]; omega
    · rw [List.getElem?_set_ne hj, wipe_get]
      by_cases hm : j ∈ vs
      · rw [if_pos hm, if_pos (List.mem_cons_of_mem _ hm)]
      · rw [if_neg hm, if_neg (by simp only [List.mem_cons, not_or]; exact ⟨fun e => hj e.symm, hm⟩)]
theorem wipe_same {σ σ2 : L2.St} (hl : σ2.length = (L2.wipe σ vs).length) (hg : ∀ j, j ∉ vs → σ2[j]? = (L2.wipe σ vs)[j]?) : L2.wipe σ2 vs = L2.wipe σ vs := by
  refine List.ext_getElem? fun j => ?_
  rw [wipe_length] at hl
  rw [wipe_get, wipe_get, hl]
  by_cases hm : j ∈ vs
  · rw [if_pos hm, if_pos hm]
  · rw [if_neg hm, if_neg hm, hg j hm, wipe_get, if_neg hm]

/-- nothing may be raised -/
def Out.nox {α : Type} (o : Out α) : Out α := match o with
  | .ok a m => .ok a m
  | _ => .bad
@[simp] theorem Out.nox_ok {α : Type} (a : α) (m : Mem) : (Out.ok a m).nox = .ok a m := id rfl
@[simp] theorem Out.nox_bad {α : Type} : (Out.bad : Out α).nox = .bad := id rfl
@[simp] theorem Out.nox_exc {α : Type} (x : DX) (m : Mem) : (Out.exc x m : Out α).nox = .bad := id rfl
theorem wp.bindX {α β γ δ : Type} {R : List Addr → Hp → α → β → Prop} {R' : List Addr → Hp → γ → δ → Prop} {o : Out α} {f : α → Mem → Out γ} {Q : δ → Hp → Prop} (h : wp K W R' μ H (o.nox.bind f) Q) : wp K E0' R μ H o (Mid K W R R' μ H f Q) := by
  cases o with
  | ok a m => exact fun b μ2 H2 e2 r1 r2 => ⟨a, m, μ2, e2, r1, r2, wp.later e2 h⟩
  | exc x m => exact h.elim
  | bad => exact h
open Classical in
noncomputable def compD (gs : List (Nat × MO)) (G : DG) (T : DT) (E : DE) (k : Nat) (env : Env) : List DV → Mem → Out Unit
  | [], m => if guard gs m then .ok () m else .bad
  | d :: ds, m => if guard gs m then (G d env m).nox.bind fun env1 m1 => (T env1 m1).nox.bind fun c m2 => if c then (E env1 m2).nox.bind fun y m3 => (match m3[k]? with
      | some (.lst acc) => if acc.length < 16777216 then compD gs G T E k env ds (m3.set k (.lst (acc ++ [y]))) else .bad
      | _ => .bad) else compD gs G T E k env ds m2 else .bad
/-- [e for target in iter if test]: the new list stands at the first free place from the start -/
noncomputable def eComp (I : DI) (G : DG) (T : DT) (E : DE) (vs : List Nat) : DE := fun env m => (I env m).bind fun it m1 =>
  (compD it.gs G T E m1.length (wipeD vs env) it.ds (m1 ++ [.lst []])).bind fun _ m2 => .ok (.ref m1.length) m2
theorem sd_comp {scope : Scope} {wi : TI} {g : TG} {tt : TT} {te : TE} (di : SdI C.K C.W wi I) (dg : SdG C.K E0' g G) (fg : FrG g vs) (dt : SdT C.K E0' tt T) (de : Sd C.K E0' te A) : Sd C.K C.W (tLc wi g tt te vs) (eComp I G T A vs) := by
  refine ⟨fun env m μ σ H Q R E q => ?_⟩
  refine di.run env m μ σ H _ R E (wp.mono (wp.bind q) fun J H1 ⟨it, m1, μ1, e1, R1, ri, h1⟩ => ?_)
  intro D hD
  have R0 : Rel C.K (m1 ++ [.lst []]) (μ1 ++ [D]) (upd H1 D (.lst [])) := rel_lst R1 hD .nil
  have e0 : Ext C.K μ1 H1 (μ1 ++ [D]) (upd H1 D (.lst [])) := (ext_fresh hD).trans ext_snoc
  have hk0 : (μ1 ++ [D])[m1.length]? = some D := by rw [← R1.len]; simp
  refine ⟨fun i k H' => i ≤ it.ds.length ∧ k = it.ds.length - i ∧ ∃ m' μ', Ext C.K (μ1 ++ [D]) (upd H1 D (.lst [])) μ' H' ∧ Rel C.K m' μ' H' ∧ wp C.K C.W (RV C.K) μ' H' ((compD it.gs G T A m1.length (wipeD vs env) (it.ds.drop i) m').bind fun _ m2 => .ok (.ref m1.length) m2) Q,
    ⟨_, Nat.zero_le _, rfl, m1 ++ [.lst []], μ1 ++ [D], Ext.refl, R0, by simpa using wp.later e0 h1⟩, ?_⟩
  rintro i k H2 ⟨hle, hk, m2, μ2, e2, R2, q2⟩
  subst hk
  have hkD : μ2[m1.length]? = some D := e2.pre _ _ hk0
  cases hd : it.ds.drop i with
  | nil =>
    have hl : it.ds.length ≤ i := List.drop_eq_nil_iff.mp hd
    rw [hd] at q2
    unfold compD at q2
    by_cases hg : guard it.gs m2
    · rw [if_pos hg] at q2
      exact .inl ⟨(ri m2 μ2 H2 (e0.trans e2) R2 hg i).2 (Nat.le_antisymm hl hle), wp.ok q2 R2 (.ref hkD)⟩
    · rw [if_neg hg] at q2; exact q2.elim
  | cons d ds =>
    have hlt : i < it.ds.length := by
      rcases Nat.lt_or_ge i it.ds.length with h | h
      · exact h
      · rw [List.drop_eq_nil_iff.mpr h] at hd; cases hd
    have hgd : it.ds[i]? = some d := by
      rw [List.drop_eq_getElem_cons hlt] at hd
      cases hd
      simp [hlt]
    have hrest : it.ds.drop (i + 1) = ds := by
      rw [List.drop_eq_getElem_cons hlt] at hd
      cases hd
      rfl
    rw [hd] at q2
    unfold compD at q2
    by_cases hg : guard it.gs m2
    · rw [if_pos hg] at q2
      obtain ⟨go, yl⟩ := (ri m2 μ2 H2 (e0.trans e2) R2 hg i).1 d hgd
      refine .inr ⟨go, fun H' => ∃ m' μ', Ext C.K (μ1 ++ [D]) (upd H1 D (.lst [])) μ' H' ∧ Rel C.K m' μ' H' ∧ wp C.K C.W (RV C.K) μ' H' ((compD it.gs G T A m1.length (wipeD vs env) ds m').bind fun _ m2 => .ok (.ref m1.length) m2) Q, fun H' hh => ⟨it.ds.length - (i + 1), by omega, hlt, rfl, by rw [hrest]; exact hh⟩, fun x H3 y => ?_⟩
      obtain ⟨e3, R3, r3⟩ := yl x H3 y
      have E3 : RE C.K μ2 H3 (wipeD vs env) (L2.wipe σ vs) := ((E.mono e1).mono ((e0.trans e2).trans e3)).wipe vs
      have q3 := wp.later e3 q2
      have assoc : ∀ {α β γ : Type} (o : Out α) (f : α → Mem → Out β) (g : β → Mem → Out γ), (o.bind f).bind g = o.bind fun a m => (f a m).bind g := by
        intro α β γ o f g; cases o <;> rfl
      rw [assoc] at q3
      refine fg.run x _ H3 _ _ (dg.run d x (wipeD vs env) m2 μ2 _ H3 _ R3 E3 r3 (wp.bindX q3)) fun σ4 H4 ⟨env4, m4, μ4, e4, R4, E4, q4⟩ l4 g4 => ?_
      refine ⟨wipe_same l4 g4, ?_⟩
      dsimp only at q4
      rw [assoc] at q4
      refine dt.run env4 m4 μ4 σ4 H4 _ R4 E4 (wp.mono (wp.bindX q4) fun c H5 ⟨dc, m5, μ5, e5, R5, r5, q5⟩ => ?_)
      have r5' : dc = c := r5
      subst r5'
      have e25 : Ext C.K (μ1 ++ [D]) (upd H1 D (.lst [])) μ5 H5 := ((e2.trans e3).trans e4).trans e5
      cases dc with
      | false =>
        rw [if_neg Bool.false_ne_true]
        exact ⟨m5, μ5, e25, R5, q5⟩
      | true =>
        rw [if_pos rfl]
        have q5' : wp C.K C.W (RV C.K) μ5 H5 (((A env4 m5).nox.bind fun y m3 => (match m3[m1.length]? with
          | some (.lst acc) => if acc.length < 16777216 then compD it.gs G T A m1.length (wipeD vs env) ds (m3.set m1.length (.lst (acc ++ [y]))) else .bad
          | _ => .bad)).bind fun _ m2 => .ok (.ref m1.length) m2) Q := q5
        rw [assoc] at q5'
        refine de.run env4 m5 μ5 σ4 H5 _ R5 (E4.mono e5) (wp.mono (wp.bindX q5') fun y H6 ⟨dy, m6, μ6, e6, R6, r6, q6⟩ => ?_)
        dsimp only at q6
        cases g6 : m6[m1.length]? with
        | none => rw [g6] at q6; exact q6.elim
        | some o =>
          rw [g6] at q6
          cases o with
          | lst acc =>
            dsimp only at q6
            by_cases hz : acc.length < 16777216
            · rw [if_pos hz] at q6
              have hD6 : μ6[m1.length]? = some D := e6.pre _ _ (e25.pre _ _ hk0)
              obtain ⟨xs, hx, rx⟩ := R6.obj _ _ _ hD6 g6
              refine ⟨xs, hx, by rw [← rx.length, line_eq]; exact hz, ?_⟩
              have ew : Ext C.K μ6 H6 μ6 (upd H6 D (.lst (xs ++ [y]))) := ext_write hx ⟨(by simp), (by simp), (by simp)⟩ (by simp)
              refine ⟨m6.set m1.length (.lst (acc ++ [dy])), μ6, (e25.trans e6).trans ew, R6.write hD6 g6 trivial ⟨_, upd_same, (rx.mono ew).append (.cons (r6.mono ew) .nil)⟩ trivial, wp.later ew q6⟩
            · rw [if_neg hz] at q6; exact q6.elim
          | _ => exact q6.elim
    · rw [if_neg hg] at q2; exact q2.elim
theorem se_comp {elt : Expr} {ifs : List Expr} {scope : Scope} {own : List (Str × Nat)} (hi : SI C tg iter I) (ok : BlkOk C.N C.sc scope own) (hg : SGv (C.blk scope) (own.map (·.2)) tg G) (ht : STs (C.blk scope) ifs T) (he : SE (C.blk scope) elt A)
    (hs : ∀ env x, foldedSetIterable iter env x = pure x := by intro _ _; rfl) : SE C (.ListComp elt [⟨tg, iter, ifs, 0⟩] scope pos) (eComp I G T A (own.map (·.2))) := by
  obtain ⟨wi, pi, di⟩ := hi
  obtain ⟨g, pg, dg, fg⟩ := hg
  obtain ⟨tt, pt, dt⟩ := ht
  obtain ⟨te, pe, de⟩ := he
  exact ⟨_, fun X hX => pe_lc hX.calm (by rw [hX.N]; exact hX.nd) (pi X hX) (by rw [hX.N, hX.sc]; exact ok) (fun s H Ca cl fp => pg _ (hX.blk scope s H Ca cl fp)) (fun s H Ca cl fp => pt _ (hX.blk scope s H Ca cl fp))
    (fun s H Ca cl fp => pe _ (hX.blk scope s H Ca cl fp)) (hs X.env), sd_comp (scope := scope) di dg fg dt de⟩
end
end DL

end
section
set_option Elab.async false
set_option linter.all false
set_option maxRecDepth 100000
set_option maxHeartbeats 4000000
set_option autoImplicit false
/-! DL5: what is left behind a call (gc), defs, calls of defs. -/
namespace DL
open PySem PySem.Spec L2

/-! ### references below n -/
mutual
def DV.lo (n : Nat) : DV → Prop
  | .ref i => i < n
  | .tup ds => loAll n ds
  | _ => True
def loAll (n : Nat) : List DV → Prop
  | [] => True
  | d :: ds => d.lo n ∧ loAll n ds
end
theorem loAll_iff {n : Nat} : ∀ {ds : List DV}, loAll n ds ↔ ∀ d ∈ ds, d.lo n
  | [] => by simp [loAll]
  | d :: ds => by simp [loAll, loAll_iff (ds := ds)]
def MO.lo (n : Nat) : MO → Prop
  | .lst ds => loAll n ds
  | .rol ds => loAll n ds
  | .dic kvs => ∀ p ∈ kvs, p.2.lo n
  | .rod kvs => ∀ p ∈ kvs, p.2.lo n
  | .ins _ fs => loAll n (fs.map (·.2))
section
variable {K : PySem.W.Frag} {W : XK} {μ μ' : List Addr} {H H' : Hp} {m m' : Mem}
mutual
theorem RV.low {n : Nat} (k : ∀ i, i < n → μ'[i]? = μ[i]?) : ∀ (d : DV) (v : V), RV K μ' H d v → d.lo n → RV K μ H d v
  | .non, _, .non, _ => .non
  | .bl _, _, .bl b, _ => .bl b
  | .int _, _, .int i, _ => .int i
  | .str _, _, .str x, _ => .str x
  | .tup ds, _, .tup q r, h => .tup q (RVs.low k ds _ r (by simpa [DV.lo] using h))
  | .ref i, _, .ref e, h => .ref ((k i (by simpa [DV.lo] using h)).symm.trans e)
theorem RVs.low {n : Nat} (k : ∀ i, i < n → μ'[i]? = μ[i]?) : ∀ (ds : List DV) (vs : List V), RVs K μ' H ds vs → loAll n ds → RVs K μ H ds vs
  | [], _, .nil, _ => .nil
  | d :: ds, _, .cons a b, h => by
    simp only [loAll] at h
    exact .cons (RV.low k d _ a h.1) (RVs.low k ds _ b h.2)
end
mutual
theorem RV.bel : ∀ (d : DV) (v : V), RV K μ H d v → d.lo μ.length
  | .non, _, .non => by simp [DV.lo]
  | .bl _, _, .bl b => by simp [DV.lo]
  | .int _, _, .int i => by simp [DV.lo]
  | .str _, _, .str x => by simp [DV.lo]
  | .tup ds, _, .tup q r => by simpa [DV.lo] using RVs.bel ds _ r
  | .ref i, _, .ref e => by simpa [DV.lo] using (List.getElem?_eq_some_iff.mp e).1
theorem RVs.bel : ∀ (ds : List DV) (vs : List V), RVs K μ H ds vs → loAll μ.length ds
  | [], _, .nil => by simp [loAll]
  | d :: ds, _, .cons a b => by simpa [loAll] using ⟨RV.bel d _ a, RVs.bel ds _ b⟩
end
theorem RO.low {n : Nat} {a : Addr} {o : MO} (k : ∀ i, i < n → μ'[i]? = μ[i]?) (r : RO K μ' H a o) (h : o.lo n) : RO K μ H a o := by
  have dl : ∀ {kvs : List (Key × DV)} {kk : List (Key × V)}, RKV K μ' H kvs kk → (∀ p ∈ kvs, p.2.lo n) → RKV K μ H kvs kk := by
    intro kvs kk r
    induction r with
    | nil => intro _; exact .nil
    | cons p t ih => intro h; exact .cons ⟨p.1, RV.low k _ _ p.2 (h _ List.mem_cons_self)⟩ (ih fun q hq => h q (List.mem_cons_of_mem _ hq))
  cases o with
  | lst ds => obtain ⟨xs, h1, q⟩ := r; exact ⟨xs, h1, q.low k _ _ h⟩
  | rol ds => obtain ⟨xs, h1, q⟩ := r; exact ⟨xs, h1, q.low k _ _ h⟩
  | dic kvs => obtain ⟨kk, h1, q⟩ := r; exact ⟨kk, h1, dl q h⟩
  | rod kvs => obtain ⟨o, kk, h1, q⟩ := r; exact ⟨o, kk, h1, dl q h⟩
  | ins C fs => obtain ⟨dx, fv, h1, q1, q2⟩ := r; exact ⟨dx, fv, h1, q1, q2.low k _ _ h⟩
theorem RO.bel {a : Addr} {o : MO} (r : RO K μ H a o) : o.lo μ.length := by
  have dl : ∀ {kvs : List (Key × DV)} {kk : List (Key × V)}, RKV K μ H kvs kk → (∀ p ∈ kvs, p.2.lo μ.length) := by
    intro kvs kk r
    induction r with
    | nil => intro _ h; simp at h
    | cons p t ih =>
      intro q hq
      rcases List.mem_cons.mp hq with e | hq
      · subst e; exact RV.bel _ _ p.2
      · exact ih q hq
  cases o with
  | lst ds => obtain ⟨xs, h1, q⟩ := r; exact q.bel
  | rol ds => obtain ⟨xs, h1, q⟩ := r; exact q.bel
  | dic kvs => obtain ⟨kk, h1, q⟩ := r; exact dl q
  | rod kvs => obtain ⟨o, kk, h1, q⟩ := r; exact dl q
  | ins C fs => obtain ⟨dx, fv, h1, q1, q2⟩ := r; exact q2.bel
/-- what stood ahead stands, or has become what speaks of nothing new -/
def OldOk (m m' : Mem) : Prop := m.length ≤ m'.length ∧ ∀ i, i < m.length → m'[i]? = m[i]? ∨ ∃ o, m'[i]? = some o ∧ o.lo m.length
open Classical in
/-- what is new and not told is forgotten; a new list that is told stands first behind the old ones -/
noncomputable def gcO (m : Mem) (o : Out DV) : Out DV := match o with
  | .ok d m' => if OldOk m m' then (if d.lo m.length then .ok d (m'.take m.length) else match d with
      | .ref k => (match m'[k]? with
        | some ob => if m.length ≤ k ∧ ob.lo m.length then .ok (.ref m.length) (m'.take m.length ++ [ob]) else .ok d m'
        | none => .ok d m')
      | _ => .ok d m') else .ok d m'
  | o => o
theorem low_eq (R : Rel K m μ H) {H2 : Hp} {μ2 : List Addr} (e : Ext K μ H μ2 H2) : ∀ i, i < m.length → μ2[i]? = μ[i]? := fun i hi => by
  have hl : i < μ.length := by rw [R.len]; exact hi
  have : μ[i]? = some μ[i] := by simp [hl]
  rw [this]
  exact e.pre i _ this
theorem rel_take (R : Rel K m μ H) {H2 : Hp} {μ2 : List Addr} (e : Ext K μ H μ2 H2) (R2 : Rel K m' μ2 H2) (old : OldOk m m') : Rel K (m'.take m.length) μ H2 := by
  have lk := low_eq R e
  have look : ∀ {i : Nat} {o : MO}, (m'.take m.length)[i]? = some o → i < m.length ∧ m'[i]? = some o := fun {i o} h => by
    have hi := (List.getElem?_eq_some_iff.mp h).1
    rw [List.length_take] at hi
    have hi' : i < m.length := by omega
    rw [List.getElem?_take_of_lt hi'] at h
    exact ⟨hi', h⟩
  refine ⟨by rw [List.length_take, R.len]; have := old.1; omega, fun i a o h1 h2 => ?_, fun i j a o o' h1 h2 h3 h4 m1 m2 => ?_⟩
  · obtain ⟨hi, h3⟩ := look h2
    have r := R2.obj i a o (e.pre i a h1) h3
    refine r.low lk ?_
    rcases old.2 i hi with q | ⟨o', q, b⟩
    · rw [q] at h3
      have := (R.obj i a o h1 h3).bel
      rwa [R.len] at this
    · rw [q] at h3
      cases h3
      exact b
  · obtain ⟨hi, h3⟩ := look h3
    obtain ⟨hj, h4⟩ := look h4
    exact R2.inj i j a o o' (e.pre i a h1) (e.pre j a h2) h3 h4 m1 m2
theorem wp_gc {Q : V → Hp → Prop} {o : Out DV} (R : Rel K m μ H) (h : wp K W (RV K) μ H (gcO m o) Q) : wp K W (RV K) μ H o Q := by
  cases o with
  | exc x m' => exact h
  | bad => exact h
  | ok d m' =>
    unfold gcO at h
    dsimp only at h
    by_cases old : OldOk m m'
    · rw [if_pos old] at h
      by_cases hb : d.lo m.length
      · rw [if_pos hb] at h
        intro v μ2 H2 e2 R2 r2
        exact h v μ H2 ⟨⟨fun _ _ h => h, e2.tups⟩, e2.frz⟩ (rel_take R e2 R2 old) (r2.low (low_eq R e2) _ _ hb)
      · rw [if_neg hb] at h
        cases d with
        | ref k =>
          dsimp only at h
          cases g : m'[k]? with
          | none => rw [g] at h; exact h
          | some ob =>
            rw [g] at h
            dsimp only at h
            by_cases hc : m.length ≤ k ∧ ob.lo m.length
            · rw [if_pos hc] at h
              intro v μ2 H2 e2 R2 r2
              cases r2 with
              | @ref _ a ha =>
                have R3 := rel_take R e2 R2 old
                have ob2 := R2.obj k a ob ha g
                have ob3 : RO K μ H2 a ob := ob2.low (low_eq R e2) hc.2
                have ex : Ext K μ H (μ ++ [a]) H2 := ⟨⟨fun i b h => getElem?_snoc_old h, e2.tups⟩, e2.frz⟩
                refine h (.ref a) (μ ++ [a]) H2 ex ?_ (.ref (by rw [← R.len]; simp))
                have tl : (m'.take m.length).length = m.length := by rw [List.length_take]; have := old.1; omega
                refine ⟨by rw [List.length_append, List.length_append, R3.len, tl]; rfl, fun i b o h1 h2 => ?_, fun i j b o o' h1 h2 h3 h4 m1 m2 => ?_⟩
                · rcases getElem?_snoc h1 with h1 | ⟨e1, e3⟩
                  · rcases getElem?_snoc h2 with h2 | ⟨e4, e5⟩
                    · exact (R3.obj i b o h1 h2).mono (ext_snoc (K := K) (H := H2)).toExt0 rfl
                    · have := (List.getElem?_eq_some_iff.mp h1).1
                      rw [R.len] at this; omega
                  · rcases getElem?_snoc h2 with h2 | ⟨e4, e5⟩
                    · have := (List.getElem?_eq_some_iff.mp h2).1
                      rw [tl] at this; rw [R.len] at e1; omega
                    · subst e3 e5
                      exact ob3.mono (ext_snoc (K := K) (H := H2)).toExt0 rfl
                · -- places in the longer memory
                  have big : ∀ {i : Nat} {b : Addr} {o : MO}, (μ ++ [a])[i]? = some b → (m'.take m.length ++ [ob])[i]? = some o → ∃ x, μ2[x]? = some b ∧ m'[x]? = some o ∧ ((i < m.length ∧ x = i) ∨ (i = m.length ∧ x = k)) := by
                    intro i b o h1 h2
                    rcases getElem?_snoc h1 with h1 | ⟨e1, e3⟩
                    · rcases getElem?_snoc h2 with h2 | ⟨e4, e5⟩
                      · have hi := (List.getElem?_eq_some_iff.mp h1).1
                        rw [R.len] at hi
                        rw [List.getElem?_take_of_lt hi] at h2
                        exact ⟨i, e2.pre i b h1, h2, .inl ⟨hi, rfl⟩⟩
                      · have := (List.getElem?_eq_some_iff.mp h1).1
                        rw [R.len] at this; omega
                    · rcases getElem?_snoc h2 with h2 | ⟨e4, e5⟩
                      · have := (List.getElem?_eq_some_iff.mp h2).1
                        rw [tl] at this; rw [R.len] at e1; omega
                      · subst e3 e5
                        exact ⟨k, ha, g, .inr ⟨by rw [R.len] at e1; exact e1, rfl⟩⟩
                  obtain ⟨x, x1, x2, x3⟩ := big h1 h3
                  obtain ⟨y, y1, y2, y3⟩ := big h2 h4
                  have := R2.inj x y b o o' x1 y1 x2 y2 m1 m2
                  omega
            · rw [if_neg hc] at h; exact h
        | _ => exact h
    · rw [if_neg old] at h; exact h
end

/-- forgetting behind an expression -/
noncomputable def gc (A : DE) : DE := fun env m => gcO m (A env m)
theorem se_gc {C : Cn} {e : Expr} {A : DE} (h : SE C e A) : SE C e (gc A) := by
  obtain ⟨t, p, d⟩ := h
  exact ⟨t, p, ⟨fun env m μ σ H Q R E q => d.run env m μ σ H Q R E (wp_gc R q)⟩⟩

/-! ### defs -/
structure Sg where
  P : Program
  w : World
  K : PySem.W.Frag
  mg : Str → Option Value
  base : Heap
abbrev Sg.cn (G : Sg) (N : List Str) (sc : Scope) (k : Nat) (W : XK) : Cn := ⟨G.P, G.w, G.K, G.mg, G.base, N, sc, k, W, true⟩
def spD (K : PySem.W.Frag) (n : Nat) (F : DF) : Sp := fun vs H Q E => ∃ m μ ds, vs.length = n ∧ Rel K m μ H ∧ RVs K μ H ds vs ∧ wp K E (RV K) μ H (F ds m) Q
/-- a def that keeps D -/
structure Fn (G : Sg) (k : Nat) (x : Str) (n : Nat) (F : DF) : Prop where
  ex : ∃ f fd ps, ps.length = n ∧ FnOk G.P G.w G.K G.mg G.base (L2.CX G.P G.w) k f fd ps (spD G.K n F) ∧ G.mg x = some (.ref f) ∧ PySem.W.keepIn G.K (.ref f) = true ∧ Binds G.K fd ps []
theorem Fn.mono {G : Sg} {k j : Nat} {x : Str} {n : Nat} {F : DF} (h : Fn G j x n F) (hj : j ≤ k) : Fn G k x n F := by
  obtain ⟨f, fd, ps, h1, h2, h3⟩ := h.ex
  exact ⟨f, fd, ps, h1, h2.mono hj, h3⟩
/-- what is told of a def may be told in other words -/
def Fin (F F' : DF) : Prop := ∀ ds m, F ds m = .bad ∨ F ds m = F' ds m
theorem Fn.as {G : Sg} {k : Nat} {x : Str} {n : Nat} {F F' : DF} (h : Fn G k x n F') (hF : ∀ ds m, F ds m ≠ .bad → F' ds m = F ds m) : Fn G k x n F := by
  obtain ⟨f, fd, ps, h1, h2, h3⟩ := h.ex
  refine ⟨f, fd, ps, h1, h2.imp fun vs H Q E ⟨m, μ, ds, e1, R, r, q⟩ => ⟨m, μ, ds, e1, R, r, ?_⟩, h3⟩
  have : F ds m ≠ .bad := fun e => by rw [e] at q; exact q
  rw [hF ds m this]
  exact q
def envOf (N : Nat) (ds : List DV) : Env := ds.map some ++ List.replicate (N - ds.length) none
noncomputable def runD (N : Nat) (n : Nat) (S : DS) : DF := fun ds m => if ds.length = n then gcO m ((S (envOf N ds) m).bind fun fl m1 => match fl with
  | .rt d => .ok d m1
  | .nx _ => .ok .non m1
  | _ => .bad) else .bad
theorem re_start {K : PySem.W.Frag} {μ : List Addr} {H : Hp} {N : List Str} {ds : List DV} {vs : List V} (r : RVs K μ H ds vs) : RE K μ H (envOf N.length ds) (L2.start N vs) := by
  have hl := r.length
  refine ⟨by simp [envOf, L2.start, hl], fun i d h => ?_⟩
  unfold envOf at h
  by_cases hi : i < ds.length
  · rw [List.getElem?_append_left (by simpa using hi), List.getElem?_map] at h
    obtain ⟨d', h1, h2⟩ := Option.map_eq_some_iff.mp h
    cases h2
    obtain ⟨v, h3, h4⟩ := r.get h1
    refine ⟨v, ?_, h4⟩
    unfold L2.start
    rw [List.getElem?_append_left (by rw [List.length_map, ← hl]; exact hi), List.getElem?_map, h3]
    rfl
  · rw [List.getElem?_append_right (by simpa using hi)] at h
    have := List.mem_of_getElem? h
    rw [List.mem_replicate] at this
    cases this.2
theorem fn_ok {G : Sg} {x qual : Str} {params : Arguments} {body : List Stmt} {scope : Scope} {kws : List (Str × V)} {f : Addr} {fd : FuncData} {N ps : List Str} {k : Nat} {S : DS} (F : FunD G.K x qual params body scope [] kws f fd) (sc : FnScope N ps scope)
    (hb : ∀ W, SSs (G.cn N scope k W) body S) : FnOk G.P G.w G.K G.mg G.base (L2.CX G.P G.w) (k + 1) f fd ps (spD G.K ps.length (runD N.length ps.length S)) := by
  refine F.ok sc (fun vs H Q E h => ?_) (fun cdv A outer s H vs Q E hr h => ?_)
  · obtain ⟨m, μ, ds, e, _⟩ := h
    exact e
  · obtain ⟨m, μ, ds, e, R, r, q⟩ := h
    obtain ⟨t, p, d⟩ := hb E
    have I : (G.cn N scope k E).Is (cxOf (L2.CX G.P G.w) G.P G.w G.K G.mg G.base N qual scope f cdv A outer s H E) :=
      ⟨rfl, rfl, rfl, rfl, rfl, rfl, sc.nd, rfl, rfl, hr, passes_of rfl, passes_call (takes_of rfl rfl rfl rfl) fun _ _ _ _ h => h, fun _ _ => rfl⟩
    refine ⟨t, p _ I, d.run (envOf N.length ds) m μ _ H _ R (re_start r) ?_⟩
    unfold runD at q
    rw [if_pos (by rw [r.length]; exact e)] at q
    have q2 := wp_gc R q
    cases o : S (envOf N.length ds) m with
    | ok fl m1 =>
      rw [o] at q2
      intro μ2 H2 e2 R2
      cases fl with
      | nx env => exact fun σ' E' => q2 .non μ2 H2 e2 R2 .non
      | rt d => exact fun v rv => q2 v μ2 H2 e2 R2 rv
      | bk env => exact q2.elim
      | ct env => exact q2.elim
    | exc x m1 => rw [o] at q2; exact q2
    | bad => rw [o] at q2; exact q2
/-- a def of the module -/
theorem fn_mk {G : Sg} {x qual : Str} {params : Arguments} {body : List Stmt} {scope : Scope} {f : Addr} {fd : FuncData} {N ps : List Str} {k n : Nat} {S : DS} (F : FunD G.K x qual params body scope [] [] f fd) (sc : FnScope N ps scope) (hg : G.mg x = some (.ref f))
    (hb : ∀ W, SSs (G.cn N scope k W) body S)
    (hbi : ∀ (kV doc pm : Value) (an : Option Addr) (cdv ct : Value) (us : List Value), us.length = ps.length → bindArgs (PySem.W.fnOf x qual params body scope .none kV doc pm an cdv ct) ⟨us, []⟩ = pure (ps.zip us)) (hn : ps.length = n := by rfl) : Fn G (k + 1) x n (runD N.length n S) := by
  subst hn
  exact ⟨f, fd, ps, rfl, fn_ok F sc hb, hg, F.kp, F.bindsN hbi⟩

/-! ### calls of defs -/
def eCall (F : DF) (As : DA) : DE := fun env m => (As env m).bind F
section
variable {C : Cn} {e : Expr} {es : List Expr} {p pos : Pos} {As : DA} {F : DF} {n k : Nat} {x : Str}
abbrev Cn.sg (C : Cn) : Sg := ⟨C.P, C.w, C.K, C.mg, C.base⟩
theorem sd_call {K : PySem.W.Frag} {W : XK} {t : TA} (hl : ∀ env m ds m', As env m = .ok ds m' → ds.length = n) (d : SdA K W t As) : Sd K W (tCall (spD K n F) [] W t) (eCall F As) := by
  refine ⟨fun env m μ σ H Q R E q => ?_⟩
  have key : wp K W (RVs K) μ H (As env m) (fun vs H1 => spD K n F (vs ++ []) H1 Q W) := by
    cases o : As env m with
    | ok ds m1 =>
      have q' : wp K W (RV K) μ H (F ds m1) Q := by
        unfold eCall at q; rw [o] at q; exact q
      intro vs μ1 H1 e1 R1 r1
      refine ⟨m1, μ1, ds, ?_, R1, ?_, wp.later e1 q'⟩
      · rw [List.append_nil, ← r1.length]; exact hl env m ds m1 o
      · rw [List.append_nil]; exact r1
    | exc x m1 => unfold eCall at q; rw [o] at q; exact q
    | bad => unfold eCall at q; rw [o] at q; exact q
  exact d.run env m μ σ H _ R E key
theorem aCons_len {A : DE} {n : Nat} (hl : ∀ env m ds m', As env m = .ok ds m' → ds.length = n) : ∀ env m ds m', aCons A As env m = .ok ds m' → ds.length = n + 1 := by
  intro env m ds m' h
  unfold aCons at h
  cases o : A env m with
  | ok d m1 =>
    rw [o] at h
    simp only [Out.bind_ok] at h
    cases o2 : As env m1 with
    | ok ds2 m2 =>
      rw [o2] at h
      simp only [Out.bind_ok, Out.ok.injEq] at h
      rw [← h.1, List.length_cons, hl _ _ _ _ o2]
    | exc x m2 => rw [o2] at h; cases h
    | bad => rw [o2] at h; cases h
  | exc x m1 => rw [o] at h; cases h
  | bad => rw [o] at h; cases h
theorem aNil_len : ∀ (env : Env) (m : Mem) ds m', aNil env m = .ok ds m' → ds.length = 0 := by
  intro env m ds m' h
  cases h
  rfl
theorem se_call (h : Fn C.sg k x n F) (ha : SA C (e :: es) As) (hl : ∀ env m ds m', As env m = .ok ds m' → ds.length = n) (hk : k ≤ C.k) (hg : Gb C x := by rfl) (hdb : (x == ("__debug__" : Str)) = false := by decide)
    (he : ∀ env, starEach (e :: es) env = (false, eval e env) :: starEach es env := by intro _; rfl) (hpl : ∀ env, (backTo pos (starEach es env)).any (·.1) = false := by intro _; rfl) : SE C (.Call (.Name x p) (e :: es) [] pos) (eCall F As) := by
  obtain ⟨f, fd, ps, h1, h2, h3, h4, h5⟩ := h.ex
  obtain ⟨t, pa, da⟩ := ha
  refine ⟨tCall (spD C.K n F) [] C.W t, fun X hX => ?_, sd_call hl da⟩
  refine pe_call (CX := L2.CX X.prog X.w) (k := k) (f := f) (fd := fd) (ps := ps) (ds := []) (by rw [hX.P, hX.w, hX.K, hX.mg, hX.base]; exact h2) (hX.room.mono hk) (hg.gl hX) (by rw [hX.mg]; exact h3) (by rw [hX.K]; exact h4) (by rw [hX.K]; exact h5) .nil hX.px (pa X hX) hdb (he X.env) (hpl X.env)
theorem se_call0 (h : Fn C.sg k x 0 F) (hk : k ≤ C.k) (hg : Gb C x := by rfl) (hdb : (x == ("__debug__" : Str)) = false := by decide) : SE C (.Call (.Name x p) [] [] pos) (eCall F aNil) := by
  obtain ⟨f, fd, ps, h1, h2, h3, h4, h5⟩ := h.ex
  obtain ⟨t, pa, da⟩ := sa_nil (C := C)
  refine ⟨tCall (spD C.K 0 F) [] C.W tNil, fun X hX => ?_, sd_call aNil_len ⟨fun env m μ σ H Q R E q => wp.ok q R .nil⟩⟩
  exact pe_call0 (CX := L2.CX X.prog X.w) (k := k) (f := f) (fd := fd) (ps := ps) (ds := []) (by rw [hX.P, hX.w, hX.K, hX.mg, hX.base]; exact h2) (hX.room.mono hk) (hg.gl hX) (by rw [hX.mg]; exact h3) (by rw [hX.K]; exact h4) (by rw [hX.K]; exact h5) .nil hX.px hdb
end

/-! ### the end -/
theorem cx_none {P : Program} {w : World} {H : Hp} {s : Shared} {e : Value} {s' : Shared} (z : L2.CX P w [] H s (fun _ _ _ => False) e s') : False := by
  obtain ⟨_, _, _, _, _, _, _, _, _, _, _, _, q⟩ := z
  exact q
theorem rvs_ints {K : PySem.W.Frag} {μ : List Addr} {H : Hp} : ∀ ns : List Int, RVs K μ H (ns.map DV.int) (ns.map V.int)
  | [] => .nil
  | n :: ns => .cons (.int n) (rvs_ints ns)
theorem sp_law {K : PySem.W.Frag} {F : DF} {H : Hp} {a : Addr} {ns : List Int} (hO : Only H) (hS : SqL K H a (ns.map V.int)) (T : ∃ m, F [.ref 0] [.rol (ns.map DV.int)] = .ok (.bl true) m) : spD K 1 F [.ref a] H (fun v _ => v = .bl true) fun _ _ _ => False := by
  obtain ⟨m, T⟩ := T
  refine ⟨[.rol (ns.map DV.int)], [a], [.ref 0], rfl, ⟨rfl, fun i b o h1 h2 => ?_, fun i j b o o' h1 h2 h3 h4 m1 m2 => ?_⟩, .cons (.ref rfl) .nil, ?_⟩
  · cases i with
    | zero =>
      simp at h1 h2
      subst h1 h2
      refine ⟨ns.map V.int, ?_, rvs_ints ns⟩
      rcases hS with (h | ⟨o, h⟩) | h
      · rcases hO a with q | ⟨o, xs, q⟩
        · rw [q] at h; cases h
        · rw [q] at h; cases h
      · exact .inl ⟨o, h⟩
      · exact .inr (.inr h)
    | succ i => simp at h1
  · cases i with
    | zero => simp at h3; subst h3; exact m1.elim
    | succ i => simp at h1
  · rw [T]
    intro v μ' H' e R r
    cases r
    rfl

/-- from the law's def to the walk; what may leave hangs on the world -/
theorem walk_end {l : PySem.W.OpenLaw} {n k : Nat} {q : Program} {loose : List Str} {XP : (Str → Option Value) → Heap → Prop} {YP : World → Heap → Prop} {d : DefRec} {x : Str}
    (h1 : l.most = some n) (h2 : n ≤ sizeLine) (h3 : d.params.defaults = []) (h4 : Room k callerA)
    (F : ∀ (w : World) (mg : Str → Option Value) (fa : Addr) (h : Heap), YP w h → h.Ns mainGlobals mg → mg d.name = some (.ref fa) → ∃ (K : PySem.W.Frag) (fd : FuncData) (D : DF), K.In h ∧ (∀ (s : Shared) (u : Value), BindsTo s fd ⟨[u], []⟩ [(x, u)]) ∧
      (∀ ns : List Int, ns.length ≤ n → ∃ m, D [.ref 0] [.rol (ns.map DV.int)] = .ok (.bl true) m) ∧
      ∀ base : Heap, K.In base → base.Ns mainGlobals mg → FnOk l.prog w K mg base (L2.CX l.prog w) k fa fd [x] (spD K 1 D)) :
    PySem.W.WalkO q loose XP YP l.row.toRowW d [] (fun f vs => PySem.call f vs) := by
  refine Att.attach_call h1 h3 fun w s₀ s₁ mg mb fa o pm cd doc a vs ns G Y ho hd hcd hmg hobj hints hlen hg => ?_
  obtain ⟨K, fd, D, KX, hb, hsp, hF⟩ := F w mg fa _ Y G.T.g hmg
  exact law_call KX G.T.g G.T.b G.T.builtins G.T.nolimit hg hobj hints (Nat.le_trans hlen h2) h4 hF hb (fun H hO hS => sp_law hO hS (hsp ns hlen)) fun H e s' z => cx_none z
end DL

end
section
set_option Elab.async false
set_option linter.all false
set_option maxRecDepth 100000
set_option maxHeartbeats 4000000
set_option autoImplicit false
/-! DL6: what the operations are worth. -/
namespace DL
open PySem PySem.Spec L2

section
variable {C : Cn} {a b c e o tg iter : Expr} {es : List Expr} {p q p2 pos : Pos} {A B : DE} {As : DA} {T : DT} {x : Str}
variable {K : PySem.W.Frag} {W : XK} {μ μ' : List Addr} {H H' : Hp} {m : Mem}

/-! ### data -/
def optAll : List (Option PyData) → Option (List PyData)
  | [] => some []
  | none :: _ => none
  | some d :: r => (optAll r).map (d :: ·)
/-- what a value holds, all lists read -/
def pd (m : Mem) : Nat → DV → Option PyData
  | _, .non => some .none
  | _, .bl b => some (.bool b)
  | _, .int i => some (.int i)
  | _, .str x => some (.str x)
  | n + 1, .tup ds => (optAll (ds.map (pd m n))).map .tuple
  | n + 1, .ref i => (match m[i]? with
    | some (.lst ds) => (optAll (ds.map (pd m n))).map .list
    | some (.rol ds) => (optAll (ds.map (pd m n))).map .list
    | _ => none)
  | 0, _ => none
theorem dpAll_of {n : Nat} (ih : ∀ (d : DV) (v : V) (p : PyData), pd m n d = some p → RV K μ H d v → Dp K H v p) : ∀ {ds : List DV} {vs : List V} {ps : List PyData}, optAll (ds.map (pd m n)) = some ps → RVs K μ H ds vs → DpAll K H vs ps
  | [], _, ps, h, .nil => by simp [optAll] at h; subst h; exact .nil
  | d :: ds, _, ps, h, .cons r rs => by
    rw [List.map_cons] at h
    cases e : pd m n d with
    | none => rw [e] at h; simp [optAll] at h
    | some pp =>
      rw [e] at h
      simp only [optAll] at h
      obtain ⟨qs, h1, h2⟩ := Option.map_eq_some_iff.mp h
      subst h2
      exact .cons (ih d _ pp e r) (dpAll_of ih h1 rs)
theorem dp_of (R : Rel K m μ H) : ∀ (n : Nat) (d : DV) (v : V) (pp : PyData), pd m n d = some pp → RV K μ H d v → Dp K H v pp := by
  intro n
  induction n with
  | zero =>
    intro d v pp h r
    cases r <;> simp [pd] at h <;> subst h <;> constructor
  | succ n ih =>
    intro d v pp h r
    cases r with
    | tup s r =>
      simp only [pd] at h
      obtain ⟨qs, h1, h2⟩ := Option.map_eq_some_iff.mp h
      subst h2
      exact .tup s (dpAll_of ih h1 r)
    | @ref i a hi =>
      simp only [pd] at h
      cases g : m[i]? with
      | none => rw [g] at h; simp at h
      | some ob =>
        rw [g] at h
        cases ob with
        | lst ds =>
          obtain ⟨qs, h1, h2⟩ := Option.map_eq_some_iff.mp h
          subst h2
          obtain ⟨xs, s, r⟩ := ro_sq (ds := ds) (.inl rfl) (R.obj i a _ hi g)
          exact .lst s (dpAll_of ih h1 r)
        | rol ds =>
          obtain ⟨qs, h1, h2⟩ := Option.map_eq_some_iff.mp h
          subst h2
          obtain ⟨xs, s, r⟩ := ro_sq (ds := ds) (.inr rfl) (R.obj i a _ hi g)
          exact .lst s (dpAll_of ih h1 r)
        | _ => simp at h
    | _ => simp [pd] at h <;> subst h <;> constructor
/-- == -/
def eqD : D2 := fun x y m => match pd m 64 x, pd m 64 y with
  | some d, some e => if SeqAt.shaped d = true ∧ SeqAt.shaped e = true then .ok (.bl (PyData.eqv d e)) m else .bad
  | _, _ => .bad
def neD : D2 := fun x y m => match pd m 64 x, pd m 64 y with
  | some d, some e => if SeqAt.shaped d = true ∧ SeqAt.shaped e = true then .ok (.bl (!PyData.eqv d e)) m else .bad
  | _, _ => .bad
theorem bd_eq : BinD K W (rEqD K) eqD := by
  intro μ H m x y dx dy Q R r1 r2 q
  unfold eqD at q
  cases e1 : pd m 64 dx with
  | none => rw [e1] at q; exact q.elim
  | some d =>
    cases e2 : pd m 64 dy with
    | none => rw [e1, e2] at q; exact q.elim
    | some e =>
      rw [e1, e2] at q
      dsimp only at q
      by_cases h : SeqAt.shaped d = true ∧ SeqAt.shaped e = true
      · rw [if_pos h] at q
        exact ⟨d, e, dp_of R _ _ _ _ e1 r1, dp_of R _ _ _ _ e2 r2, h.1, h.2, wp.ok q R (.bl _)⟩
      · rw [if_neg h] at q; exact q.elim
theorem bd_ne : BinD K W (rNeD K) neD := by
  intro μ H m x y dx dy Q R r1 r2 q
  unfold neD at q
  cases e1 : pd m 64 dx with
  | none => rw [e1] at q; exact q.elim
  | some d =>
    cases e2 : pd m 64 dy with
    | none => rw [e1, e2] at q; exact q.elim
    | some e =>
      rw [e1, e2] at q
      dsimp only at q
      by_cases h : SeqAt.shaped d = true ∧ SeqAt.shaped e = true
      · rw [if_pos h] at q
        exact ⟨d, e, dp_of R _ _ _ _ e1 r1, dp_of R _ _ _ _ e2 r2, h.1, h.2, wp.ok q R (.bl _)⟩
      · rw [if_neg h] at q; exact q.elim
theorem room64 {X : Cx} (h : C.Is X) : X.A.units + 64 < cLine := by have := h.room.un; omega
theorem or_eq : ∀ X, C.Is X → OpR X (compareOp .Eq) (rEqD C.K) := fun X h => by rw [← h.K]; exact op_eqD (room64 h)
theorem or_ne : ∀ X, C.Is X → OpR X (compareOp .NotEq) (rNeD C.K) := fun X h => by rw [← h.K]; exact op_neD (room64 h)
theorem se_eq (ha : SE C a A) (hb : SE C b B) : SE C (.Compare a [.Eq] [b] pos) (eBin eqD A B) := se_cmp or_eq bd_eq ha hb (nomark _)
theorem se_ne (ha : SE C a A) (hb : SE C b B) : SE C (.Compare a [.NotEq] [b] pos) (eBin neD A B) := se_cmp or_ne bd_ne ha hb (nomark _)
theorem st_eq (ha : SE C a A) (hb : SE C b B) : ST C (.Compare a [.Eq] [b] pos) (tst (eBin eqD A B)) := st_cmp or_eq bd_eq ha hb (nomark _)
theorem st_ne (ha : SE C a A) (hb : SE C b B) : ST C (.Compare a [.NotEq] [b] pos) (tst (eBin neD A B)) := st_cmp or_ne bd_ne ha hb (nomark _)

/-! ### order of data -/
def rLtD (K : PySem.W.Frag) (f : PyData → PyData → Bool) : R2 := fun x y H Q => ∃ d e, Dp K H x d ∧ Dp K H y e ∧ PySem.W.alike d e = true ∧ d ≠ .none ∧ d.depth ≤ 64 ∧ Q (.bl (f d e)) H
theorem room_le {A : Around} {k : Nat} (h : Room k A) {d e : PyData} (hd : d.depth ≤ 64) : A.units + min d.depth e.depth < cLine := by
  have := h.un
  have : min d.depth e.depth ≤ d.depth := Nat.min_le_left _ _
  omega
theorem or_ltD : ∀ X, C.Is X → OpR X (compareOp .Lt) (rLtD C.K fun d e => PySem.W.dataLt d e) := fun X hX => by
  rw [← hX.K]
  intro pins s σ H x y v u Q I rx ry ⟨d, e, hd, he, al, nn, dp, q⟩
  obtain ⟨as, r1⟩ := Dp.reads I d x v hd rx
  obtain ⟨bs, r2⟩ := Dp.reads I e y u he ry
  exact PySem.W.lt_data r1 r2 al nn (room_le hX.room dp) ⟨.bl _, H, I, rfl, q⟩
theorem or_gtD : ∀ X, C.Is X → OpR X (compareOp .Gt) (rLtD C.K fun d e => PySem.W.dataLt e d) := fun X hX => by
  rw [← hX.K]
  intro pins s σ H x y v u Q I rx ry ⟨d, e, hd, he, al, nn, dp, q⟩
  obtain ⟨as, r1⟩ := Dp.reads I d x v hd rx
  obtain ⟨bs, r2⟩ := Dp.reads I e y u he ry
  exact PySem.W.gt_data r1 r2 al nn (room_le hX.room dp) ⟨.bl _, H, I, rfl, q⟩
theorem or_leD : ∀ X, C.Is X → OpR X (compareOp .LtE) (rLtD C.K fun d e => !PySem.W.dataLt e d) := fun X hX => by
  rw [← hX.K]
  intro pins s σ H x y v u Q I rx ry ⟨d, e, hd, he, al, nn, dp, q⟩
  obtain ⟨as, r1⟩ := Dp.reads I d x v hd rx
  obtain ⟨bs, r2⟩ := Dp.reads I e y u he ry
  exact PySem.W.le_data r1 r2 al nn (room_le hX.room dp) ⟨.bl _, H, I, rfl, q⟩
theorem or_geD : ∀ X, C.Is X → OpR X (compareOp .GtE) (rLtD C.K fun d e => !PySem.W.dataLt d e) := fun X hX => by
  rw [← hX.K]
  intro pins s σ H x y v u Q I rx ry ⟨d, e, hd, he, al, nn, dp, q⟩
  obtain ⟨as, r1⟩ := Dp.reads I d x v hd rx
  obtain ⟨bs, r2⟩ := Dp.reads I e y u he ry
  exact PySem.W.ge_data r1 r2 al nn (room_le hX.room dp) ⟨.bl _, H, I, rfl, q⟩
def pnone : PyData → Bool
  | .none => true
  | _ => false
theorem pnone_ne {d : PyData} (h : pnone d = false) : d ≠ .none := by rintro rfl; cases h
/-- an order: of ints at once, of other data by what they hold -/
def ordD (g : Int → Int → Bool) (f : PyData → PyData → Bool) : D2 := fun x y m => match x, y with
  | .int i, .int j => .ok (.bl (g i j)) m
  | _, _ => (match pd m 64 x, pd m 64 y with
    | some d, some e => if PySem.W.alike d e = true ∧ pnone d = false ∧ d.depth ≤ 64 then .ok (.bl (f d e)) m else .bad
    | _, _ => .bad)
theorem bd_ord {g : Int → Int → Bool} {f : PyData → PyData → Bool} (hg : ∀ i j, f (.int i) (.int j) = g i j) : BinD K W (rLtD K f) (ordD g f) := by
  intro μ H m x y dx dy Q R r1 r2 q
  by_cases hi : ∃ i j, dx = .int i ∧ dy = .int j
  · obtain ⟨i, j, rfl, rfl⟩ := hi
    cases r1
    cases r2
    exact ⟨.int i, .int j, .int i, .int j, rfl, (by simp), (by simp [PyData.depth]), by rw [hg]; exact wp.ok q R (.bl _)⟩
  · have e0 : ordD g f dx dy m = (match pd m 64 dx, pd m 64 dy with
        | some d, some e => if PySem.W.alike d e = true ∧ pnone d = false ∧ d.depth ≤ 64 then .ok (.bl (f d e)) m else .bad
        | _, _ => .bad) := by
      unfold ordD
      split
      · exact absurd ⟨_, _, rfl, rfl⟩ hi
      · rfl
    rw [e0] at q
    cases e1 : pd m 64 dx with
    | none => rw [e1] at q; exact q.elim
    | some d =>
      cases e2 : pd m 64 dy with
      | none => rw [e1, e2] at q; exact q.elim
      | some e =>
        rw [e1, e2] at q
        dsimp only at q
        by_cases h : PySem.W.alike d e = true ∧ pnone d = false ∧ d.depth ≤ 64
        · rw [if_pos h] at q
          exact ⟨d, e, dp_of R _ _ _ _ e1 r1, dp_of R _ _ _ _ e2 r2, h.1, pnone_ne h.2.1, h.2.2, wp.ok q R (.bl _)⟩
        · rw [if_neg h] at q; exact q.elim
abbrev ltD : D2 := ordD (fun i j => decide (i < j)) fun d e => PySem.W.dataLt d e
abbrev gtD : D2 := ordD (fun i j => decide (j < i)) fun d e => PySem.W.dataLt e d
abbrev leD : D2 := ordD (fun i j => decide (i ≤ j)) fun d e => !PySem.W.dataLt e d
abbrev geD : D2 := ordD (fun i j => decide (j ≤ i)) fun d e => !PySem.W.dataLt d e
theorem bd_ltD : BinD K W (rLtD K fun d e => PySem.W.dataLt d e) ltD := bd_ord PySem.W.dataLt_int
theorem bd_gtD : BinD K W (rLtD K fun d e => PySem.W.dataLt e d) gtD := bd_ord fun i j => PySem.W.dataLt_int j i
theorem bd_leD : BinD K W (rLtD K fun d e => !PySem.W.dataLt e d) leD := bd_ord fun i j => by rw [PySem.W.dataLt_int]; by_cases h : j < i <;> simp [h] <;> omega
theorem bd_geD : BinD K W (rLtD K fun d e => !PySem.W.dataLt d e) geD := bd_ord fun i j => by rw [PySem.W.dataLt_int]; by_cases h : i < j <;> simp [h] <;> omega
theorem se_lt (ha : SE C a A) (hb : SE C b B) : SE C (.Compare a [.Lt] [b] pos) (eBin ltD A B) := se_cmp or_ltD bd_ltD ha hb (nomark _)
theorem se_gt (ha : SE C a A) (hb : SE C b B) : SE C (.Compare a [.Gt] [b] pos) (eBin gtD A B) := se_cmp or_gtD bd_gtD ha hb (nomark _)
theorem se_le (ha : SE C a A) (hb : SE C b B) : SE C (.Compare a [.LtE] [b] pos) (eBin leD A B) := se_cmp or_leD bd_leD ha hb (nomark _)
theorem se_ge (ha : SE C a A) (hb : SE C b B) : SE C (.Compare a [.GtE] [b] pos) (eBin geD A B) := se_cmp or_geD bd_geD ha hb (nomark _)
theorem st_lt (ha : SE C a A) (hb : SE C b B) : ST C (.Compare a [.Lt] [b] pos) (tst (eBin ltD A B)) := st_cmp or_ltD bd_ltD ha hb (nomark _)
theorem st_gt (ha : SE C a A) (hb : SE C b B) : ST C (.Compare a [.Gt] [b] pos) (tst (eBin gtD A B)) := st_cmp or_gtD bd_gtD ha hb (nomark _)
theorem st_le (ha : SE C a A) (hb : SE C b B) : ST C (.Compare a [.LtE] [b] pos) (tst (eBin leD A B)) := st_cmp or_leD bd_leD ha hb (nomark _)
theorem st_ge (ha : SE C a A) (hb : SE C b B) : ST C (.Compare a [.GtE] [b] pos) (tst (eBin geD A B)) := st_cmp or_geD bd_geD ha hb (nomark _)
/-- a <= b <= c and the like -/
theorem sd_chain {ta tb tc : TE} {r r' : R2} {f g : D2} {D : DE} (hf : BinD K W r f) (hg : BinD K W r' g) (ha : Sd K W ta A) (hb : Sd K W tb B) (hc : Sd K W tc D) : Sd K W (tChain r r' ta tb tc) (eChain f g A B D) := by
  refine ⟨fun env m μ σ H Q R E h => ?_⟩
  refine ha.run env m μ σ H _ R E (wp.mono (wp.bind h) fun x H1 ⟨dx, m1, μ1, e1, R1, r1, h1⟩ => ?_)
  refine hb.run env m1 μ1 σ H1 _ R1 (E.mono e1) (wp.mono (wp.bind h1) fun y H2 ⟨dy, m2, μ2, e2, R2, r2, h2⟩ => ?_)
  refine hf μ2 H2 m2 x y dx dy _ R2 (r1.mono e2) r2 (wp.mono (wp.bind h2) fun z H3 ⟨dz, m3, μ3, e3, R3, r3, h3⟩ => ?_)
  cases r3 with
  | bl k =>
    refine ⟨k, rfl, ?_⟩
    cases k with
    | false => rw [if_neg Bool.false_ne_true]; exact wp.ok h3 R3 (.bl false)
    | true =>
      rw [if_pos rfl]
      refine hc.run env m3 μ3 σ H3 _ R3 (E.mono ((e1.trans e2).trans e3)) (wp.mono (wp.bind h3) fun w H4 ⟨dw, m4, μ4, e4, R4, r4, h4⟩ => ?_)
      exact hg μ4 H4 m4 y w dy dw Q R4 (r2.mono (e3.trans e4)) r4 h4
  | _ => exact h3.elim
theorem se_chain {op op' : CmpOp} {r r' : R2} {f g : D2} {D : DE} (ho : ∀ X, C.Is X → OpR X (compareOp op) r) (ho' : ∀ X, C.Is X → OpR X (compareOp op') r') (hf : BinD C.K C.W r f) (hg : BinD C.K C.W r' g) (ha : SE C a A) (hb : SE C b B) (hc : SE C c D)
    (hm : lastMarks [op, op'] [b, c] = false := by with_unfolding_all rfl) : SE C (.Compare a [op, op'] [b, c] pos) (eChain f g A B D) := by
  obtain ⟨ta, pa, da⟩ := ha
  obtain ⟨tb, pb, db⟩ := hb
  obtain ⟨tc, pc, dc⟩ := hc
  exact ⟨tChain r r' ta tb tc, fun X h => pe_chain (ho X h) (ho' X h) (pa X h) (pb X h) (pc X h) hm, sd_chain hf hg da db dc⟩
theorem st_chain {op op' : CmpOp} {r r' : R2} {f g : D2} {D : DE} (ho : ∀ X, C.Is X → OpR X (compareOp op) r) (ho' : ∀ X, C.Is X → OpR X (compareOp op') r') (hf : BinD C.K C.W r f) (hg : BinD C.K C.W r' g) (ha : SE C a A) (hb : SE C b B) (hc : SE C c D)
    (hm : lastMarks [op, op'] [b, c] = false := by with_unfolding_all rfl) : ST C (.Compare a [op, op'] [b, c] pos) (tst (eChain f g A B D)) := by
  obtain ⟨ta, pa, da⟩ := ha
  obtain ⟨tb, pb, db⟩ := hb
  obtain ⟨tc, pc, dc⟩ := hc
  exact ⟨tTest (tChain r r' ta tb tc), fun X h => pt_chain (ho X h) (ho' X h) (pa X h) (pb X h) (pc X h) hm, sd_tst (sd_chain hf hg da db dc)⟩

/-! ### is -/
def isN : D1 := fun x m => .ok (.bl (match x with | .non => true | _ => false)) m
def notN : D1 := fun x m => .ok (.bl (match x with | .non => false | _ => true)) m
theorem sd_un1 {r : R2} {v : V} {f : D1} {ta : TE} (hf : UnD K W (fun x H Q => r x v H Q) f) (ha : Sd K W ta A) : Sd K W (tOp r ta (tC v)) (eUn f A) := sd_un (r := fun x H Q => r x v H Q) hf ha
theorem und_isN : UnD K W (fun x H Q => (fun x y H Q => y = V.non ∧ Q (.bl (decide (x = V.non))) H : R2) x .non H Q) isN := by
  intro μ H m x dx Q R r1 q
  refine ⟨rfl, ?_⟩
  cases r1 <;> exact wp.ok q R (by simp <;> constructor)
theorem und_notN : UnD K W (fun x H Q => (fun x y H Q => y = V.non ∧ Q (.bl (!decide (x = V.non))) H : R2) x .non H Q) notN := by
  intro μ H m x dx Q R r1 q
  refine ⟨rfl, ?_⟩
  cases r1 <;> exact wp.ok q R (by simp <;> constructor)
theorem se_isN {j} (ha : SE C a A) : SE C (.Compare a [.Is] [.Constant .none j q] pos) (eUn isN A) := by
  obtain ⟨ta, pa, da⟩ := ha
  exact ⟨_, fun X h => pe_cmpR op_isN (pa X h) pe_non (nomark _), sd_un1 und_isN da⟩
theorem se_notN {j} (ha : SE C a A) : SE C (.Compare a [.IsNot] [.Constant .none j q] pos) (eUn notN A) := by
  obtain ⟨ta, pa, da⟩ := ha
  exact ⟨_, fun X h => pe_cmpR op_notN (pa X h) pe_non (nomark _), sd_un1 und_notN da⟩
theorem st_isN {j} (ha : SE C a A) : ST C (.Compare a [.Is] [.Constant .none j q] pos) (tst (eUn isN A)) := by
  obtain ⟨ta, pa, da⟩ := ha
  exact ⟨_, fun X h => pt_cmpR op_isN (pa X h) pe_non (nomark _), sd_tst (sd_un1 und_isN da)⟩
theorem st_notN {j} (ha : SE C a A) : ST C (.Compare a [.IsNot] [.Constant .none j q] pos) (tst (eUn notN A)) := by
  obtain ⟨ta, pa, da⟩ := ha
  exact ⟨_, fun X h => pt_cmpR op_notN (pa X h) pe_non (nomark _), sd_tst (sd_un1 und_notN da)⟩

/-! ### calls of built-ins -/
def CallD (K : PySem.W.Frag) (W : XK) (r : List V → Hp → VK → Prop) (f : DF) : Prop := ∀ μ H m vs ds Q, Rel K m μ H → RVs K μ H ds vs → wp K W (RV K) μ H (f ds m) Q → r vs H Q
theorem sd_cb {t : TA} {r : List V → Hp → VK → Prop} {f : DF} (hf : CallD K W r f) (d : SdA K W t As) : Sd K W (tCB r t) (eCall f As) := by
  refine ⟨fun env m μ σ H Q R E q => ?_⟩
  exact d.run env m μ σ H _ R E (wp.mono (wp.bind q) fun vs H1 ⟨ds, m1, μ1, e1, R1, r1, h1⟩ => hf μ1 H1 m1 vs ds Q R1 r1 h1)
theorem se_callB {id : String} {r : List V → Hp → VK → Prop} {f : DF} (hc : ∀ X, C.Is X → CallR X (.builtin id) r) (hf : CallD C.K C.W r f) (hm : C.mg x = none) (ha : SA C (e :: es) As) (hv : bootBuiltins x = some (.builtin id) := by decide +kernel) (hg : Gb C x := by rfl) (hn : x ≠ "__name__" := by decide)
    (hdb : (x == ("__debug__" : Str)) = false := by decide) (he : ∀ env, starEach (e :: es) env = (false, eval e env) :: starEach es env := by intro _; rfl) (hpl : ∀ env, (backTo pos (starEach es env)).any (·.1) = false := by intro _; rfl) :
    SE C (.Call (.Name x p) (e :: es) [] pos) (eCall f As) := by
  obtain ⟨t, pa, da⟩ := ha
  exact ⟨tCB r t, fun X hX => pe_callB (hc X hX) (hg.gl hX) (by rw [hX.mg]; exact hm) hv (pa X hX) hn hdb (he X.env) (hpl X.env), sd_cb hf da⟩
theorem se_callT {ty : String} {r : List V → Hp → VK → Prop} {f : DF} (hc : ∀ X, C.Is X → CallR X (.type ty) r) (hf : CallD C.K C.W r f) (hm : C.mg x = none) (ha : SA C (e :: es) As) (hv : bootBuiltins x = some (.type ty) := by decide +kernel) (hg : Gb C x := by rfl) (hn : x ≠ "__name__" := by decide)
    (hdb : (x == ("__debug__" : Str)) = false := by decide) (he : ∀ env, starEach (e :: es) env = (false, eval e env) :: starEach es env := by intro _; rfl) (hpl : ∀ env, (backTo pos (starEach es env)).any (·.1) = false := by intro _; rfl) :
    SE C (.Call (.Name x p) (e :: es) [] pos) (eCall f As) := by
  obtain ⟨t, pa, da⟩ := ha
  exact ⟨tCB r t, fun X hX => pe_callTy (hc X hX) (hg.gl hX) (by rw [hX.mg]; exact hm) hv (pa X hX) hn hdb (he X.env) (hpl X.env), sd_cb hf da⟩
/-- a list or a tuple, its items -/
def seqOf (m : Mem) : DV → Option (List DV)
  | .tup ds => some ds
  | .ref i => (match m[i]? with
    | some (.lst ds) => some ds
    | some (.rol ds) => some ds
    | _ => none)
  | _ => none
theorem seqOf_ok (R : Rel K m μ H) {d : DV} {v : V} {ds : List DV} (r : RV K μ H d v) (h : seqOf m d = some ds) : ∃ a xs, v = .ref a ∧ RVs K μ H ds xs ∧ (SqL K H a xs ∨ SqT K H a xs) := by
  cases r with
  | tup s r => simp only [seqOf, Option.some.injEq] at h; subst h; exact ⟨_, _, rfl, r, .inr s⟩
  | @ref i a hi =>
    simp only [seqOf] at h
    cases g : m[i]? with
    | none => rw [g] at h; cases h
    | some ob =>
      rw [g] at h
      cases ob with
      | lst ds' =>
        cases h
        obtain ⟨xs, s, r⟩ := ro_sq (ds := ds) (.inl rfl) (R.obj i a _ hi g)
        exact ⟨a, xs, rfl, r, .inl s⟩
      | rol ds' =>
        cases h
        obtain ⟨xs, s, r⟩ := ro_sq (ds := ds) (.inr rfl) (R.obj i a _ hi g)
        exact ⟨a, xs, rfl, r, .inl s⟩
      | _ => cases h
  | _ => cases h
/-- a list -/
def lstOf (m : Mem) : DV → Option (List DV)
  | .ref i => (match m[i]? with
    | some (.lst ds) => some ds
    | some (.rol ds) => some ds
    | _ => none)
  | _ => none
theorem lstOf_ok (R : Rel K m μ H) {d : DV} {v : V} {ds : List DV} (r : RV K μ H d v) (h : lstOf m d = some ds) : ∃ a xs, v = .ref a ∧ RVs K μ H ds xs ∧ SqL K H a xs := by
  cases r with
  | @ref i a hi =>
    simp only [lstOf] at h
    cases g : m[i]? with
    | none => rw [g] at h; cases h
    | some ob =>
      rw [g] at h
      cases ob with
      | lst ds' =>
        cases h
        obtain ⟨xs, s, r⟩ := ro_sq (ds := ds) (.inl rfl) (R.obj i a _ hi g)
        exact ⟨a, xs, rfl, r, s⟩
      | rol ds' =>
        cases h
        obtain ⟨xs, s, r⟩ := ro_sq (ds := ds) (.inr rfl) (R.obj i a _ hi g)
        exact ⟨a, xs, rfl, r, s⟩
      | _ => cases h
  | _ => cases h
def fLen : DF := fun ds m => match ds with
  | [.str z] => if z.length ≤ 16777216 then .ok (.int z.length) m else .bad
  | [d] => (match seqOf m d with
    | some xs => .ok (.int xs.length) m
    | none => .bad)
  | _ => .bad
theorem cd_len : CallD K W (fun xs H Q => ∃ x n, xs = [x] ∧ LenV K x H n ∧ Q (.int n) H) fLen := by
  intro μ H m vs ds Q R r q
  cases r with
  | nil => exact q.elim
  | @cons d v ds vs r1 r2 =>
    cases r2 with
    | cons _ _ => cases r1 <;> exact q.elim
    | nil =>
      have seq : ∀ xs, seqOf m d = some xs → wp K W (RV K) μ H (.ok (.int xs.length) m) Q → ∃ x n, [v] = [x] ∧ LenV K x H n ∧ Q (.int n) H := by
        intro xs hx q
        obtain ⟨a, ys, rfl, rr, s⟩ := seqOf_ok R r1 hx
        refine ⟨.ref a, ys.length, rfl, ?_, ?_⟩
        · rcases s with s | s
          · exact .inl ⟨ys, s, rfl⟩
          · exact .inr ⟨ys, s, rfl⟩
        · rw [← rr.length]; exact wp.ok q R (.int _)
      have gen : fLen [d] m = (match d with
        | .str z => if z.length ≤ 16777216 then .ok (.int z.length) m else .bad
        | d => (match seqOf m d with
          | some xs => .ok (.int xs.length) m
          | none => .bad)) := by cases d <;> rfl
      rw [gen] at q
      cases r1 with
      | str z =>
        dsimp only at q
        by_cases hz : z.length ≤ 16777216
        · rw [if_pos hz] at q
          exact ⟨.str z, z.length, rfl, ⟨by rw [line_eq]; exact hz, rfl⟩, wp.ok q R (.int _)⟩
        · rw [if_neg hz] at q; exact q.elim
      | tup s r =>
        dsimp only at q
        cases e : seqOf m (.tup _) with
        | none => rw [e] at q; exact q.elim
        | some xs => rw [e] at q; exact seq xs e q
      | ref hi =>
        dsimp only at q
        cases e : seqOf m (.ref _) with
        | none => rw [e] at q; exact q.elim
        | some xs => rw [e] at q; exact seq xs e q
      | _ => exact q.elim
theorem se_len (hm : C.mg "len" = none) (ha : SE C e A) (hg : Gb C "len" := by rfl) (hs : ∀ env, starEach [e] env = (false, eval e env) :: starEach [] env := by intro _; rfl) : SE C (.Call (.Name "len" p) [e] [] pos) (eCall fLen (aCons A aNil)) :=
  se_callB (fun X hX => by rw [← hX.K]; exact call_len) cd_len hm (sa_cons ha sa_nil hs) (hg := hg) (he := hs)

/-! ### isinstance -/
def tyD (m : Mem) : DV → Option String
  | .non => some "NoneType"
  | .bl _ => some "bool"
  | .int _ => some "int"
  | .str _ => some "str"
  | .tup _ => some "tuple"
  | .ref i => (match m[i]? with
    | some (.lst _) => some "list"
    | some (.rol _) => some "list"
    | some (.dic _) => some "dict"
    | some (.rod _) => some "dict"
    | _ => none)
def isTb (t n : String) : Bool := t == n || (t == "bool" && n == "int")
def isI (n : String) : D1 := fun x m => match tyD m x with
  | some t => .ok (.bl (isTb t n)) m
  | none => .bad
theorem tyX_of (R : Rel K m μ H) {d : DV} {v : V} {t : String} (r : RV K μ H d v) (h : tyD m d = some t) : TyX K H v (.type t) := by
  cases r with
  | non => cases h; exact .base .non
  | bl b => cases h; exact .base (.bl b)
  | int i => cases h; exact .base (.int i)
  | str z => cases h; exact .base (.str z)
  | tup s r =>
    cases h
    rcases s with (s | ⟨o, s⟩) | ⟨o, its, n, hk, hc, _⟩
    · exact .base (.tup s)
    · exact .fTuple s
    · exact .kTuple hk hc
  | @ref i a hi =>
    simp only [tyD] at h
    cases g : m[i]? with
    | none => rw [g] at h; cases h
    | some ob =>
      rw [g] at h
      have ro := R.obj i a _ hi g
      cases ob with
      | lst ds => cases h; obtain ⟨xs, s, _⟩ := ro; exact .base (.lst s)
      | rol ds =>
        cases h
        obtain ⟨xs, s, _⟩ := ro
        rcases s with ⟨o, s⟩ | s
        · exact .base (.frz s)
        · rcases s with (s | ⟨o, s⟩) | ⟨o, its, n, hk, hc, _⟩
          · cases s
          · cases s
          · exact .kList hk hc
      | dic kvs => cases h; obtain ⟨kk, s, _⟩ := ro; exact .base (.dK s)
      | rod kvs => cases h; obtain ⟨o, kk, s, _⟩ := ro; exact .fDict s
      | ins _ _ => cases h
theorem kit_is {t n : String} (ht : t ∈ ["NoneType", "bool", "int", "str", "tuple", "list", "dict"]) (hn : n ∈ ["int", "bool", "str", "tuple", "list", "dict"]) : PySem.W.kitOne K (.type t) (.type n) = some (isTb t n) := by
  have all : ∀ t ∈ ["NoneType", "bool", "int", "str", "tuple", "list", "dict"], ∀ n ∈ ["int", "bool", "str", "tuple", "list", "dict"], kitB t n = some (isTb t n) := by decide +kernel
  exact kit_ty (all t ht n hn)
theorem tyD_mem {d : DV} {t : String} (h : tyD m d = some t) : t ∈ ["NoneType", "bool", "int", "str", "tuple", "list", "dict"] := by
  cases d <;> simp only [tyD, Option.some.injEq] at h <;> try (subst h; simp)
  rename_i i
  cases g : m[i]? with
  | none => rw [g] at h; cases h
  | some ob => rw [g] at h; cases ob <;> simp at h <;> subst h <;> simp
/-- isinstance(e, n) -/
theorem se_isI (T : String) {n : Str} (hm : C.mg "isinstance" = none) (hmn : C.mg n = none) (ha : SE C e A) (hn : T ∈ ["int", "bool", "str", "tuple", "list", "dict"] := by decide) (hv : bootBuiltins n = some (.type T) := by decide +kernel) (hg : Gb C "isinstance" := by rfl) (hgn : Gb C n := by rfl)
    (hnn : n ≠ "__name__" := by decide) (hnd : (n == ("__debug__" : Str)) = false := by decide) (hs : ∀ env, starEach [e, .Name n p2] env = (false, eval e env) :: starEach [.Name n p2] env := by intro _; rfl) :
    SE C (.Call (.Name "isinstance" p) [e, .Name n p2] [] pos) (eUn (isI T) A) := by
  obtain ⟨ta, pa, da⟩ := ha
  refine ⟨tCB (rIsi C.K) (tCons ta (tCons (tC (.ty T)) tNil)), fun X hX => ?_, ⟨fun env m μ σ H Q R E q => ?_⟩⟩
  · rw [← hX.K]
    exact pe_callB call_isi (hg.gl hX) (by rw [hX.mg]; exact hm) (by decide +kernel) (pa_cons (pa X hX) (pa_cons (pe_bltn (hgn.gl hX) (by rw [hX.mg]; exact hmn) hv rfl hnn hnd) pa_nil) (hs X.env)) (by decide) (by decide) (hs X.env)
  · refine da.run env m μ σ H _ R E (wp.mono (wp.bind q) fun x H1 ⟨dx, m1, μ1, e1, R1, r1, h1⟩ => ?_)
    unfold isI at h1
    cases g : tyD m1 dx with
    | none => rw [g] at h1; exact h1.elim
    | some t =>
      rw [g] at h1
      exact ⟨x, _, _, _, _, rfl, .ty _, tyX_of R1 r1 g, kit_is (tyD_mem g) hn, wp.ok h1 R1 (.bl _)⟩
end
end DL

end
section
set_option Elab.async false
set_option linter.all false
set_option maxRecDepth 100000
set_option maxHeartbeats 4000000
set_option autoImplicit false
/-! DL7: subscripts, slices, sums of sequences, truth, built-ins over lists, methods of lists, stores. -/
namespace DL
open PySem PySem.Spec L2

section
variable {C : Cn} {a b c e o tg iter lo hi : Expr} {es : List Expr} {p q p2 pos apos cpos : Pos} {A B : DE} {As : DA} {T : DT} {x : Str} {S : DS}
variable {K : PySem.W.Frag} {W : XK} {μ μ' : List Addr} {H H' : Hp} {m : Mem}

/-! ### subscripts -/
def ixD : D2 := fun x y m => match y with
  | .int i => (match x with
    | .str z => if z.length ≤ 16777216 then (match atI z.cps.toList i with
      | some c => .ok (.str ⟨#[c]⟩) m
      | none => .bad) else .bad
    | x => (match seqOf m x with
      | some ds => (match atI ds i with
        | some d => .ok d m
        | none => .bad)
      | none => .bad))
  | _ => .bad
theorem atI_rv {ds : List DV} {xs : List V} {i : Int} {d : DV} (r : RVs K μ H ds xs) (h : atI ds i = some d) : ∃ v, atI xs i = some v ∧ RV K μ H d v := by
  unfold atI at h ⊢
  rw [← r.length]
  cases e : ixN ds.length i with
  | none => rw [e] at h; cases h
  | some j => rw [e] at h; exact r.get h
theorem bd_ix : BinD K W (rIx K) ixD := by
  intro μ H m x y dx dy Q R r1 r2 q
  cases r2 with
  | int i =>
    have seq : (match seqOf m dx with
      | some ds => (match atI ds i with
        | some d => Out.ok d m
        | none => .bad)
      | none => .bad) = ixD dx (.int i) m → rIx K x (.int i) H Q := by
      intro e
      rw [← e] at q
      cases g : seqOf m dx with
      | none => rw [g] at q; exact q.elim
      | some ds =>
        rw [g] at q
        dsimp only at q
        cases g2 : atI ds i with
        | none => rw [g2] at q; exact q.elim
        | some d =>
          rw [g2] at q
          obtain ⟨p, xs, rfl, rr, s⟩ := seqOf_ok R r1 g
          obtain ⟨v, h1, h2⟩ := atI_rv rr g2
          rcases s with s | s
          · exact .inl ⟨p, xs, i, v, rfl, rfl, s, h1, wp.ok q R h2⟩
          · exact .inr (.inl ⟨p, xs, i, v, rfl, rfl, s, h1, wp.ok q R h2⟩)
    cases r1 with
    | str z =>
      have q' : wp K W (RV K) μ H (if z.length ≤ 16777216 then (match atI z.cps.toList i with
        | some c => .ok (.str ⟨#[c]⟩) m
        | none => .bad) else .bad) Q := q
      by_cases hz : z.length ≤ 16777216
      · rw [if_pos hz] at q'
        cases g : atI z.cps.toList i with
        | none => rw [g] at q'; exact q'.elim
        | some c =>
          rw [g] at q'
          exact .inr (.inr ⟨z, i, c, rfl, rfl, by rw [line_eq]; exact hz, g, wp.ok q' R (.str _)⟩)
      · rw [if_neg hz] at q'; exact q'.elim
    | _ => exact seq rfl
  | _ => exact q.elim
theorem se_ix (ha : SE C a A) (hb : SE C b B) (hs : PlainIx b := by intro _ _; rfl) : SE C (.Subscript a b pos) (eBin ixD A B) := by
  obtain ⟨ta, pa, da⟩ := ha
  obtain ⟨tb, pb, db⟩ := hb
  exact ⟨tOp (rIx C.K) ta tb, fun X h => by rw [← h.K]; exact pe_ix ix_seq (pa X h) (pb X h) hs, sd_bin bd_ix da db⟩

/-! ### slices -/
def cutL (ds : List DV) (lo hi : Option Int) : List DV := (ds.drop (HT.sIx ds.length 0 lo)).take (HT.sIx ds.length ds.length hi - HT.sIx ds.length 0 lo)
abbrev DO := Env → Mem → Out (Option Int)
structure SdO (K : PySem.W.Frag) (W : XK) (t : TO) (D : DO) : Prop where
  run : ∀ env m μ σ H Q, Rel K m μ H → RE K μ H env σ → wp K W (fun _ _ a b => a = b) μ H (D env m) Q → t σ H Q
def SO (C : Cn) (e : Option Expr) (D : DO) : Prop := ∃ t, (∀ X, C.Is X → PO X e t) ∧ SdO C.K C.W t D
def oNone : DO := fun _ m => .ok none m
def oSome (A : DE) : DO := fun env m => (A env m).bind fun x m1 => match x with
  | .int i => .ok (some i) m1
  | _ => .bad
theorem so_none : SO C none oNone := ⟨tNoPart, fun X h => po_none, ⟨fun env m μ σ H Q R E q => wp.ok q R rfl⟩⟩
theorem so_some (ha : SE C a A) : SO C (some a) (oSome A) := by
  obtain ⟨ta, pa, da⟩ := ha
  refine ⟨tPart ta, fun X h => po_some (pa X h), ⟨fun env m μ σ H Q R E q => ?_⟩⟩
  refine da.run env m μ σ H _ R E (wp.mono (wp.bind q) fun x H1 ⟨dx, m1, μ1, e1, R1, r1, h1⟩ => ?_)
  cases r1 with
  | int i => exact ⟨i, rfl, wp.ok h1 R1 rfl⟩
  | _ => exact h1.elim
def slD (lo hi : Option Int) : D1 := fun x m => match x with
  | .tup ds => .ok (.tup (cutL ds lo hi)) m
  | .str z => if z.length ≤ 16777216 then .ok (.str (cutS z lo hi)) m else .bad
  | .ref i => (match lstOf m (.ref i) with
    | some ds => .ok (.ref m.length) (m ++ [.lst (cutL ds lo hi)])
    | none => .bad)
  | _ => .bad
def eSl (A : DE) (l h : DO) : DE := fun env m => (A env m).bind fun x m1 => (l env m1).bind fun lo m2 => (h env m2).bind fun hi m3 => slD lo hi x m3
def rSlAny (K : PySem.W.Frag) : V → Option Int → Option Int → Hp → VK → Prop := fun x lo hi H Q => (rSlA K x lo hi H Q ∨ rSlL K x lo hi H Q) ∨ rSlS x lo hi H Q
theorem cut_rv {ds : List DV} {xs : List V} (r : RVs K μ H ds xs) (lo hi : Option Int) : RVs K μ H (cutL ds lo hi) (cutV xs lo hi) := by
  unfold cutL cutV
  rw [r.length]
  exact (r.drop _).take _
theorem rSl_any {lo hi : Option Int} {dx : DV} {x : V} {Q : VK} (R : Rel K m μ H) (r : RV K μ H dx x) (q : wp K W (RV K) μ H (slD lo hi dx m) Q) : rSlAny K x lo hi H Q := by
  cases r with
  | @tup a xs ds s r =>
    refine .inl (.inl ⟨a, xs, rfl, s, fun hw => ?_, fun hw p hp => ?_⟩)
    · refine wp.ok (a := DV.tup (cutL ds lo hi)) q R (.tup s ?_)
      have e : cutV xs lo hi = xs := by
        unfold cutV
        rw [hw.1, hw.2]
        simp
      have := cut_rv r lo hi
      rwa [e] at this
    · have q' : wp K W (RV K) μ H (.ok (.tup (cutL ds lo hi)) m) Q := q
      exact q' _ μ _ (ext_fresh hp) (R.fresh hp) (.tup sqT_new ((cut_rv r lo hi).mono (ext_fresh hp)))
  | str z =>
    have q' : wp K W (RV K) μ H (if z.length ≤ 16777216 then .ok (.str (cutS z lo hi)) m else .bad) Q := q
    by_cases hz : z.length ≤ 16777216
    · rw [if_pos hz] at q'
      exact .inr ⟨z, rfl, by rw [line_eq]; exact hz, wp.ok q' R (.str _)⟩
    · rw [if_neg hz] at q'; exact q'.elim
  | @ref i a hi' =>
    have q' : wp K W (RV K) μ H (match lstOf m (.ref i) with
      | some ds => .ok (.ref m.length) (m ++ [.lst (cutL ds lo hi)])
      | none => .bad) Q := q
    cases g : lstOf m (.ref i) with
    | none => rw [g] at q'; exact q'.elim
    | some ds =>
      rw [g] at q'
      obtain ⟨a', xs, e, r, s⟩ := lstOf_ok R (.ref hi') g
      cases e
      refine .inl (.inr ⟨a, xs, rfl, s, fun p hp => ?_⟩)
      exact q' _ _ _ ((ext_fresh hp).trans ext_snoc) (rel_lst R hp (cut_rv r lo hi)) (rv_new R)
  | _ => exact q.elim
theorem se_slice {l h : DO} {lo hi : Option Expr} (ha : SE C a A) (hl : SO C lo l) (hh : SO C hi h) : SE C (.Subscript a (.Slice lo hi none p2) pos) (eSl A l h) := by
  obtain ⟨ta, pa, da⟩ := ha
  obtain ⟨tl, pl, dl⟩ := hl
  obtain ⟨th, ph, dh⟩ := hh
  refine ⟨tSl (rSlAny C.K) ta tl th, fun X hX => by rw [← hX.K]; exact pe_slice ((sl_tupA.or sl_list).or sl_str) (pa X hX) (pl X hX) (ph X hX), ⟨fun env m μ σ H Q R E q => ?_⟩⟩
  refine da.run env m μ σ H _ R E (wp.mono (wp.bind q) fun x H1 ⟨dx, m1, μ1, e1, R1, r1, h1⟩ => ?_)
  refine dl.run env m1 μ1 σ H1 _ R1 (E.mono e1) (wp.mono (wp.bind h1) fun lo' H2 ⟨dlo, m2, μ2, e2, R2, r2, h2⟩ => ?_)
  refine dh.run env m2 μ2 σ H2 _ R2 (E.mono (e1.trans e2)) (wp.mono (wp.bind h2) fun hi' H3 ⟨dhi, m3, μ3, e3, R3, r3, h3⟩ => ?_)
  subst r2 r3
  exact rSl_any R3 (r1.mono (e2.trans e3)) h3

/-! ### + -/
def addD : D2 := fun x y m => match x, y with
  | .int i, .int j => .ok (.int (i + j)) m
  | .str a, .str b => if a.length + b.length ≤ 16777216 then .ok (.str (a ++ b)) m else .bad
  | .tup ds, .tup es => if ds.length + es.length ≤ 16777216 then .ok (.tup (ds ++ es)) m else .bad
  | .ref i, .ref j => (match m[i]?, m[j]? with
    | some (.lst ds), some (.lst es) => if ds.length + es.length ≤ 16777216 then .ok (.ref m.length) (m ++ [.lst (ds ++ es)]) else .bad
    | _, _ => .bad)
  | _, _ => .bad
def rAddAny (K : PySem.W.Frag) : R2 := fun x y H Q => (((rI0 fun i j => .int (i + j)) : R2) x y H Q ∨ ((fun x y H Q => ∃ i j, x = .str i ∧ y = .str j ∧ i.length + j.length ≤ sizeLine ∧ Q (.str (i ++ j)) H) : R2) x y H Q) ∨ (rCatA K x y H Q ∨ rCat x y H Q)
theorem or_add : ∀ X, C.Is X → OpR X (binaryOp .Add) (rAddAny C.K) := fun X h => by rw [← h.K]; exact ((op_add).or op_add_str).or (op_catA.or op_cat)
theorem bd_add : BinD K W (rAddAny K) addD := by
  intro μ H m x y dx dy Q R r1 r2 q
  cases r1 with
  | int i =>
    cases r2 with
    | int j => exact .inl (.inl ⟨i, j, rfl, rfl, wp.ok q R (.int _)⟩)
    | _ => exact q.elim
  | str z =>
    cases r2 with
    | str w =>
      have q' : wp K W (RV K) μ H (if z.length + w.length ≤ 16777216 then .ok (.str (z ++ w)) m else .bad) Q := q
      by_cases hz : z.length + w.length ≤ 16777216
      · rw [if_pos hz] at q'
        exact .inl (.inr ⟨z, w, rfl, rfl, by rw [line_eq]; exact hz, wp.ok q' R (.str _)⟩)
      · rw [if_neg hz] at q'; exact q'.elim
    | _ => exact q.elim
  | @tup a xs ds s r =>
    cases r2 with
    | @tup b ys es s2 r2 =>
      have q' : wp K W (RV K) μ H (if ds.length + es.length ≤ 16777216 then .ok (.tup (ds ++ es)) m else .bad) Q := q
      by_cases hz : ds.length + es.length ≤ 16777216
      · rw [if_pos hz] at q'
        refine .inr (.inl ⟨a, b, xs, ys, rfl, rfl, s, s2, by rw [← r.length, ← r2.length, line_eq]; exact hz, fun e => ?_, fun n e => ?_, fun n n2 p hp => ?_⟩)
        · subst e
          have : ds = [] := List.length_eq_zero_iff.mp (by rw [r.length]; rfl)
          subst this
          exact wp.ok (a := DV.tup ([] ++ es)) q' R (.tup s2 r2)
        · subst e
          have : es = [] := List.length_eq_zero_iff.mp (by rw [r2.length]; rfl)
          subst this
          exact wp.ok (a := DV.tup (ds ++ [])) q' R (by rw [List.append_nil]; exact .tup s r)
        · exact q' _ μ _ (ext_fresh hp) (R.fresh hp) (.tup sqT_new ((r.append r2).mono (ext_fresh hp)))
      · rw [if_neg hz] at q'; exact q'.elim
    | _ => exact q.elim
  | @ref i a hi =>
    cases r2 with
    | @ref j b hj =>
      have q' : wp K W (RV K) μ H (match m[i]?, m[j]? with
        | some (.lst ds), some (.lst es) => if ds.length + es.length ≤ 16777216 then .ok (.ref m.length) (m ++ [.lst (ds ++ es)]) else .bad
        | _, _ => .bad) Q := q
      cases g1 : m[i]? with
      | none => rw [g1] at q'; exact q'.elim
      | some o1 =>
        cases o1 with
        | lst ds =>
          cases g2 : m[j]? with
          | none => rw [g1, g2] at q'; exact q'.elim
          | some o2 =>
            cases o2 with
            | lst es =>
              rw [g1, g2] at q'
              dsimp only at q'
              by_cases hz : ds.length + es.length ≤ 16777216
              · rw [if_pos hz] at q'
                obtain ⟨xs, h1, r1⟩ := R.obj i a _ hi g1
                obtain ⟨ys, h2, r2⟩ := R.obj j b _ hj g2
                refine .inr (.inr ⟨a, b, xs, ys, rfl, rfl, h1, h2, by rw [← r1.length, ← r2.length, line_eq]; exact hz, fun p hp => ?_⟩)
                exact q' _ _ _ ((ext_fresh hp).trans ext_snoc) (rel_lst R hp (r1.append r2)) (rv_new R)
              · rw [if_neg hz] at q'; exact q'.elim
            | _ => rw [g1, g2] at q'; exact q'.elim
        | _ => rw [g1] at q'; exact q'.elim
    | _ => exact q.elim
  | _ => cases r2 <;> exact q.elim
theorem se_plus (ha : SE C a A) (hb : SE C b B) : SE C (.BinOp a .Add b pos) (eBin addD A B) := se_bin or_add bd_add ha hb

/-! ### truth -/
def truD : DV → Mem → Out Bool := fun x m => match x with
  | .non => .ok false m
  | .bl b => .ok b m
  | .int i => .ok (i != 0) m
  | .str z => if z.length ≤ 16777216 then .ok ((z.length : Int) != 0) m else .bad
  | .tup ds => .ok (!ds.isEmpty) m
  | .ref i => (match m[i]? with
    | some (.lst ds) => .ok (!ds.isEmpty) m
    | some (.rol ds) => .ok (!ds.isEmpty) m
    | some (.dic kvs) => .ok (!kvs.isEmpty) m
    | _ => .bad)
def tru (A : DE) : DT := fun env m => (A env m).bind truD
theorem rvs_emp {ds : List DV} {xs : List V} (r : RVs K μ H ds xs) : (!ds.isEmpty) = !xs.isEmpty := by cases r <;> rfl
theorem st_tru (ha : SE C a A) (he : ∀ env whole, isTrue a env whole = (do let v ← whole; standAt a.pos; holding [v] (truthy v)) := by intro _ _; rfl) : ST C a (tru A) := by
  obtain ⟨ta, pa, da⟩ := ha
  refine ⟨_, fun X hX => by have := pt_truth (pa X hX) (he X.env); rw [hX.K] at this; exact this, ⟨fun env m μ σ H Q R E q => ?_⟩⟩
  refine da.run env m μ σ H _ R E (wp.mono (wp.bind q) fun x H1 ⟨dx, m1, μ1, e1, R1, r1, h1⟩ => ?_)
  cases r1 with
  | non => exact ⟨false, rfl, wp.ok h1 R1 rfl⟩
  | bl b => exact ⟨b, rfl, wp.ok h1 R1 rfl⟩
  | int i => exact ⟨_, rfl, wp.ok h1 R1 rfl⟩
  | str z =>
    have q' : wp C.K C.W (fun _ _ a b => a = b) μ1 H1 (if z.length ≤ 16777216 then .ok ((z.length : Int) != 0) m1 else .bad) Q := h1
    by_cases hz : z.length ≤ 16777216
    · rw [if_pos hz] at q'
      exact ⟨_, ⟨by rw [line_eq]; exact hz, rfl⟩, wp.ok q' R1 rfl⟩
    · rw [if_neg hz] at q'; exact q'.elim
  | tup s r => exact ⟨_, .inr (.inl ⟨_, s, rfl⟩), wp.ok h1 R1 (rvs_emp r)⟩
  | @ref i a hi =>
    have q' : wp C.K C.W (fun _ _ a b => a = b) μ1 H1 (match m1[i]? with
      | some (.lst ds) => .ok (!ds.isEmpty) m1
      | some (.rol ds) => .ok (!ds.isEmpty) m1
      | some (.dic kvs) => .ok (!kvs.isEmpty) m1
      | _ => .bad) Q := h1
    cases g : m1[i]? with
    | none => rw [g] at q'; exact q'.elim
    | some ob =>
      rw [g] at q'
      cases ob with
      | lst ds =>
        obtain ⟨xs, s, r⟩ := ro_sq (ds := ds) (.inl rfl) (R1.obj i a _ hi g)
        exact ⟨_, .inl ⟨xs, s, rfl⟩, wp.ok q' R1 (rvs_emp r)⟩
      | rol ds =>
        obtain ⟨xs, s, r⟩ := ro_sq (ds := ds) (.inr rfl) (R1.obj i a _ hi g)
        exact ⟨_, .inl ⟨xs, s, rfl⟩, wp.ok q' R1 (rvs_emp r)⟩
      | dic kvs =>
        obtain ⟨kk, s, r⟩ := R1.obj i a _ hi g
        exact ⟨_, .inr (.inr ⟨kk, s, rfl⟩), wp.ok q' R1 (by cases r <;> rfl)⟩
      | _ => exact q'.elim

/-! ### built-ins over one list or tuple -/
theorem cd1 {r : List V → Hp → VK → Prop} {f : D1} (h : ∀ μ H m v d Q, Rel K m μ H → RV K μ H d v → wp K W (RV K) μ H (f d m) Q → r [v] H Q) : CallD K W r (fun ds m => match ds with | [d] => f d m | _ => .bad) := by
  intro μ H m vs ds Q R r q
  cases r with
  | nil => exact q.elim
  | cons r1 r2 =>
    cases r2 with
    | nil => exact h μ H m _ _ Q R r1 q
    | cons _ _ => exact q.elim
def f1 (f : D1) : DF := fun ds m => match ds with | [d] => f d m | _ => .bad
def f2 (f : D2) : DF := fun ds m => match ds with | [d, e] => f d e m | _ => .bad
theorem cd2 {r : List V → Hp → VK → Prop} {f : D2} (h : ∀ μ H m v w d e Q, Rel K m μ H → RV K μ H d v → RV K μ H e w → wp K W (RV K) μ H (f d e m) Q → r [v, w] H Q) : CallD K W r (f2 f) := by
  intro μ H m vs ds Q R r q
  cases r with
  | nil => exact q.elim
  | cons r1 r2 =>
    cases r2 with
    | nil => exact q.elim
    | cons r2 r3 =>
      cases r3 with
      | nil => exact h μ H m _ _ _ _ Q R r1 r2 q
      | cons _ _ => exact q.elim
def tupD : D1 := fun x m => match seqOf m x with
  | some ds => .ok (.tup ds) m
  | none => .bad
def listD : D1 := fun x m => match seqOf m x with
  | some ds => .ok (.ref m.length) (m ++ [.lst ds])
  | none => .bad
theorem cd_tuple : CallD K W (fun xs H Q => ∃ p ys, xs = [.ref p] ∧ ((SqL K H p ys ∧ ∀ l, H l = none → Q (.ref l) (upd H l (.tup ys))) ∨ (SqT K H p ys ∧ Q (.ref p) H))) (f1 tupD) := cd1 fun μ H m v d Q R r q => by
  unfold tupD at q
  cases g : seqOf m d with
  | none => rw [g] at q; exact q.elim
  | some ds =>
    rw [g] at q
    obtain ⟨a, xs, rfl, rr, s⟩ := seqOf_ok R r g
    rcases s with s | s
    · exact ⟨a, xs, rfl, .inl ⟨s, fun l hl => q _ μ _ (ext_fresh hl) (R.fresh hl) (.tup sqT_new (rr.mono (ext_fresh hl)))⟩⟩
    · exact ⟨a, xs, rfl, .inr ⟨s, wp.ok q R (.tup s rr)⟩⟩
theorem cd_list : CallD K W (fun xs H Q => ∃ p ys, xs = [.ref p] ∧ (SqL K H p ys ∨ SqT K H p ys) ∧ ∀ l, H l = none → Q (.ref l) (upd H l (.lst ys))) (f1 listD) := cd1 fun μ H m v d Q R r q => by
  unfold listD at q
  cases g : seqOf m d with
  | none => rw [g] at q; exact q.elim
  | some ds =>
    rw [g] at q
    obtain ⟨a, xs, rfl, rr, s⟩ := seqOf_ok R r g
    exact ⟨a, xs, rfl, s, fun l hl => q _ _ _ ((ext_fresh hl).trans ext_snoc) (rel_lst R hl rr) (rv_new R)⟩
theorem se_tuple (hm : C.mg "tuple" = none) (ha : SE C e A) (hg : Gb C "tuple" := by rfl) (hs : ∀ env, starEach [e] env = (false, eval e env) :: starEach [] env := by intro _; rfl) : SE C (.Call (.Name "tuple" p) [e] [] pos) (eCall (f1 tupD) (aCons A aNil)) :=
  se_callT (fun X hX => by rw [← hX.K]; exact call_tuple_of) cd_tuple hm (sa_cons ha sa_nil hs) (hg := hg) (he := hs)
theorem se_list (hm : C.mg "list" = none) (ha : SE C e A) (hg : Gb C "list" := by rfl) (hs : ∀ env, starEach [e] env = (false, eval e env) :: starEach [] env := by intro _; rfl) : SE C (.Call (.Name "list" p) [e] [] pos) (eCall (f1 listD) (aCons A aNil)) :=
  se_callT (fun X hX => by rw [← hX.K]; exact call_list_of) cd_list hm (sa_cons ha sa_nil hs) (hg := hg) (he := hs)
/-- all are bools -/
def blsOf : List DV → Option (List Bool)
  | [] => some []
  | .bl b :: r => (blsOf r).map (b :: ·)
  | _ => none
def intsOf' : List DV → Option (List Int)
  | [] => some []
  | .int b :: r => (intsOf' r).map (b :: ·)
  | _ => none
theorem blsOf_ok : ∀ {ds : List DV} {xs : List V} {bs : List Bool}, RVs K μ H ds xs → blsOf ds = some bs → xs = bs.map V.bl
  | [], _, bs, .nil, h => by cases h; rfl
  | d :: ds, _, bs, .cons r rs, h => by
    cases r with
    | bl b =>
      simp only [blsOf] at h
      obtain ⟨cs, h1, h2⟩ := Option.map_eq_some_iff.mp h
      subst h2
      rw [List.map_cons, blsOf_ok rs h1]
    | _ => cases h
theorem intsOf_ok : ∀ {ds : List DV} {xs : List V} {bs : List Int}, RVs K μ H ds xs → intsOf' ds = some bs → xs = bs.map V.int
  | [], _, bs, .nil, h => by cases h; rfl
  | d :: ds, _, bs, .cons r rs, h => by
    cases r with
    | int b =>
      simp only [intsOf'] at h
      obtain ⟨cs, h1, h2⟩ := Option.map_eq_some_iff.mp h
      subst h2
      rw [List.map_cons, intsOf_ok rs h1]
    | _ => cases h
def allD : D1 := fun x m => match (lstOf m x).bind blsOf with
  | some bs => .ok (.bl (bs.all id)) m
  | none => .bad
def anyD : D1 := fun x m => match (lstOf m x).bind blsOf with
  | some bs => .ok (.bl (bs.any id)) m
  | none => .bad
def sumD : D1 := fun x m => match (seqOf m x).bind intsOf' with
  | some bs => .ok (.int bs.sum) m
  | none => .bad
open PyProof.Rows in
theorem tsum_raw {prog : Program} {w : World} {A : Around} {E : Value → Shared → Prop} {s : Shared} {l : Addr} {its : List Value} {ns : List Int} {Q : Value → Shared → Prop} (hh : A.handled = none) (hl : s.heap.IsTuple l its.toArray) (hi : IntsAre its ns)
    (h : ∀ h' tk t', (∀ b o, s.heap.get? b = some o → h'.get? b = some o) → Q (.int ns.sum t') { s with heap := h', toks := tk }) : wpAny (model prog w) A (call (.builtin "sum") [.ref l]) Q E s := by
  obtain ⟨xs, e⟩ := hi.allInts.items
  have hn : numsOf (intItems xs).toList = ns := by rw [← e]; exact hi.numsOf
  rw [nums_intItems] at hn
  rw [e] at hl
  refine PySem.W.ktm_sumG hh hl fun h' tk t' hk => ?_
  have := h h' tk t' hk
  rw [preSum_eq, List.take_of_length_le (by simp), hn]; exact this
def rSumT (K : PySem.W.Frag) : List V → Hp → VK → Prop := fun vs H Q => ∃ (a : Addr) (ns : List Int), vs = [V.ref a] ∧ (SqL K H a (ns.map V.int) ∨ SqT K H a (ns.map V.int)) ∧ Q (.int ns.sum) H
open PyProof.Rows in
theorem cr_sumT {X : Cx} (hc : X.calm = true) : CallR X (.builtin "sum") (rSumT X.K) := by
  intro pins s σ H vs us Q I r h
  obtain ⟨a, ns, rfl, hs, q⟩ := h
  rcases hs with hs | hs
  · exact cr_sum hc pins s σ H [V.ref a] us Q I r ⟨a, ns, rfl, hs, q⟩
  · obtain ⟨its, rv, hl, _⟩ := I.tuple hs
    rw [Vals.ref1 r]
    exact tsum_raw (I.ok.hd hc) hl rv.ints fun h' tk t' hk => ⟨.int _, H, I.kept hk, ⟨_, rfl⟩, q⟩
theorem lst_bls (R : Rel K m μ H) {d : DV} {v : V} {bs : List Bool} (r : RV K μ H d v) (h : (lstOf m d).bind blsOf = some bs) : ∃ a, v = .ref a ∧ SqL K H a (bs.map V.bl) := by
  obtain ⟨ds, h1, h2⟩ := Option.bind_eq_some_iff.mp h
  obtain ⟨a, xs, rfl, rr, s⟩ := lstOf_ok R r h1
  rw [blsOf_ok rr h2] at s
  exact ⟨a, rfl, s⟩
theorem lst_ints (R : Rel K m μ H) {d : DV} {v : V} {bs : List Int} (r : RV K μ H d v) (h : (lstOf m d).bind intsOf' = some bs) : ∃ a, v = .ref a ∧ SqL K H a (bs.map V.int) := by
  obtain ⟨ds, h1, h2⟩ := Option.bind_eq_some_iff.mp h
  obtain ⟨a, xs, rfl, rr, s⟩ := lstOf_ok R r h1
  rw [intsOf_ok rr h2] at s
  exact ⟨a, rfl, s⟩
theorem cd_all : CallD K W (rAll K) (f1 allD) := cd1 fun μ H m v d Q R r q => by
  unfold allD at q
  cases g : (lstOf m d).bind blsOf with
  | none => rw [g] at q; exact q.elim
  | some bs =>
    rw [g] at q
    obtain ⟨a, rfl, s⟩ := lst_bls R r g
    exact ⟨a, bs, rfl, s, wp.ok q R (.bl _)⟩
theorem cd_any : CallD K W (rAny K) (f1 anyD) := cd1 fun μ H m v d Q R r q => by
  unfold anyD at q
  cases g : (lstOf m d).bind blsOf with
  | none => rw [g] at q; exact q.elim
  | some bs =>
    rw [g] at q
    obtain ⟨a, rfl, s⟩ := lst_bls R r g
    exact ⟨a, bs, rfl, s, wp.ok q R (.bl _)⟩
theorem seq_ints (R : Rel K m μ H) {d : DV} {v : V} {bs : List Int} (r : RV K μ H d v) (h : (seqOf m d).bind intsOf' = some bs) : ∃ a, v = .ref a ∧ (SqL K H a (bs.map V.int) ∨ SqT K H a (bs.map V.int)) := by
  obtain ⟨ds, h1, h2⟩ := Option.bind_eq_some_iff.mp h
  obtain ⟨a, xs, rfl, rr, s⟩ := seqOf_ok R r h1
  rw [intsOf_ok rr h2] at s
  exact ⟨a, rfl, s⟩
theorem cd_sum : CallD K W (rSumT K) (f1 sumD) := cd1 fun μ H m v d Q R r q => by
  unfold sumD at q
  cases g : (seqOf m d).bind intsOf' with
  | none => rw [g] at q; exact q.elim
  | some bs =>
    rw [g] at q
    obtain ⟨a, rfl, s⟩ := seq_ints R r g
    exact ⟨a, bs, rfl, s, wp.ok q R (.int _)⟩
theorem se_all (hm : C.mg "all" = none) (ha : SE C e A) (hg : Gb C "all" := by rfl) (hs : ∀ env, starEach [e] env = (false, eval e env) :: starEach [] env := by intro _; rfl) : SE C (.Call (.Name "all" p) [e] [] pos) (eCall (f1 allD) (aCons A aNil)) :=
  se_callB (fun X hX => by rw [← hX.K]; exact cr_all hX.calm) cd_all hm (sa_cons ha sa_nil hs) (hg := hg) (he := hs)
theorem se_any (hm : C.mg "any" = none) (ha : SE C e A) (hg : Gb C "any" := by rfl) (hs : ∀ env, starEach [e] env = (false, eval e env) :: starEach [] env := by intro _; rfl) : SE C (.Call (.Name "any" p) [e] [] pos) (eCall (f1 anyD) (aCons A aNil)) :=
  se_callB (fun X hX => by rw [← hX.K]; exact cr_any hX.calm) cd_any hm (sa_cons ha sa_nil hs) (hg := hg) (he := hs)
theorem se_sum (hm : C.mg "sum" = none) (ha : SE C e A) (hg : Gb C "sum" := by rfl) (hs : ∀ env, starEach [e] env = (false, eval e env) :: starEach [] env := by intro _; rfl) : SE C (.Call (.Name "sum" p) [e] [] pos) (eCall (f1 sumD) (aCons A aNil)) :=
  se_callB (fun X hX => by rw [← hX.K]; exact cr_sumT hX.calm) cd_sum hm (sa_cons ha sa_nil hs) (hg := hg) (he := hs)
/-- int(x): of an int, of a bool -/
def intD : D1 := fun x m => match x with
  | .int i => .ok (.int i) m
  | .bl b => .ok (.int (if b then 1 else 0)) m
  | _ => .bad
theorem cd_int : CallD K W (fun xs H Q => (∃ i, xs = [V.int i] ∧ Q (.int i) H) ∨ ∃ k, xs = [V.bl k] ∧ Q (.int (if k then 1 else 0)) H) (f1 intD) := cd1 fun μ H m v d Q R r q => by
  cases r with
  | int i => exact .inl ⟨i, rfl, wp.ok q R (.int _)⟩
  | bl b => exact .inr ⟨b, rfl, wp.ok q R (.int _)⟩
  | _ => exact q.elim
theorem se_intOf (hm : C.mg "int" = none) (ha : SE C e A) (hg : Gb C "int" := by rfl) (hs : ∀ env, starEach [e] env = (false, eval e env) :: starEach [] env := by intro _; rfl) : SE C (.Call (.Name "int" p) [e] [] pos) (eCall (f1 intD) (aCons A aNil)) :=
  se_callT (fun X hX => call_int1) cd_int hm (sa_cons ha sa_nil hs) (hg := hg) (he := hs)
/-- max(x, y), min(x, y) of ints -/
def max2D : D2 := fun x y m => match x, y with
  | .int i, .int j => .ok (.int (max i j)) m
  | _, _ => .bad
def min2D : D2 := fun x y m => match x, y with
  | .int i, .int j => .ok (.int (min i j)) m
  | _, _ => .bad
theorem se_max2 {e2 : Expr} (hm : C.mg "max" = none) (ha : SE C e A) (hb : SE C e2 B) (hg : Gb C "max" := by rfl) (hs : ∀ env, starEach [e, e2] env = (false, eval e env) :: starEach [e2] env := by intro _; rfl) (hs2 : ∀ env, starEach [e2] env = (false, eval e2 env) :: starEach [] env := by intro _; rfl)
    (hpl : ∀ env, (backTo pos (starEach [e2] env)).any (·.1) = false := by intro _; rfl) : SE C (.Call (.Name "max" p) [e, e2] [] pos) (eCall (f2 max2D) (aCons A (aCons B aNil))) :=
  se_callB (r := fun xs H Q => ∃ i j, xs = [.int i, .int j] ∧ Q (.int (if j > i then j else i)) H) (fun X hX => call_max2 hX.calm) (cd2 fun μ H m v w d e Q R r1 r2 q => by
    cases r1 with
    | int i =>
      cases r2 with
      | int j =>
        refine ⟨i, j, rfl, ?_⟩
        have : (if j > i then j else i) = max i j := by split <;> omega
        rw [this]
        exact wp.ok q R (.int _)
      | _ => exact q.elim
    | _ => cases r2 <;> exact q.elim) hm (sa_cons ha (sa_cons hb sa_nil hs2) hs) (hg := hg) (he := hs) (hpl := hpl)
theorem se_min2 {e2 : Expr} (hm : C.mg "min" = none) (ha : SE C e A) (hb : SE C e2 B) (hg : Gb C "min" := by rfl) (hs : ∀ env, starEach [e, e2] env = (false, eval e env) :: starEach [e2] env := by intro _; rfl) (hs2 : ∀ env, starEach [e2] env = (false, eval e2 env) :: starEach [] env := by intro _; rfl)
    (hpl : ∀ env, (backTo pos (starEach [e2] env)).any (·.1) = false := by intro _; rfl) : SE C (.Call (.Name "min" p) [e, e2] [] pos) (eCall (f2 min2D) (aCons A (aCons B aNil))) :=
  se_callB (r := fun xs H Q => ∃ i j, xs = [.int i, .int j] ∧ Q (.int (if j < i then j else i)) H) (fun X hX => call_min2 hX.calm) (cd2 fun μ H m v w d e Q R r1 r2 q => by
    cases r1 with
    | int i =>
      cases r2 with
      | int j =>
        refine ⟨i, j, rfl, ?_⟩
        have : (if j < i then j else i) = min i j := by split <;> omega
        rw [this]
        exact wp.ok q R (.int _)
      | _ => exact q.elim
    | _ => cases r2 <;> exact q.elim) hm (sa_cons ha (sa_cons hb sa_nil hs2) hs) (hg := hg) (he := hs) (hpl := hpl)

/-! ### methods of lists, stores -/
def apD : D2 := fun x y m => match x with
  | .ref i => (match m[i]? with
    | some (.lst ds) => if ds.length < 16777216 then .ok .non (m.set i (.lst (ds ++ [y]))) else .bad
    | _ => .bad)
  | _ => .bad
def eAppend (A B : DE) : DE := fun env m => (A env m).bind fun x m1 => match lstOf m1 x with
  | some _ => (B env m1).bind fun y m2 => apD x y m2
  | none => .bad
theorem ty_list (R : Rel K m μ H) {d : DV} {v : V} {ds : List DV} (r : RV K μ H d v) (h : lstOf m d = some ds) : tyV K "list" v H := by
  obtain ⟨a, xs, rfl, _, s⟩ := lstOf_ok R r h
  exact .inl ⟨rfl, xs, s⟩
theorem r_append (R : Rel K m μ H) {dx dy : DV} {x y : V} {Q : VK} (r1 : RV K μ H dx x) (r2 : RV K μ H dy y) (q : wp K W (RV K) μ H (apD dx dy m) Q) : rAppend x [y] H Q := by
  cases r1 with
  | @ref i a hi =>
    have q' : wp K W (RV K) μ H (match m[i]? with
      | some (.lst ds) => if ds.length < 16777216 then .ok .non (m.set i (.lst (ds ++ [dy]))) else .bad
      | _ => .bad) Q := q
    cases g : m[i]? with
    | none => rw [g] at q'; exact q'.elim
    | some ob =>
      rw [g] at q'
      cases ob with
      | lst ds =>
        dsimp only at q'
        by_cases hz : ds.length < 16777216
        · rw [if_pos hz] at q'
          obtain ⟨xs, s, r⟩ := R.obj i a _ hi g
          have ew : Ext K μ H μ (upd H a (.lst (xs ++ [y]))) := ext_write s ⟨(by simp), (by simp), (by simp)⟩ (by simp)
          refine ⟨a, xs, y, rfl, rfl, s, by rw [← r.length, line_eq]; exact hz, ?_⟩
          exact q' .non μ _ ew (R.write hi g trivial ⟨_, upd_same, (r.mono ew).append (.cons (r2.mono ew) .nil)⟩ trivial) .non
        · rw [if_neg hz] at q'; exact q'.elim
      | _ => exact q'.elim
  | _ => exact q.elim
theorem se_append (ha : SE C o A) (hb : SE C e B) (hbase : ∀ env, attributeBase o "append" env (eval o env) = eval o env := by intro _; rfl)
    (hfew : ∀ env, ((backTo cpos (starEach [e] env)).all (fun x => !x.1) && (backToKw cpos (keywordEach [] env)).all (fun x => x.1.isSome) && decide (([e] : List Expr).length + ([] : List Keyword).length + (if ([] : List Keyword).isEmpty then 0 else 1) < 30)) = true := by intro _; rfl)
    (hline : (apos.endLine == cpos.line) = true := by rfl) (hs : ∀ env, starEach [e] env = (false, eval e env) :: starEach [] env := by intro _; rfl) : SE C (.Call (.Attribute o "append" apos) [e] [] cpos) (eAppend A B) := by
  obtain ⟨ta, pa, da⟩ := ha
  obtain ⟨tb, pb, db⟩ := hb
  refine ⟨tBM C.K "list" rAppend ta (tCons tb tNil), fun X hX => by rw [← hX.K]; exact pe_bm PySem.F.plainAttrs_list PySem.F.slot_list_append PySem.F.type_list_append mt_append (pa X hX) (pa_cons (pb X hX) pa_nil (hs X.env)) (hbase X.env) (hfew X.env) hline (hs X.env) rfl, ⟨fun env m μ σ H Q R E q => ?_⟩⟩
  refine da.run env m μ σ H _ R E (wp.mono (wp.bind q) fun x H1 ⟨dx, m1, μ1, e1, R1, r1, h1⟩ => ?_)
  dsimp only at h1
  cases g : lstOf m1 dx with
  | none => rw [g] at h1; exact h1.elim
  | some ds =>
    rw [g] at h1
    refine ⟨ty_list R1 r1 g, ?_⟩
    refine db.run env m1 μ1 σ H1 _ R1 (E.mono e1) (wp.mono (wp.bind h1) fun y H2 ⟨dy, m2, μ2, e2, R2, r2, h2⟩ => ?_)
    exact r_append R2 (r1.mono e2) r2 h2
/-- o[i] = v of a list -/
def setL : DV → DV → DV → Mem → Out Unit := fun o i v m => match o, i with
  | .ref k, .int j => (match m[k]? with
    | some (.lst ds) => (match ixN ds.length j with
      | some n => .ok () (m.set k (.lst (ds.set n v)))
      | none => .bad)
    | _ => .bad)
  | _, _ => .bad
def gSetL (A B : DE) : DG := fun v env m => (A env m).bind fun o m1 => (B env m1).bind fun i m2 => (setL o i v m2).bind fun _ m3 => .ok env m3
theorem sg_setL {i : Expr} (ha : SE C o A) (hb : SE C i B) (hh : ∀ env v, assign (.Subscript o i pos) env v = (do
      let ov ← holding [v] (eval o env)
      let iv ← holding [v, ov] (eval i env)
      standAt pos
      holding [v, ov, iv] (setItem ov iv v)
      release [v, ov, iv] []) := by intro _ _; rfl) : SG C (.Subscript o i pos) (gSetL A B) := by
  obtain ⟨ta, pa, da⟩ := ha
  obtain ⟨tb, pb, db⟩ := hb
  refine ⟨gSub ta tb rSetL, fun X hX => pg_sub (pa X hX) (pb X hX) set_list (hh X.env), ⟨fun d v env m μ σ H Q R E r q => ?_⟩⟩
  refine da.run env m μ σ H _ R E (wp.mono (wp.bind q) fun x H1 ⟨dx, m1, μ1, e1, R1, r1, h1⟩ => ?_)
  refine db.run env m1 μ1 σ H1 _ R1 (E.mono e1) (wp.mono (wp.bind h1) fun y H2 ⟨dy, m2, μ2, e2, R2, r2, h2⟩ => ?_)
  have rx := r1.mono e2
  have rd := r.mono (e1.trans e2)
  cases rx with
  | @ref k a hk =>
    cases r2 with
    | int j =>
      have q' : wp C.K C.W (fun μ H => RE C.K μ H) μ2 H2 ((match m2[k]? with
        | some (.lst ds) => (match ixN ds.length j with
          | some n => .ok () (m2.set k (.lst (ds.set n d)))
          | none => .bad)
        | _ => .bad : Out Unit).bind fun _ m3 => .ok env m3) Q := h2
      cases g : m2[k]? with
      | none => rw [g] at q'; exact q'.elim
      | some ob =>
        rw [g] at q'
        cases ob with
        | lst ds =>
          dsimp only at q'
          cases g2 : ixN ds.length j with
          | none => rw [g2] at q'; exact q'.elim
          | some n =>
            rw [g2] at q'
            obtain ⟨xs, s, r⟩ := R2.obj k a _ hk g
            have ew : Ext C.K μ2 H2 μ2 (upd H2 a (.lst (xs.set n v))) := ext_write s ⟨(by simp), (by simp), (by simp)⟩ (by simp)
            refine ⟨a, xs, j, n, rfl, rfl, s, by rw [← r.length]; exact g2, ?_⟩
            exact q' σ μ2 _ ew (R2.write hk g trivial ⟨_, upd_same, RVs.set (rd.mono ew) n (r.mono ew)⟩ trivial) (E.mono ((e1.trans e2).trans ew))
        | _ => exact q'.elim
    | _ => exact h2.elim
  | _ => cases r2 <;> exact h2.elim
end
end DL

end
section
set_option Elab.async false
set_option linter.all false
set_option maxRecDepth 100000
set_option maxHeartbeats 4000000
set_option autoImplicit false
/-! DL8: enumerate over a tuple, min and max of data, tuple(reversed(x)), stores of comprehensions, pops. -/
namespace DL
open PySem PySem.Spec L2

/-! ### enumerate(t), t a tuple or a list -/
theorem newEnum_any {v : Value} {o : Obj} {J : Heap → Prop} (B : PySem.Begins v o J) : Meets (Builtin.«enumerate.__new__» ⟨[.type "enumerate", v], []⟩) (fun _ R s => J s.heap ∧
      R (.ok (.ret (.ref (s.heap.push o).objs.size))) { s with heap := (s.heap.push o).push { cls := .type "enumerate", data := .fields #[.none, .bool false, .ref s.heap.objs.size, rawInt 0, .none, .none] } }) :=
  .of_wp fun prog w A R s h => by
    obtain ⟨hp, g, d, tk, os⟩ := s
    obtain ⟨h1, h⟩ := h
    have sub := sub_enumerate
    have it1 : ∀ {A' : Around} {E : Value → Shared → Prop} {Q : Value → Shared → Prop}, Q (.ref hp.objs.size) ⟨hp.push o, g, d, tk, os⟩ → wpAny (model prog w) A' (pyIter v) Q E ⟨hp, g, d, tk, os⟩ := fun z => B.iter prog w _ _ ⟨hp, g, d, tk, os⟩ _ h1 z
    wp_walk using it1
    refine wpAny_stack_any fun st => wpAny_pure ?_
    split
    · rename_i c _ _ _ _ _
      cases (c == Value.type "enumerate") <;> (wp_walk using it1; exact ⟨_, rfl, h⟩)
    · wp_walk using it1
      exact ⟨_, rfl, h⟩
theorem call_enum_any {prog : Program} {w : World} {A : Around} {E : Value → Shared → Prop} {s : Shared} {v : Value} {o : Obj} {J : Heap → Prop} {Q : Value → Shared → Prop} (B : PySem.Begins v o J) (h1 : J s.heap)
    (h : ∀ h', IsEnum h' (s.heap.objs.size + 1) s.heap.objs.size 0 .none → h'.get? s.heap.objs.size = some o → (∀ b o, s.heap.get? b = some o → h'.get? b = some o) → Q (.ref (s.heap.objs.size + 1)) { s with heap := h' }) :
    wpAny (model prog w) A (call (.type "enumerate") [v]) Q E s := by
  refine callType_new F.called_enumerate (by decide) (F.typeCall_enumerate_1 _) (F.newCall_enumerate_1 _) (fun obj => F.args_object_init_2 obj _) F.entry_enumerate_new (newEnum_any B) ⟨h1, ?_⟩
  have hz : (s.heap.push o).objs.size = s.heap.objs.size + 1 := Heap.size_push ..
  show _ ∧ _
  rw [hz]
  have he : IsEnum ((s.heap.push o).push { cls := .type "enumerate", data := .fields #[.none, .bool false, .ref s.heap.objs.size, rawInt 0, .none, .none] }) (s.heap.objs.size + 1) s.heap.objs.size 0 .none := by
    have z := Heap.get?_push_size (s.heap.push o) (o := { cls := .type "enumerate", data := .fields #[.none, .bool false, .ref s.heap.objs.size, rawInt 0, .none, .none] }) rfl
    rw [hz] at z
    exact z
  exact ⟨⟨_, he, rfl⟩, h _ he (Heap.get?_push_of_some _ (Heap.get?_push_size _ B.free)) fun b o x => Heap.get?_push_of_some _ (Heap.get?_push_of_some _ x)⟩
/-- the tuple at a, its items in new pairs with their places -/
def ItET (K : PySem.W.Frag) (a : Addr) : It :=
  ⟨fun i H => ∃ (xs : List V) (x : V), SqT K H a xs ∧ xs[i]? = some x, fun i H v H' => ∃ T x, v = .ref T ∧ H T = none ∧ H' = upd H T (.tup [.int (i : Nat), x]) ∧ ∀ xs, SqT K H a xs → xs[i]? = some x, fun i H => ∃ xs : List V, SqT K H a xs ∧ xs.length = i⟩
theorem turn_enumT {P : Program} {w : World} {K : PySem.W.Frag} {elts : List Expr} {kk : Nat} {tpos : Pos} (a e it : Addr) :
    Turn P w K (.Tuple elts kk tpos) (ItET K a) [e, it] e (fun i h => (∃ old, IsEnum h e it ((i : Nat) : Int) old) ∧ h.IsTupleIter it a i ∧ e ≠ it ∧ a ≠ it ∧ e ≠ a) where
  mem := List.mem_cons_self
  obj := fun i h st b hb => by
    obtain ⟨⟨old, he⟩, ⟨o, ho, hc, hd⟩, _⟩ := st
    rcases List.mem_cons.mp hb with z | hb
    · rw [z]; exact ⟨_, he, fun v q => nomatch q⟩
    · rw [List.mem_singleton.mp hb]; exact ⟨o, ho, fun v q => by rw [hd] at q; cases q⟩
  keep := fun i h h' st k => let ⟨⟨old, he⟩, hi, hne⟩ := st; ⟨⟨old, k e (by simp) _ he⟩, hi.at fun o q => k it (by simp) o q, hne⟩
  item := by
    intro X hP hw hK hc i pins s σ H E I hf st hg
    subst hP hw hK
    obtain ⟨⟨old, he⟩, hit, hne, hai, hea⟩ := st
    obtain ⟨xs, x, hq, hx⟩ := hg
    obtain ⟨its, rv, p, hz⟩ := I.tuple hq
    obtain ⟨u, hu, ru⟩ := rv.get hx
    have hel : e < s.heap.objs.size := Heap.lt_size he
    have hil : it < s.heap.objs.size := by obtain ⟨_, q, _⟩ := hit; exact Heap.lt_size q
    have hlt : i < its.toArray.size := by
      have := (List.getElem?_eq_some_iff.mp hu).1
      simpa using this
    refine wpAny_pyNext_enum_itemD (n := its.toArray.size) (i := i) (Draws.tuple (A := X.A.in1) (I.ok.hd hc) it a hai its.toArray) he ⟨hit, p⟩ hlt hne (by simp [hne, hea]) fun y h' tk hP ho hst hT hsz hk => ?_
    obtain rfl : u = y := by
      have e1 : its.toArray[i]? = some y := hP
      have e2 : its.toArray[i]? = some u := by simpa using hu
      exact Option.some.inj (e2.symm.trans e1)
    refine ⟨_, rfl, wpAny_letOwnedTupleGo_enum (s := { s with heap := h', toks := tk + 1 }) ho fun h'' he' sb => ?_⟩
    have hT2 : h''.get? s.heap.objs.size = some { cls := .type "tuple", data := .seq #[.int i tk, u] } := (sb.2 _ (Nat.ne_of_gt hel)).trans hT
    have new : ObjOk X.prog X.w (upd H s.heap.objs.size (.tup [.int (i : Nat), x])) h'' s.heap.objs.size (.tup [.int (i : Nat), x]) :=
      ⟨by show 2 ≤ sizeLine; decide, [.int i tk, u], .cons ⟨_, rfl⟩ (.cons ru .nil), ⟨_, hT2, rfl, _, rfl⟩⟩
    have I1 : Inv X pins σ (upd H s.heap.objs.size (.tup [.int (i : Nat), x])) { s with heap := h'', toks := tk + 1 } :=
      I.turnedNew (ch := [e, it]) (fun b ob hb q => (sb.2 b (fun z => hb (by simp [z]))).trans (hk b ob (fun z => hb (by simp [z])) (fun z => hb (by simp [z])) q)) hf (Nat.le_refl _) new
    refine ⟨.ref s.heap.objs.size, _, I1, rfl, ⟨_, x, rfl, I.hok.fresh (Nat.le_refl _), rfl, fun ys hy => by rw [I.tuple_inj hy hq]; exact hx⟩, ⟨⟨u, ?_⟩, hst.1.at fun o q => (sb.2 it (Ne.symm hne)).trans q, hne, hai, hea⟩, fun b hb => ?_⟩
    · rw [show ((i + 1 : Nat) : Int) = (i : Int) + 1 by omega]
      exact he'
    · have hb' : b < s.heap.objs.size := by
        rcases List.mem_cons.mp hb with z | z
        · rw [z]; exact hel
        · rw [List.mem_singleton.mp z]; exact hil
      rw [upd_ne (Nat.ne_of_lt hb')]
      exact (hf b hb).1
  done := by
    intro X hP hw hK hc i pins s σ H E I hf st hg
    subst hP hw hK
    obtain ⟨⟨old, he⟩, hit, hne, hai, hea⟩ := st
    obtain ⟨xs, hq, hx⟩ := hg
    obtain ⟨its, rv, p, hz⟩ := I.tuple hq
    obtain ⟨f0, f1, f2, f3, f4, f5⟩ := hf it (by simp)
    have hl := rv.length
    have D := Draws.tuple (A := X.A.in1) (prog := X.prog) (w := X.w) (I.ok.hd hc) it a hai its.toArray
    have hn : its.toArray.size = i := by simp; omega
    refine wpAny_pyNext_enum_endD D he ⟨by rw [hn]; exact hit, p⟩ fun h' eb => ⟨rfl, I.turned (t' := s.toks) (fun b o hb q => eb b o hb q) f0 f1 f3 f4 f5⟩
  self := fun A i s Q E st h => let ⟨⟨_, he⟩, _⟩ := st; wpAny_pyIter_enum he h

/-- enumerate of a list or a tuple -/
def iEnA (K : PySem.W.Frag) (ta : TA) : TI := fun σ H R => ta σ H fun vs H1 => ∃ a xs, vs = [.ref a] ∧ ((SqL K H1 a xs ∧ R (Ite K a) H1) ∨ (SqT K H1 a xs ∧ R (ItET K a) H1))
theorem pi_enA {X : Cx} {e : Expr} {ta : TA} {p pos tpos : Pos} {elts : List Expr} {kk : Nat} (hg : Gl X "enumerate") (hm : X.mg "enumerate" = none) (ha : PA X [e] ta) (hs : starEach [e] X.env = [(false, eval e X.env)]) :
    PI X (.Tuple elts kk tpos) (.Call (.Name "enumerate" p) [e] [] pos) (iEnA X.K ta) := by
  refine ⟨fun pins s σ H R I h => ?_⟩
  refine PyProof.Rows.Call_ (ld_blt I hg hm PyProof.Rows.boot_enumerate (PyProof.Rows.callWith_type1 (thn (ha.run pos pins s σ H _ I h) fun us s1 ⟨vs, H1, I1, r1, q1⟩ => ?_) hs rfl))
  obtain ⟨a, xs, ex, q⟩ := q1
  subst ex
  obtain ⟨u, rfl, ru⟩ := Vals.one r1
  cases ru
  have fresh : ∀ b, s1.heap.objs.size ≤ b → FpOk X pins H1 b := fun b hle => I1.fpOk hle (I1.hok.fresh hle)
  rcases q with ⟨hq, q⟩ | ⟨hq, q⟩
  · obtain ⟨its, rv, p', hz⟩ := I1.list hq
    refine call_enum_any (PySem.begins_list a its.toArray) p'.isList fun h' he hit hk => wpAny_pyIter_enum he ?_
    have I2 : Inv X pins σ H1 { s1 with heap := h' } := I1.kept (t' := s1.toks) hk
    refine ⟨s1.heap.objs.size + 1, [s1.heap.objs.size + 1, s1.heap.objs.size], _, _, H1, rfl, I2, turn_enum a (s1.heap.objs.size + 1) s1.heap.objs.size, ⟨⟨.none, he⟩, ⟨_, hit, rfl, rfl⟩, Nat.succ_ne_self _⟩, fun b hb => fresh b ?_, q⟩
    rcases List.mem_cons.mp hb with z | z
    · rw [z]; exact Nat.le_add_right _ _
    · rw [List.mem_singleton.mp z]; exact Nat.le_refl _
  · obtain ⟨its, rv, p', hz⟩ := I1.tuple hq
    refine call_enum_any (PySem.begins_tuple a its.toArray) p' fun h' he hit hk => wpAny_pyIter_enum he ?_
    have I2 : Inv X pins σ H1 { s1 with heap := h' } := I1.kept (t' := s1.toks) hk
    have la : a < s1.heap.objs.size := by obtain ⟨o, ho, _⟩ := p'; exact Heap.lt_size ho
    refine ⟨s1.heap.objs.size + 1, [s1.heap.objs.size + 1, s1.heap.objs.size], _, _, H1, rfl, I2, turn_enumT a (s1.heap.objs.size + 1) s1.heap.objs.size, ⟨⟨.none, he⟩, ⟨_, hit, rfl, rfl⟩, Nat.succ_ne_self _, Nat.ne_of_lt la, Nat.ne_of_gt (Nat.lt_succ_of_lt la)⟩, fun b hb => fresh b ?_, q⟩
    rcases List.mem_cons.mp hb with z | z
    · rw [z]; exact Nat.le_add_right _ _
    · rw [List.mem_singleton.mp z]; exact Nat.le_refl _

section
variable {C : Cn} {a b c e o tg iter lo hi : Expr} {es : List Expr} {p q p2 pos pos2 apos cpos : Pos} {A B : DE} {As : DA} {T : DT} {x : Str} {S : DS} {I : DI} {G : DG}
variable {K : PySem.W.Frag} {W : XK} {μ μ' : List Addr} {H H' : Hp} {m : Mem}
/-- the items in pairs with their places -/
def enm (ds : List DV) : Nat → List DV
  | k => match ds with
    | [] => []
    | d :: r => .tup [.int (k : Int), d] :: enm r (k + 1)
theorem enm_get : ∀ {ds : List DV} {k j : Nat} {d : DV}, (enm ds k)[j]? = some d → ∃ x, ds[j]? = some x ∧ d = .tup [.int ((k + j : Nat) : Int), x]
  | [], _, _, _, h => by simp [enm] at h
  | x :: r, k, 0, d, h => by simp [enm] at h; exact ⟨x, rfl, h.symm⟩
  | x :: r, k, j + 1, d, h => by
    have h' : (enm r (k + 1))[j]? = some d := by simpa [enm] using h
    obtain ⟨y, h1, h2⟩ := enm_get h'
    exact ⟨y, by simpa using h1, by rw [h2]; congr 3; omega⟩
theorem enm_len : ∀ (ds : List DV) (k : Nat), (enm ds k).length = ds.length
  | [], _ => rfl
  | _ :: r, k => by simp [enm, enm_len r]
def iEnumD (A : DE) : DI := fun env m => (A env m).bind fun x m1 => match x with
  | .ref i => (match m1[i]? with
    | some (.lst ds) => .ok ⟨enm ds 0, [(i, .lst ds)]⟩ m1
    | some (.rol ds) => .ok ⟨enm ds 0, [(i, .rol ds)]⟩ m1
    | _ => .bad)
  | .tup ds => .ok ⟨enm ds 0, []⟩ m1
  | _ => .bad
theorem rv_pair {H : Hp} {T : Addr} {j : Nat} {d : DV} {v : V} (hT : H T = none) (r : RV K μ H d v) : RV K μ (upd H T (.tup [.int (j : Int), v])) (.tup [.int (j : Int), d]) (.ref T) :=
  .tup sqT_new (.cons (.int _) (.cons (r.mono (ext_fresh hT)) .nil))
theorem ri_enL {i : Nat} {a : Addr} {ds : List DV} {o : MO} (ho : o = .lst ds ∨ o = .rol ds) (hi : μ[i]? = some a) : RI K (Ite K a) ⟨enm ds 0, [(i, o)]⟩ μ H := by
  intro m1 μ1 H1 e R g j
  obtain ⟨xs, s, r⟩ := ro_sq ho (R.obj i a o (e.pre i a hi) (guard1 g))
  refine ⟨fun d hd => ?_, fun hl => ⟨xs, s, by
    have hl' : (enm ds 0).length = j := hl
    rw [enm_len, r.length] at hl'
    omega⟩⟩
  obtain ⟨y, h1, rfl⟩ := enm_get hd
  obtain ⟨v, h2, h3⟩ := r.get h1
  refine ⟨⟨xs, v, s, h2⟩, fun x H' ⟨T, w, e1, e2, e3, e4⟩ => ?_⟩
  subst e1 e3
  have := e4 xs s
  rw [h2] at this
  cases this
  rw [Nat.zero_add]
  exact ⟨ext_fresh e2, R.fresh e2, rv_pair e2 h3⟩
theorem ri_enT {a : Addr} {ds : List DV} {xs : List V} (s : SqT K H a xs) (r : RVs K μ H ds xs) : RI K (ItET K a) ⟨enm ds 0, []⟩ μ H := by
  intro m1 μ1 H1 e R g j
  have s1 := e.tups _ _ s
  have r1 := r.mono e
  refine ⟨fun d hd => ?_, fun hl => ⟨xs, s1, by
    have hl' : (enm ds 0).length = j := hl
    rw [enm_len, r.length] at hl'
    omega⟩⟩
  obtain ⟨y, h1, rfl⟩ := enm_get hd
  obtain ⟨v, h2, h3⟩ := r1.get h1
  refine ⟨⟨xs, v, s1, h2⟩, fun x H' ⟨T, w, e1, e2, e3, e4⟩ => ?_⟩
  subst e1 e3
  have := e4 xs s1
  rw [h2] at this
  cases this
  rw [Nat.zero_add]
  exact ⟨ext_fresh e2, R.fresh e2, rv_pair e2 h3⟩
theorem si_enum {elts : List Expr} {kk : Nat} {tpos : Pos} (hm : C.mg "enumerate" = none) (h : SE C e A) (hg : Gb C "enumerate" := by rfl) (hs : ∀ env, starEach [e] env = [(false, eval e env)] := by intro _; rfl) : SI C (.Tuple elts kk tpos) (.Call (.Name "enumerate" p) [e] [] pos) (iEnumD A) := by
  obtain ⟨t, pp, d⟩ := h
  refine ⟨iEnA C.K (tCons t tNil), fun X hX => by rw [← hX.K]; exact pi_enA (hg.gl hX) (by rw [hX.mg]; exact hm) (pa_cons (pp X hX) pa_nil (by rw [hs]; rfl)) (hs X.env), ⟨fun env m μ σ H R Rl E q => ?_⟩⟩
  refine d.run env m μ σ H _ Rl E (wp.mono (wp.bind q) fun x H1 ⟨dx, m1, μ1, e1, R1, r1, h1⟩ => ?_)
  cases r1 with
  | @ref i a hi =>
    have h1' : wp C.K C.W (fun μ H it J => RI C.K J it μ H) μ1 H1 (match m1[i]? with
      | some (.lst ds) => .ok ⟨enm ds 0, [(i, .lst ds)]⟩ m1
      | some (.rol ds) => .ok ⟨enm ds 0, [(i, .rol ds)]⟩ m1
      | _ => .bad) R := h1
    cases g : m1[i]? with
    | none => rw [g] at h1'; exact h1'.elim
    | some ob =>
      rw [g] at h1'
      cases ob with
      | lst ds =>
        obtain ⟨xs, s, r⟩ := ro_sq (ds := ds) (.inl rfl) (R1.obj i a _ hi g)
        exact ⟨a, xs, rfl, .inl ⟨s, wp.ok h1' R1 (ri_enL (.inl rfl) hi)⟩⟩
      | rol ds =>
        obtain ⟨xs, s, r⟩ := ro_sq (ds := ds) (.inr rfl) (R1.obj i a _ hi g)
        exact ⟨a, xs, rfl, .inl ⟨s, wp.ok h1' R1 (ri_enL (.inr rfl) hi)⟩⟩
      | _ => exact h1'.elim
  | tup s r => exact ⟨_, _, rfl, .inr ⟨s, wp.ok h1 R1 (ri_enT s r)⟩⟩
  | _ => exact h1.elim

/-! ### min, max of a list of data -/
mutual
def ofD : PyData → DV
  | .none => .non
  | .bool b => .bl b
  | .int i => .int i
  | .str x => .str x
  | .tuple ds => .tup (ofDs ds)
  | _ => .non
def ofDs : List PyData → List DV
  | [] => []
  | d :: ds => ofD d :: ofDs ds
end
theorem ofDs_of {n : Nat} (ih : ∀ (d : DV) (pp : PyData), d.lo 0 → pd m n d = some pp → ofD pp = d) : ∀ {ds : List DV} {ps : List PyData}, loAll 0 ds → optAll (ds.map (pd m n)) = some ps → ofDs ps = ds
  | [], ps, _, h => by simp [optAll] at h; subst h; simp [ofDs]
  | d :: ds, ps, hl, h => by
    simp only [loAll] at hl
    rw [List.map_cons] at h
    cases e : pd m n d with
    | none => rw [e] at h; simp [optAll] at h
    | some pp =>
      rw [e] at h
      simp only [optAll] at h
      obtain ⟨qs, h1, h2⟩ := Option.map_eq_some_iff.mp h
      subst h2
      simp only [ofDs]
      rw [ih d pp hl.1 e, ofDs_of ih hl.2 h1]
theorem ofD_of : ∀ (n : Nat) (d : DV) (pp : PyData), d.lo 0 → pd m n d = some pp → ofD pp = d := by
  intro n
  induction n with
  | zero => intro d pp hl h; cases d <;> simp [pd] at h <;> subst h <;> simp [ofD]
  | succ n ih =>
    intro d pp hl h
    cases d with
    | tup ds =>
      simp only [pd] at h
      obtain ⟨qs, h1, h2⟩ := Option.map_eq_some_iff.mp h
      subst h2
      simp only [DV.lo] at hl
      simp only [ofD]
      rw [ofDs_of ih hl h1]
    | ref i => simp [DV.lo] at hl
    | _ => simp [pd] at h <;> subst h <;> simp [ofD]
theorem optAll_get : ∀ {os : List (Option PyData)} {ps : List PyData} {i : Nat} {pp : PyData}, optAll os = some ps → ps[i]? = some pp → os[i]? = some (some pp)
  | [], ps, i, pp, h, g => by simp [optAll] at h; subst h; simp at g
  | none :: _, ps, i, pp, h, g => by simp [optAll] at h
  | some d :: r, ps, i, pp, h, g => by
    simp only [optAll] at h
    obtain ⟨qs, h1, h2⟩ := Option.map_eq_some_iff.mp h
    subst h2
    cases i with
    | zero => simpa using g
    | succ i => simpa using optAll_get h1 (by simpa using g)
theorem minD_mem (f : PyData → PyData → Bool) (x : PyData) : ∀ xs : List PyData, xs.foldl (fun a y => if f a y = true then y else a) x ∈ x :: xs
  | [] => by simp
  | y :: ys => by
    rw [List.foldl_cons]
    have := minD_mem f (if f x y = true then y else x) ys
    rcases List.mem_cons.mp this with h | h
    · rw [h]
      split <;> simp
    · exact List.mem_cons_of_mem _ (List.mem_cons_of_mem _ h)
theorem readsAll_ix {h : Heap} : ∀ {vs : List Value} {xs : List PyData} {as : List Addr}, ReadsAll h vs xs as → ∀ (i : Nat) (v : Value), vs[i]? = some v → ∃ d bs, xs[i]? = some d ∧ Reads h v d bs := by
  intro vs xs as hr i v hv
  have h1 : (vs.toArray)[i]? = some v := by simpa using hv
  obtain ⟨bs, r, hl, _, _⟩ := PySem.W.readsAll_at (vs := vs) hr i v hv
  refine ⟨xs.getD i .none, bs, ?_, r⟩
  rw [List.getD_eq_getElem?_getD]
  rw [List.getElem?_eq_getElem hl]
  rfl
def rBest (K : PySem.W.Frag) (g : PyData → List PyData → PyData) : List V → Hp → VK → Prop := fun vs H Q => ∃ a xs pp ps, vs = [.ref a] ∧ SqL K H a xs ∧ DpAll K H xs (pp :: ps) ∧ PySem.W.AlikeAll (pp :: ps) ∧ PyData.depthAll (pp :: ps) ≤ 50 ∧
  ∀ (i : Nat) v, xs[i]? = some v → (pp :: ps)[i]? = some (g pp ps) → Q v H
theorem cr_minD {X : Cx} (hc : X.calm = true) (hu : X.A.units + 64 < cLine) : CallR X (.builtin "min") (rBest X.K PySem.W.minD) := by
  intro pins s σ H vs us Q I r ⟨a, xs, pp, ps, e, hs, dp, al, hd, q⟩
  subst e
  obtain ⟨u, rfl, ru⟩ := Vals.one r
  cases ru
  obtain ⟨its, rv, pl, hz⟩ := I.list hs
  obtain ⟨as, hr⟩ := Dp.readsAll I _ _ _ dp rv
  refine PySem.W.min_list_data (vs := its.toArray) (I.ok.hd hc) pl.isList (by simpa using hr) al (by omega) fun i v h' tk bs hi rd hk => ?_
  have hi' : its[i]? = some v := by simpa using hi
  have hl : i < xs.length := by rw [rv.length]; exact (List.getElem?_eq_some_iff.mp hi').1
  obtain ⟨w, hw, rw'⟩ := rv.get (i := i) (x := xs[i]) (by simp [hl])
  rw [hi'] at hw
  cases hw
  obtain ⟨d, bs2, hd2, rd2⟩ := readsAll_ix hr i v hi'
  have rd3 := PyProof.Rows.Reads.keeps hk rd2
  have e2 : d = PySem.W.minD pp ps := PySem.W.alike_unique d _ v _ _ (al.1 d (List.mem_of_getElem? hd2) _ (by unfold PySem.W.minD; exact minD_mem (fun a y => PySem.W.dataLt y a) pp ps)) rd3 rd
  exact ⟨xs[i], H, I.kept (t' := tk) hk, rw', q i _ (by simp [hl]) (by rw [← e2]; exact hd2)⟩
theorem cr_maxD {X : Cx} (hc : X.calm = true) (hu : X.A.units + 64 < cLine) : CallR X (.builtin "max") (rBest X.K PySem.W.maxD) := by
  intro pins s σ H vs us Q I r ⟨a, xs, pp, ps, e, hs, dp, al, hd, q⟩
  subst e
  obtain ⟨u, rfl, ru⟩ := Vals.one r
  cases ru
  obtain ⟨its, rv, pl, hz⟩ := I.list hs
  obtain ⟨as, hr⟩ := Dp.readsAll I _ _ _ dp rv
  refine PySem.W.max_list_data (vs := its.toArray) (I.ok.hd hc) pl.isList (by simpa using hr) al (by omega) fun i v h' tk bs hi rd hk => ?_
  have hi' : its[i]? = some v := by simpa using hi
  have hl : i < xs.length := by rw [rv.length]; exact (List.getElem?_eq_some_iff.mp hi').1
  obtain ⟨w, hw, rw'⟩ := rv.get (i := i) (x := xs[i]) (by simp [hl])
  rw [hi'] at hw
  cases hw
  obtain ⟨d, bs2, hd2, rd2⟩ := readsAll_ix hr i v hi'
  have rd3 := PyProof.Rows.Reads.keeps hk rd2
  have e2 : d = PySem.W.maxD pp ps := PySem.W.alike_unique d _ v _ _ (al.1 d (List.mem_of_getElem? hd2) _ (by unfold PySem.W.maxD; exact minD_mem (fun a y => PySem.W.dataLt a y) pp ps)) rd3 rd
  exact ⟨xs[i], H, I.kept (t' := tk) hk, rw', q i _ (by simp [hl]) (by rw [← e2]; exact hd2)⟩
open Classical in
noncomputable def bestD (g : PyData → List PyData → PyData) : D1 := fun x m => match lstOf m x with
  | some ds => (match optAll (ds.map (pd m 50)) with
    | some (pp :: ps) => if loAll 0 ds ∧ PySem.W.AlikeAll (pp :: ps) ∧ PyData.depthAll (pp :: ps) ≤ 50 then .ok (ofD (g pp ps)) m else .bad
    | _ => .bad)
  | none => .bad
theorem cd_best (g : PyData → List PyData → PyData) : CallD K W (rBest K g) (f1 (bestD g)) := cd1 fun μ H m v d Q R r q => by
  unfold bestD at q
  cases e1 : lstOf m d with
  | none => rw [e1] at q; exact q.elim
  | some ds =>
    rw [e1] at q
    dsimp only at q
    obtain ⟨a, xs, rfl, rr, s⟩ := lstOf_ok R r e1
    cases e2 : optAll (ds.map (pd m 50)) with
    | none => rw [e2] at q; exact q.elim
    | some l =>
      rw [e2] at q
      cases l with
      | nil => exact q.elim
      | cons pp ps =>
        dsimp only at q
        by_cases hc : loAll 0 ds ∧ PySem.W.AlikeAll (pp :: ps) ∧ PyData.depthAll (pp :: ps) ≤ 50
        · rw [if_pos hc] at q
          refine ⟨a, xs, pp, ps, rfl, s, dpAll_of (dp_of R 50) e2 rr, hc.2.1, hc.2.2, fun i v hv hg => ?_⟩
          obtain ⟨dd, h1, h2⟩ := rr.get' hv
          have h3 := optAll_get e2 hg
          rw [List.getElem?_map, h1] at h3
          have h4 : pd m 50 dd = some (g pp ps) := by simpa using h3
          have h5 : ofD (g pp ps) = dd := ofD_of 50 dd _ (loAll_iff.mp hc.1 dd (List.mem_of_getElem? h1)) h4
          rw [h5] at q
          exact wp.ok q R h2
        · rw [if_neg hc] at q; exact q.elim
theorem se_minL (hm : C.mg "min" = none) (ha : SE C e A) (hg : Gb C "min" := by rfl) (hs : ∀ env, starEach [e] env = (false, eval e env) :: starEach [] env := by intro _; rfl) : SE C (.Call (.Name "min" p) [e] [] pos) (eCall (f1 (bestD PySem.W.minD)) (aCons A aNil)) :=
  se_callB (fun X hX => by rw [← hX.K]; exact cr_minD hX.calm (room64 hX)) (cd_best _) hm (sa_cons ha sa_nil hs) (hg := hg) (he := hs)
theorem se_maxL (hm : C.mg "max" = none) (ha : SE C e A) (hg : Gb C "max" := by rfl) (hs : ∀ env, starEach [e] env = (false, eval e env) :: starEach [] env := by intro _; rfl) : SE C (.Call (.Name "max" p) [e] [] pos) (eCall (f1 (bestD PySem.W.maxD)) (aCons A aNil)) :=
  se_callB (fun X hX => by rw [← hX.K]; exact cr_maxD hX.calm (room64 hX)) (cd_best _) hm (sa_cons ha sa_nil hs) (hg := hg) (he := hs)

/-! ### tuple(reversed(l)) -/
def revD : D1 := fun x m => match lstOf m x with
  | some ds => .ok (.tup ds.reverse) m
  | none => .bad
theorem se_tupRev {p2 : Pos} (hm : C.mg "tuple" = none) (hm2 : C.mg "reversed" = none) (ha : SE C e A) (hg : Gb C "tuple" := by rfl) (hg2 : Gb C "reversed" := by rfl)
    (hs : ∀ env, starEach [e] env = (false, eval e env) :: starEach [] env := by intro _; rfl)
    (hs2 : ∀ env, starEach [.Call (.Name "reversed" p2) [e] [] pos2] env = (false, eval (.Call (.Name "reversed" p2) [e] [] pos2) env) :: starEach [] env := by intro _; rfl) :
    SE C (.Call (.Name "tuple" p) [.Call (.Name "reversed" p2) [e] [] pos2] [] pos) (eUn revD A) := by
  obtain ⟨ta, pa, da⟩ := ha
  refine ⟨RT.tTupRev C.K ta, fun X hX => by rw [← hX.K]; exact RT.pe_tupRev hX.calm (hg.gl hX) (by rw [hX.mg]; exact hm) (hg2.gl hX) (by rw [hX.mg]; exact hm2) (pa X hX) (hs X.env) (hs2 X.env), ⟨fun env m μ σ H Q R E q => ?_⟩⟩
  refine da.run env m μ σ H _ R E (wp.mono (wp.bind q) fun x H1 ⟨dx, m1, μ1, e1, R1, r1, h1⟩ => ?_)
  unfold revD at h1
  cases g : lstOf m1 dx with
  | none => rw [g] at h1; exact h1.elim
  | some ds =>
    rw [g] at h1
    obtain ⟨a, xs, rfl, rr, s⟩ := lstOf_ok R1 r1 g
    exact ⟨a, xs, rfl, s, fun l hl => h1 _ μ1 _ (ext_fresh hl) (R1.fresh hl) (.tup sqT_new (rr.reverse.mono (ext_fresh hl)))⟩

/-! ### y = [..], y a plain local -/
theorem ss_setLc (i : Nat) {y : Str} {py spos : Pos} {elt : Expr} {ifs : List Expr} {scope : Scope} {own : List (Str × Nat)} (hi : SI C tg iter I) (ok : BlkOk C.N C.sc scope own) (hg : SGv (C.blk scope) (own.map (·.2)) tg G) (ht : STs (C.blk scope) ifs T) (he : SE (C.blk scope) elt A)
    (hy : C.N[i]? = some y := by rfl) (hyl : C.sc.names.lookup y = some .local := by rfl) (hsw : ∀ env : PySem.Env, env.scope = C.sc → swapsWith (.ListComp elt [⟨tg, iter, ifs, 0⟩] scope pos) (some (.Name y py)) spos.line env = pure true)
    (hs : ∀ env x, foldedSetIterable iter env x = pure x := by intro _ _; rfl) : SS C (.Assign [.Name y py] (.ListComp elt [⟨tg, iter, ifs, 0⟩] scope pos) spos) (sSet i (eComp I G T A (own.map (·.2)))) := by
  obtain ⟨wi, pi, di⟩ := hi
  obtain ⟨g, pg, dg, fg⟩ := hg
  obtain ⟨tt, pt, dt⟩ := ht
  obtain ⟨te, pe, de⟩ := he
  have d := sd_comp (scope := scope) di dg fg dt de
  refine ⟨_, fun X hX => ps_setLc hX.calm (by rw [hX.N]; exact hX.nd) (by rw [hX.N]; exact hy) (by rw [hX.sc]; exact hyl) (hsw X.env hX.sc) (pi X hX) (by rw [hX.N, hX.sc]; exact ok) (fun s H Ca cl fp => pg _ (hX.blk scope s H Ca cl fp)) (fun s H Ca cl fp => pt _ (hX.blk scope s H Ca cl fp))
    (fun s H Ca cl fp => pe _ (hX.blk scope s H Ca cl fp)) (hs X.env), ⟨fun env m μ σ H Dn R E q => ?_⟩⟩
  exact d.run env m μ σ H _ R E (wp.mono (wpS.bind q) fun x H1 ⟨dx, m1, μ1, e1, R1, r1, h1⟩ => h1.nx R1 ((E.mono e1).set i r1))
theorem sw_yes {elt : Expr} {gs : List Comprehension} {scope sc : Scope} {pos py : Pos} {y : Str} {l : Nat} (hk : sc.kind = .function := by rfl) (hy : sc.names.lookup y = some .local := by rfl) (hl : (py.line == pos.line) = true := by rfl)
    (ha : (scope.names.any fun (n, k) => n == y && (k == .local || k == .cell)) = false := by decide +kernel) : ∀ env : PySem.Env, env.scope = sc → swapsWith (.ListComp elt gs scope pos) (some (.Name y py)) l env = pure true := fun env h => sw_true (by rw [h]; exact hk) (by rw [h]; exact hy) hl ha
/-- a, b, c = x, y, z (plain locals) -/
def sPar3 (i j l : Nat) (As : DA) : DS := fun env m => (As env m).bind fun ds m1 => match ds with
  | [d, d', d''] => .ok (.nx (((env.set i (some d)).set j (some d')).set l (some d''))) m1
  | _ => .bad
theorem pip_add : ∀ X, C.Is X → PIp X .Add (rI0 fun i j => .int (i + j)) := fun X h pins s σ H x y v u Q I rx ry q => iop_add pins s σ H x y v u Q I rx ry q
theorem pip_sub : ∀ X, C.Is X → PIp X .Sub (rI0 fun i j => .int (i - j)) := fun X h pins s σ H x y v u Q I rx ry q => iop_sub pins s σ H x y v u Q I rx ry q
theorem bd_iadd : BinD K W (rI0 fun i j => .int (i + j)) iAdd := bd_int0 fun _ _ _ _ => .int _
theorem bd_isub : BinD K W (rI0 fun i j => .int (i - j)) iSub := bd_int0 fun _ _ _ _ => .int _
theorem sw_no {v : Expr} {sc : Scope} {py : Pos} {y : Str} {l : Nat} (hy : sc.names.lookup y = some .cell := by rfl) (hk : sc.kind = .function := by rfl) (hc : ∀ env, swapsWith v (some (.Name y py)) l env = (do
    let some scope := (match v with
      | .ListComp _ _ s _ | .SetComp _ _ s _ | .DictComp _ _ _ s _ => some s
      | _ => none) | return false
    return env.blockKind == .function && env.kindOf y == some .local && py.line == v.pos.line && !(scope.names.any fun (n, k) => n == y && (k == .local || k == .cell))) := by intro _; rfl) :
    ∀ env : PySem.Env, env.scope = sc → swapsWith v (some (.Name y py)) l env = pure false := fun env h => by
  have ky : env.kindOf y = some .cell := by show env.scope.names.lookup y = _; rw [h]; exact hy
  have hb : env.blockKind = .function := by unfold PySem.Env.blockKind; rw [h, hk]; rfl
  rw [hc]
  cases v <;> first
    | rfl
    | (simp only [hb, ky]; rfl)
/-! forgetting behind a test -/
open Classical in
noncomputable def gcT (T : DT) : DT := fun env m => match T env m with
  | .ok b m' => if OldOk m m' then .ok b (m'.take m.length) else .ok b m'
  | o => o
theorem st_gc (h : ST C e T) : ST C e (gcT T) := by
  obtain ⟨t, pt, d⟩ := h
  refine ⟨t, pt, ⟨fun env m μ σ H Q R E q => d.run env m μ σ H Q R E ?_⟩⟩
  unfold gcT at q
  cases o : T env m with
  | ok b m' =>
    rw [o] at q
    dsimp only at q
    by_cases old : OldOk m m'
    · rw [if_pos old] at q
      intro b' μ2 H2 e2 R2 r2
      exact q b' μ H2 ⟨⟨fun _ _ h => h, e2.tups⟩, e2.frz⟩ (rel_take R e2 R2 old) r2
    · rw [if_neg old] at q; exact q
  | exc x m' => rw [o] at q; exact q
  | bad => rw [o] at q; exact q
end
end DL

end
section
set_option Elab.async false
set_option linter.all false
set_option maxRecDepth 100000
set_option maxHeartbeats 4000000
set_option autoImplicit false
/-! DL9: zip, is True, in and not in over data, three targets, minus. -/
namespace DL
open PySem PySem.Spec L2
section
variable {C : Cn} {a b c e e2 o tg iter lo hi : Expr} {es : List Expr} {p q p2 pos pos2 apos cpos : Pos} {A B : DE} {As : DA} {T : DT} {x : Str} {S : DS} {I : DI} {G : DG}
variable {K : PySem.W.Frag} {W : XK} {μ μ' : List Addr} {H H' : Hp} {m : Mem}

/-! ### zip of two lists, of two tuples -/
def zp : List DV → List DV → List DV
  | x :: xs, y :: ys => .tup [x, y] :: zp xs ys
  | _, _ => []
theorem zp_get : ∀ {xs ys : List DV} {j : Nat} {d : DV}, (zp xs ys)[j]? = some d → ∃ x y, xs[j]? = some x ∧ ys[j]? = some y ∧ d = .tup [x, y]
  | [], _, _, _, h => by simp [zp] at h
  | _ :: _, [], _, _, h => by simp [zp] at h
  | x :: xs, y :: ys, 0, d, h => by simp [zp] at h; exact ⟨x, y, rfl, rfl, h.symm⟩
  | x :: xs, y :: ys, j + 1, d, h => by
    obtain ⟨u, v, h1, h2, h3⟩ := zp_get (xs := xs) (ys := ys) (j := j) (by simpa [zp] using h)
    exact ⟨u, v, by simpa using h1, by simpa using h2, h3⟩
theorem zp_len : ∀ xs ys : List DV, (zp xs ys).length = min xs.length ys.length
  | [], _ => by simp [zp]
  | _ :: _, [] => by simp [zp]
  | _ :: xs, _ :: ys => by simp [zp, zp_len xs ys]
def iZipD (A B : DE) : DI := fun env m => (A env m).bind fun x m1 => (B env m1).bind fun y m2 => match x, y with
  | .tup xs, .tup ys => .ok ⟨zp xs ys, []⟩ m2
  | .ref i, .ref j => (match m2[i]?, m2[j]? with
    | some (.lst xs), some (.lst ys) => .ok ⟨zp xs ys, [(i, .lst xs), (j, .lst ys)]⟩ m2
    | _, _ => .bad)
  | _, _ => .bad
theorem ri_zipL {i j : Nat} {a b : Addr} {xs ys : List DV} (hi : μ[i]? = some a) (hj : μ[j]? = some b) : RI K (Itz K a b) ⟨zp xs ys, [(i, .lst xs), (j, .lst ys)]⟩ μ H := by
  intro m1 μ1 H1 e R g k
  obtain ⟨us, s, r⟩ := ro_sq (ds := xs) (.inl rfl) (R.obj i a _ (e.pre i a hi) (g (i, .lst xs) (by simp)))
  obtain ⟨vs, s2, r2⟩ := ro_sq (ds := ys) (.inl rfl) (R.obj j b _ (e.pre j b hj) (g (j, .lst ys) (by simp)))
  refine ⟨fun d hd => ?_, fun hl => ⟨us, vs, s, s2, ?_⟩⟩
  · obtain ⟨x, y, h1, h2, rfl⟩ := zp_get hd
    obtain ⟨v, h3, h4⟩ := r.get h1
    obtain ⟨w, h5, h6⟩ := r2.get h2
    refine ⟨⟨us, vs, v, w, s, s2, h3, h5⟩, fun z H' ⟨T, u', w', e1, e2, e3, e4, e5⟩ => ?_⟩
    subst e1 e3
    have q1 := e4 us s
    have q2 := e5 vs s2
    rw [h3] at q1
    rw [h5] at q2
    cases q1
    cases q2
    exact ⟨ext_fresh e2, R.fresh e2, .tup sqT_new (.cons (h4.mono (ext_fresh e2)) (.cons (h6.mono (ext_fresh e2)) .nil))⟩
  · have hl' : (zp xs ys).length = k := hl
    rw [zp_len, r.length, r2.length] at hl'
    omega
theorem ri_zipT {a b : Addr} {xs ys : List DV} {us vs : List V} (s : SqT K H a us) (r : RVs K μ H xs us) (s2 : SqT K H b vs) (r2 : RVs K μ H ys vs) : RI K (RZ.ItzT K a b) ⟨zp xs ys, []⟩ μ H := by
  intro m1 μ1 H1 e R g k
  have s' := e.tups _ _ s
  have s2' := e.tups _ _ s2
  have r' := r.mono e
  have r2' := r2.mono e
  refine ⟨fun d hd => ?_, fun hl => ⟨us, vs, s', s2', ?_⟩⟩
  · obtain ⟨x, y, h1, h2, rfl⟩ := zp_get hd
    obtain ⟨v, h3, h4⟩ := r'.get h1
    obtain ⟨w, h5, h6⟩ := r2'.get h2
    refine ⟨⟨us, vs, v, w, s', s2', h3, h5⟩, fun z H' ⟨T, u', w', e1, e2, e3, e4, e5⟩ => ?_⟩
    subst e1 e3
    have q1 := e4 us s'
    have q2 := e5 vs s2'
    rw [h3] at q1
    rw [h5] at q2
    cases q1
    cases q2
    exact ⟨ext_fresh e2, R.fresh e2, .tup sqT_new (.cons (h4.mono (ext_fresh e2)) (.cons (h6.mono (ext_fresh e2)) .nil))⟩
  · have hl' : (zp xs ys).length = k := hl
    rw [zp_len, r'.length, r2'.length] at hl'
    omega
theorem si_zip {elts : List Expr} {kk : Nat} {tpos : Pos} (hm : C.mg "zip" = none) (h : SE C e A) (h' : SE C e2 B) (hg : Gb C "zip" := by rfl) (hs : ∀ env, starEach [e, e2] env = (false, eval e env) :: starEach [e2] env := by intro _; rfl) (hs2 : ∀ env, starEach [e2] env = (false, eval e2 env) :: starEach [] env := by intro _; rfl)
    (hpl : ∀ env, (backTo pos (starEach [e2] env)).any (·.1) = false := by intro _; rfl) : SI C (.Tuple elts kk tpos) (.Call (.Name "zip" p) [e, e2] [] pos) (iZipD A B) := by
  obtain ⟨t, pp, d⟩ := h
  obtain ⟨t', pp', d'⟩ := h'
  refine ⟨RZ.iZipA C.K (tCons t (tCons t' tNil)), fun X hX => by rw [← hX.K]; exact RZ.pi_zipA (hg.gl hX) (by rw [hX.mg]; exact hm) (pa_cons (pp X hX) (pa_cons (pp' X hX) pa_nil (hs2 X.env)) (hs X.env)) (hs X.env) (hpl X.env), ⟨fun env m μ σ H R Rl E q => ?_⟩⟩
  refine d.run env m μ σ H _ Rl E (wp.mono (wp.bind q) fun x H1 ⟨dx, m1, μ1, e1, R1, r1, h1⟩ => ?_)
  refine d'.run env m1 μ1 σ H1 _ R1 (E.mono e1) (wp.mono (wp.bind h1) fun y H2 ⟨dy, m2, μ2, e2, R2, r2, h2⟩ => ?_)
  have r1' := r1.mono e2
  cases r1' with
  | tup s r =>
    cases r2 with
    | tup s2 r2 => exact ⟨_, _, _, _, rfl, .inr ⟨s, s2, wp.ok h2 R2 (ri_zipT s r s2 r2)⟩⟩
    | _ => exact h2.elim
  | @ref i a hi =>
    cases r2 with
    | @ref j b hj =>
      have q' : wp C.K C.W (fun μ H it J => RI C.K J it μ H) μ2 H2 (match m2[i]?, m2[j]? with
        | some (.lst xs), some (.lst ys) => .ok ⟨zp xs ys, [(i, .lst xs), (j, .lst ys)]⟩ m2
        | _, _ => .bad) R := h2
      cases g1 : m2[i]? with
      | none => rw [g1] at q'; exact q'.elim
      | some o1 =>
        cases o1 with
        | lst xs =>
          cases g2 : m2[j]? with
          | none => rw [g1, g2] at q'; exact q'.elim
          | some o2 =>
            cases o2 with
            | lst ys =>
              rw [g1, g2] at q'
              obtain ⟨us, s, r⟩ := ro_sq (ds := xs) (.inl rfl) (R2.obj i a _ hi g1)
              obtain ⟨vs, s2, r2⟩ := ro_sq (ds := ys) (.inl rfl) (R2.obj j b _ hj g2)
              exact ⟨a, b, us, vs, rfl, .inl ⟨s, s2, wp.ok q' R2 (ri_zipL hi hj)⟩⟩
            | _ => rw [g1, g2] at q'; exact q'.elim
        | _ => rw [g1] at q'; exact q'.elim
    | _ => exact h2.elim
  | _ => cases r2 <;> exact h2.elim

/-! ### is True, is False -/
def isBD (k : Bool) : D1 := fun x m => .ok (.bl (match x with
  | .bl b => decide (b = k)
  | _ => false)) m
theorem or_isAny {X : Cx} (k : Bool) : OpR X (compareOp .Is) (fun x y H Q => y = V.bl k ∧ Q (.bl (decide (x = V.bl k))) H) := by
  intro pins s σ H x y v u Q I rx ry ⟨ey, h⟩
  subst ey
  cases (show u = Value.bool k from ry)
  by_cases e : x = V.bl k
  · subst e
    cases (show v = Value.bool k from rx)
    exact wpAny_is_self rfl ⟨.bl true, H, I, rfl, by simpa using h⟩
  · refine wpAny_is_other ?_ (fun z => e ?_) ⟨.bl false, H, I, rfl, by simpa [e] using h⟩
    · cases x <;> first
        | (cases rx; rfl)
        | (obtain ⟨t, rfl⟩ := rx; rfl)
    · subst z
      cases x <;> first
        | (cases rx; rfl)
        | exact absurd rx (by rintro ⟨t, ⟨⟩⟩)
theorem und_isB {k : Bool} : UnD K W (fun x H Q => (fun x y H Q => y = V.bl k ∧ Q (.bl (decide (x = V.bl k))) H : R2) x (.bl k) H Q) (isBD k) := by
  intro μ H m x dx Q R r1 q
  refine ⟨rfl, ?_⟩
  cases r1 <;> exact wp.ok q R (by first | exact .bl _ | (simp; constructor))
theorem se_isB {j} {k : Bool} (ha : SE C a A) : SE C (.Compare a [.Is] [.Constant (.bool k) j q] pos) (eUn (isBD k) A) := by
  obtain ⟨ta, pa, da⟩ := ha
  exact ⟨_, fun X h => pe_cmpR (or_isAny k) (pa X h) pe_bl (nomark _), sd_un1 und_isB da⟩
theorem st_isB {j} {k : Bool} (ha : SE C a A) : ST C (.Compare a [.Is] [.Constant (.bool k) j q] pos) (tst (eUn (isBD k) A)) := by
  obtain ⟨ta, pa, da⟩ := ha
  exact ⟨_, fun X h => pt_cmpR (or_isAny k) (pa X h) pe_bl (nomark _), sd_tst (sd_un1 und_isB da)⟩

/-! ### three targets -/
theorem ss_par3 (i j l : Nat) {x y z : Str} {px py pz pt : Pos} {kt k2 pt2} (h : SA C [a, b, c] As) (hi : C.N[i]? = some x := by rfl) (hj : C.N[j]? = some y := by rfl) (hl : C.N[l]? = some z := by rfl) (hij : i ≠ j := by decide) (hil : i ≠ l := by decide) (hjl : j ≠ l := by decide)
    (hx : C.sc.names.lookup x = some .local := by rfl) (hy : C.sc.names.lookup y = some .local := by rfl) (hz : C.sc.names.lookup z = some .local := by rfl)
    (hw : ∀ env : PySem.Env, env.scope = C.sc → swappedStores [.Tuple [.Name x px, .Name y py, .Name z pz] kt pt] (.Tuple [a, b, c] k2 pt2) env = pure (some [x, y, z]))
    (hs : ∀ env, swapsWithSole [.Tuple [.Name x px, .Name y py, .Name z pz] kt pt] (.Tuple [a, b, c] k2 pt2) pos.line env = pure false := by intro _; rfl) :
    SS C (.Assign [.Tuple [.Name x px, .Name y py, .Name z pz] kt pt] (.Tuple [a, b, c] k2 pt2) pos) (sPar3 i j l As) := by
  obtain ⟨t, p, d⟩ := h
  refine ⟨tPar3 i j l t, fun X hX => ps_par3 hX.calm (by rw [hX.N]; exact hX.nd) (by rw [hX.N]; exact hi) (by rw [hX.N]; exact hj) (by rw [hX.N]; exact hl) hij hil hjl (by rw [hX.sc]; exact hx) (by rw [hX.sc]; exact hy) (by rw [hX.sc]; exact hz) (p X hX) (hw _ hX.sc) (hs X.env), ⟨fun env m μ σ H Dn R E q => ?_⟩⟩
  refine d.run env m μ σ H _ R E (wp.mono (wpS.bind q) fun xs H1 ⟨ds, m1, μ1, e1, R1, r1, h1⟩ => ?_)
  cases r1 with
  | nil => exact h1.elim
  | @cons d1 v1 ds vs r1 r2 =>
    cases r2 with
    | nil => exact h1.elim
    | @cons d2 v2 ds vs r2 r3 =>
      cases r3 with
      | nil => exact h1.elim
      | @cons d3 v3 ds vs r3 r4 =>
        cases r4 with
        | nil => exact ⟨v1, v2, v3, rfl, h1.nx R1 ((((E.mono e1).set i r1).set j r2).set l r3)⟩
        | cons _ _ => exact h1.elim

/-! ### in, not in: over a list or tuple of data -/
def inB (neg : Bool) : D2 := fun x y m => match pd m 60 x, lstOf m y, pd m 60 y with
  | some d, some _, some (.list ds) => if SeqAt.shaped d = true ∧ SeqAt.shaped (.list ds) = true then .ok (.bl (if neg then !ds.any fun z => PyData.eqv z d else ds.any fun z => PyData.eqv z d)) m else .bad
  | _, _, _ => .bad
abbrev inD : D2 := inB false
abbrev notInD : D2 := inB true
theorem bd_in : BinD K W (rInD K) inD := by
  intro μ H m x y dx dy Q R r1 r2 q
  unfold inD inB at q
  cases e1 : pd m 60 dx with
  | none => rw [e1] at q; exact q.elim
  | some d =>
    cases e2 : lstOf m dy with
    | none => rw [e1, e2] at q; exact q.elim
    | some xs =>
      cases e3 : pd m 60 dy with
      | none => rw [e1, e2, e3] at q; exact q.elim
      | some l =>
        rw [e1, e2, e3] at q
        cases l with
        | list ds =>
          dsimp only at q
          by_cases h : SeqAt.shaped d = true ∧ SeqAt.shaped (.list ds) = true
          · rw [if_pos h] at q
            exact ⟨d, ds, dp_of R _ _ _ _ e1 r1, dp_of R _ _ _ _ e3 r2, h.1, h.2, wp.ok q R (.bl _)⟩
          · rw [if_neg h] at q; exact q.elim
        | _ => exact q.elim
theorem bd_notIn : BinD K W (rNotInD K) notInD := by
  intro μ H m x y dx dy Q R r1 r2 q
  unfold notInD inB at q
  cases e1 : pd m 60 dx with
  | none => rw [e1] at q; exact q.elim
  | some d =>
    cases e2 : lstOf m dy with
    | none => rw [e1, e2] at q; exact q.elim
    | some xs =>
      cases e3 : pd m 60 dy with
      | none => rw [e1, e2, e3] at q; exact q.elim
      | some l =>
        rw [e1, e2, e3] at q
        cases l with
        | list ds =>
          dsimp only at q
          by_cases h : SeqAt.shaped d = true ∧ SeqAt.shaped (.list ds) = true
          · rw [if_pos h] at q
            exact ⟨d, ds, dp_of R _ _ _ _ e1 r1, dp_of R _ _ _ _ e3 r2, h.1, h.2, wp.ok q R (.bl _)⟩
          · rw [if_neg h] at q; exact q.elim
        | _ => exact q.elim
/-- minus -/
def negD : D1 := fun x m => match x with
  | .int i => .ok (.int (-i)) m
  | _ => .bad
theorem se_neg (ha : SE C a A) : SE C (.UnaryOp .USub a pos) (eUn negD A) := by
  obtain ⟨ta, pa, da⟩ := ha
  refine ⟨_, fun X h => pe_un un_neg (pa X h), sd_un (r := rU fun i => V.int (-i)) (fun μ H m x dx Q R r q => ?_) da⟩
  cases r with
  | int i => exact ⟨i, rfl, wp.ok q R (.int _)⟩
  | _ => exact q.elim
end
end DL

end
section
set_option Elab.async false
set_option linter.all false
set_option maxRecDepth 100000
set_option maxHeartbeats 4000000
set_option autoImplicit false
/-! DL10: names of the module that hold ints and texts, is not True, defs that call themselves, lists of ranges. -/
namespace DL
open PySem PySem.Spec L2
section
variable {C : Cn} {a b c e o tg iter lo hi : Expr} {es : List Expr} {p q p2 pos apos cpos : Pos} {A B : DE} {As : DA} {T : DT} {x : Str} {S : DS}
variable {K : PySem.W.Frag} {W : XK} {μ μ' : List Addr} {H H' : Hp} {m : Mem}
/-! ### ints and texts of the module -/
theorem sd_C {v : V} {d : DV} (h : ∀ μ H, RV K μ H d v) : Sd K W (tC v) (eC d) := ⟨fun env m μ σ H Q R E q => wp.ok q R (h μ H)⟩
theorem se_gInt {i : Int} (hm : ∃ t, C.mg x = some (.int i t)) (hg : Gb C x := by rfl) (hd : (x == ("__debug__" : Str)) = false := by decide) : SE C (.Name x pos) (eC (.int i)) := by
  obtain ⟨t, hm⟩ := hm
  exact ⟨_, fun X hX => pe_glob (v := .int i) (hg.gl hX) (by rw [hX.mg]; exact hm) ⟨t, rfl⟩ hd, sd_C fun _ _ => .int i⟩
theorem se_gStr {z : Str} (hm : ∃ t, C.mg x = some (.str z t)) (hg : Gb C x := by rfl) (hd : (x == ("__debug__" : Str)) = false := by decide) : SE C (.Name x pos) (eC (.str z)) := by
  obtain ⟨t, hm⟩ := hm
  exact ⟨_, fun X hX => pe_glob (v := .str z) (hg.gl hX) (by rw [hX.mg]; exact hm) ⟨t, rfl⟩ hd, sd_C fun _ _ => .str z⟩
/-! ### is not True -/
def notBD (k : Bool) : D1 := fun x m => .ok (.bl (match x with
  | .bl b => !decide (b = k)
  | _ => true)) m
theorem or_isNotAny {X : Cx} (k : Bool) : OpR X (compareOp .IsNot) (fun x y H Q => y = V.bl k ∧ Q (.bl (!decide (x = V.bl k))) H) := by
  intro pins s σ H x y v u Q I rx ry ⟨ey, h⟩
  subst ey
  cases (show u = Value.bool k from ry)
  by_cases e : x = V.bl k
  · subst e
    cases (show v = Value.bool k from rx)
    exact PySem.wpAny_isNot_self rfl ⟨.bl false, H, I, rfl, by simpa using h⟩
  · refine PySem.wpAny_isNot_other ?_ (fun z => e ?_) ⟨.bl true, H, I, rfl, by simpa [e] using h⟩
    · cases x <;> first
        | (cases rx; rfl)
        | (obtain ⟨t, rfl⟩ := rx; rfl)
    · subst z
      cases x <;> first
        | (cases rx; rfl)
        | exact absurd rx (by rintro ⟨t, ⟨⟩⟩)
theorem und_notB {k : Bool} : UnD K W (fun x H Q => (fun x y H Q => y = V.bl k ∧ Q (.bl (!decide (x = V.bl k))) H : R2) x (.bl k) H Q) (notBD k) := by
  intro μ H m x dx Q R r1 q
  refine ⟨rfl, ?_⟩
  cases r1 <;> exact wp.ok q R (by first | (simp; constructor) | (simp only [V.bl.injEq]; exact .bl _))
theorem se_notB {j} {k : Bool} (ha : SE C a A) : SE C (.Compare a [.IsNot] [.Constant (.bool k) j q] pos) (eUn (notBD k) A) := by
  obtain ⟨ta, pa, da⟩ := ha
  exact ⟨_, fun X h => pe_cmpR (or_isNotAny k) (pa X h) pe_bl (nomark _), sd_un1 und_notB da⟩
theorem st_notB {j} {k : Bool} (ha : SE C a A) : ST C (.Compare a [.IsNot] [.Constant (.bool k) j q] pos) (tst (eUn (notBD k) A)) := by
  obtain ⟨ta, pa, da⟩ := ha
  exact ⟨_, fun X h => pt_cmpR (or_isNotAny k) (pa X h) pe_bl (nomark _), sd_tst (sd_un1 und_notB da)⟩
/-! ### a def that calls itself: nothing is said of a depth of 0 -/
def dBad : DF := fun _ _ => .bad
theorem fn_zero {G : Sg} {x qual : Str} {params : Arguments} {body : List Stmt} {scope : Scope} {f : Addr} {fd : FuncData} {ps : List Str} {k n : Nat} (F : FunD G.K x qual params body scope [] [] f fd) (hg : G.mg x = some (.ref f))
    (hbi : ∀ (kV doc pm : Value) (an : Option Addr) (cdv ct : Value) (us : List Value), us.length = ps.length → bindArgs (PySem.W.fnOf x qual params body scope .none kV doc pm an cdv ct) ⟨us, []⟩ = pure (ps.zip us)) (hn : ps.length = n := by rfl) : Fn G k x n dBad :=
  ⟨f, fd, ps, hn, ⟨fun vs H Q E ⟨m, μ, ds, e, _⟩ => by rw [hn]; exact e, fun A outer s H args us vs Q E _ _ _ _ ⟨_, _, _, _, _, _, q⟩ => q.elim⟩, hg, F.kp, F.bindsN hbi⟩
/-! ### list(range(..)), tuple(range(..)) -/
abbrev DR := Env → Mem → Out (Int × Int)
structure SdRg (K : PySem.W.Frag) (W : XK) (t : St → Hp → (Int → Int → Hp → Prop) → Prop) (D : DR) : Prop where
  run : ∀ env m μ σ H Q, Rel K m μ H → RE K μ H env σ → wp K W (fun _ _ (a b : Int × Int) => a = b) μ H (D env m) (fun b H' => Q b.1 b.2 H') → t σ H Q
def SRg (C : Cn) (e : Expr) (D : DR) : Prop := ∃ t, (∀ X, C.Is X → PRg X e t) ∧ SdRg C.K C.W t D
def dRg1 (A : DE) : DR := fun env m => (A env m).bind fun x m1 => match x with
  | .int n => .ok (0, n) m1
  | _ => .bad
def dRg2 (A B : DE) : DR := fun env m => (A env m).bind fun x m1 => (B env m1).bind fun y m2 => match x, y with
  | .int i, .int j => .ok (i, j) m2
  | _, _ => .bad
theorem srg_1 (h : SE C a A) (hm : C.mg "range" = none) (hg : Gb C "range" := by rfl) (hs : ∀ env, starEach [a] env = (false, eval a env) :: starEach [] env := by intro _; rfl) : SRg C (.Call (.Name "range" p) [a] [] pos) (dRg1 A) := by
  obtain ⟨ta, pa, da⟩ := h
  refine ⟨tRg1 ta, fun X hX => prg_1 (hg.gl hX) (by rw [hX.mg]; exact hm) (pa X hX) (hs X.env), ⟨fun env m μ σ H Q R E q => ?_⟩⟩
  refine da.run env m μ σ H _ R E (wp.mono (wp.bind q) fun x H1 ⟨dx, m1, μ1, e1, R1, r1, h1⟩ => ?_)
  cases r1 with
  | int n => exact ⟨n, rfl, wp.ok (b := ((0 : Int), n)) h1 R1 rfl⟩
  | _ => exact h1.elim
theorem srg_2 (h : SE C a A) (h' : SE C b B) (hm : C.mg "range" = none) (hg : Gb C "range" := by rfl) (hs : ∀ env, starEach [a, b] env = (false, eval a env) :: starEach [b] env := by intro _; rfl)
    (hs2 : ∀ env, starEach [b] env = (false, eval b env) :: starEach [] env := by intro _; rfl) (hp : ∀ env, (backTo pos (starEach [b] env)).any (·.1) = false := by intro _; rfl) : SRg C (.Call (.Name "range" p) [a, b] [] pos) (dRg2 A B) := by
  obtain ⟨ta, pa, da⟩ := h
  obtain ⟨tb, pb, db⟩ := h'
  refine ⟨tRg2 ta tb, fun X hX => prg_2 (hg.gl hX) (by rw [hX.mg]; exact hm) (pa X hX) (pb X hX) (hs X.env) (hs2 X.env) (hp X.env), ⟨fun env m μ σ H Q R E q => ?_⟩⟩
  refine da.run env m μ σ H _ R E (wp.mono (wp.bind q) fun x H1 ⟨dx, m1, μ1, e1, R1, r1, h1⟩ => ?_)
  refine db.run env m1 μ1 σ H1 _ R1 (E.mono e1) (wp.mono (wp.bind h1) fun y H2 ⟨dy, m2, μ2, e2, R2, r2, h2⟩ => ?_)
  cases r1 with
  | int i =>
    cases r2 with
    | int j => exact ⟨i, j, rfl, rfl, wp.ok (b := (i, j)) h2 R2 rfl⟩
    | _ => exact h2.elim
  | _ => cases r2 <;> exact h2.elim
noncomputable instance (a b : Int) : Decidable (RgOk a b) := Classical.propDecidable _
noncomputable def eLstRg (D : DR) : DE := fun env m => (D env m).bind fun ab m1 => if RgOk ab.1 ab.2 then .ok (.ref m1.length) (m1 ++ [.lst (rng ab.1 (ab.2 - ab.1).toNat)]) else .bad
theorem rng_rv (lo hi : Int) : RVs K μ H (rng lo (hi - lo).toNat) (rgV lo hi) := by
  have : ∀ ns : List Nat, RVs K μ H (ns.map fun (i : Nat) => DV.int (lo + (i : Int))) (ns.map fun (i : Nat) => V.int (lo + (i : Int))) := by
    intro ns
    induction ns with
    | nil => exact .nil
    | cons n ns ih => exact .cons (.int _) ih
  exact this _
theorem se_listRg {D : DR} (hm : C.mg "list" = none) (h : SRg C e D) (hg : Gb C "list" := by rfl) (hs : ∀ env, starEach [e] env = (false, eval e env) :: starEach [] env := by intro _; rfl) : SE C (.Call (.Name "list" p) [e] [] pos) (eLstRg D) := by
  obtain ⟨t, pr, dr⟩ := h
  refine ⟨tLstRg t, fun X hX => pe_listRg hX.calm (hg.gl hX) (by rw [hX.mg]; exact hm) (pr X hX) (hs X.env), ⟨fun env m μ σ H Q R E q => ?_⟩⟩
  refine dr.run env m μ σ H _ R E (wp.mono (wp.bind q) fun ab H1 ⟨ab', m1, μ1, e1, R1, r1, h1⟩ => ?_)
  subst r1
  dsimp only at h1
  by_cases hk : RgOk ab'.1 ab'.2
  · rw [if_pos hk] at h1
    refine ⟨hk, fun l hl => ?_⟩
    exact (wp.later ((ext_fresh hl).trans ext_snoc) h1).ok (rel_lst R1 hl (rng_rv _ _)) (.ref (by rw [← R1.len]; simp))
  · rw [if_neg hk] at h1; exact h1.elim
/-! ### sep.join(texts) -/
def strsOf : List DV → Option (List Str)
  | [] => some []
  | .str b :: r => (strsOf r).map (b :: ·)
  | _ => none
theorem strsOf_ok : ∀ {ds : List DV} {xs : List V} {bs : List Str}, RVs K μ H ds xs → strsOf ds = some bs → xs = bs.map V.str
  | [], _, bs, .nil, h => by cases h; rfl
  | d :: ds, _, bs, .cons r rs, h => by
    cases r with
    | str b =>
      simp only [strsOf] at h
      obtain ⟨cs, h1, h2⟩ := Option.map_eq_some_iff.mp h
      subst h2
      rw [List.map_cons, strsOf_ok rs h1]
    | _ => cases h
def joinD (a : Str) : D1 := fun y m => match (seqOf m y).bind strsOf with
  | some ys => if (ys.map (·.length)).sum + ys.length * a.length ≤ 16777216 then .ok (.str (Txt.join a ys)) m else .bad
  | none => .bad
def eJoin (A B : DE) : DE := fun env m => (A env m).bind fun x m1 => match x with
  | .str a => (B env m1).bind (joinD a)
  | _ => .bad
theorem se_join (ha : SE C o A) (hb : SE C e B) (hs : ∀ env, starEach [e] env = [(false, eval e env)] := by intro _; rfl) (hbase : ∀ env, attributeBase o "join" env (eval o env) = eval o env := by intro _; rfl) (hline : (apos.endLine == pos.line) = true := by rfl) :
    SE C (.Call (.Attribute o "join" apos) [e] [] pos) (eJoin A B) := by
  obtain ⟨ta, pa, da⟩ := ha
  obtain ⟨tb, pb, db⟩ := hb
  refine ⟨_, fun X hX => by have := L2.pe_join (apos := apos) (pos := pos) (pa X hX) (pb X hX) (hs X.env) (hbase X.env) hline; rw [hX.K] at this; exact this, ⟨fun env m μ σ H Q R E q => ?_⟩⟩
  refine da.run env m μ σ H _ R E (wp.mono (wp.bind q) fun x H1 ⟨dx, m1, μ1, e1, R1, r1, h1⟩ => ?_)
  cases r1 with
  | str a =>
    refine ⟨⟨a, rfl⟩, ?_⟩
    refine db.run env m1 μ1 σ H1 _ R1 (E.mono e1) (wp.mono (wp.bind h1) fun y H2 ⟨dy, m2, μ2, e2, R2, r2, h2⟩ => ?_)
    unfold joinD at h2
    cases g : (seqOf m2 dy).bind strsOf with
    | none => rw [g] at h2; exact h2.elim
    | some ys =>
      rw [g] at h2
      dsimp only at h2
      obtain ⟨ds, g1, g2⟩ := Option.bind_eq_some_iff.mp g
      obtain ⟨p, xs, rfl, rr, s⟩ := seqOf_ok R2 r2 g1
      rw [strsOf_ok rr g2] at s
      by_cases hz : (ys.map (·.length)).sum + ys.length * a.length ≤ 16777216
      · rw [if_pos hz] at h2
        exact ⟨a, p, ys, rfl, rfl, s, hz, wp.ok h2 R2 (.str _)⟩
      · rw [if_neg hz] at h2; exact h2.elim
  | _ => exact h1.elim
end
end DL

end
section
set_option Elab.async false
set_option linter.all false
set_option maxRecDepth 100000
set_option maxHeartbeats 4000000
set_option autoImplicit false
/-! DL11: dicts by keys, sorted data, texts of ints, list.pop, list.remove. -/
namespace DL
open PySem PySem.Spec PyProof.Rows L2
section
variable {C : Cn} {a b c e o tg iter lo hi kx vx : Expr} {es : List Expr} {p q p2 pos apos cpos : Pos} {A B : DE} {As : DA} {T : DT} {x : Str} {S : DS} {I : DI} {G : DG}
variable {K : PySem.W.Frag} {W : XK} {μ μ' : List Addr} {H H' : Hp} {m : Mem}
theorem room1 {X : Cx} (h : C.Is X) : X.A.units + 1 < cLine := by have := h.room.un; omega
/-! ### keys -/
def keyOf : DV → Option Key
  | .int i => some (.inl i)
  | .str x => some (.inr x)
  | _ => none
theorem keyOf_ok {d : DV} {v : V} {k : Key} (r : RV K μ H d v) (h : keyOf d = some k) : v = kV k := by
  cases r <;> simp only [keyOf, Option.some.injEq, reduceCtorEq] at h <;> subst h <;> rfl
def lookK {α : Type} (kvs : List (Key × α)) (k : Key) : Option α := (kvs.find? fun kv => decide (kv.1 = k)).map (·.2)
def putG {α : Type} (kvs : List (Key × α)) (k : Key) (v : α) : List (Key × α) :=
  if (kvs.any fun kv => decide (kv.1 = k)) = true then kvs.map (fun kv => if kv.1 = k then (kv.1, v) else kv) else kvs ++ [(k, v)]
theorem look_rkv {k : Key} : ∀ {kvs : List (Key × DV)} {kk : List (Key × V)}, RKV K μ H kvs kk → ∀ {d : DV}, lookK kvs k = some d → ∃ v, valV kk k = some v ∧ RV K μ H d v := by
  intro kvs kk r
  induction r with
  | nil => intro d h; cases h
  | @cons p q ps qs h t ih =>
    intro d hd
    by_cases e : p.1 = k
    · have h1 : lookK (p :: ps) k = some p.2 := by simp [lookK, List.find?_cons, e]
      rw [h1] at hd
      cases hd
      exact ⟨q.2, valV_pos (h.1 ▸ e), h.2⟩
    · have h1 : lookK (p :: ps) k = lookK ps k := by simp [lookK, List.find?_cons, e]
      rw [h1] at hd
      obtain ⟨v, g1, g2⟩ := ih hd
      exact ⟨v, by rw [valV_neg (h.1 ▸ e)]; exact g1, g2⟩
theorem look_none {k : Key} : ∀ {kvs : List (Key × DV)} {kk : List (Key × V)}, RKV K μ H kvs kk → lookK kvs k = none → valV kk k = none := by
  intro kvs kk r
  induction r with
  | nil => intro _; rfl
  | @cons p q ps qs h t ih =>
    intro hd
    by_cases e : p.1 = k
    · have h1 : lookK (p :: ps) k = some p.2 := by simp [lookK, List.find?_cons, e]
      rw [h1] at hd; cases hd
    · have h1 : lookK (p :: ps) k = lookK ps k := by simp [lookK, List.find?_cons, e]
      rw [h1] at hd
      rw [valV_neg (h.1 ▸ e)]; exact ih hd
theorem any_rkv {k : Key} : ∀ {kvs : List (Key × DV)} {kk : List (Key × V)}, RKV K μ H kvs kk → (kvs.any fun kv => decide (kv.1 = k)) = kk.any fun kv => decide (kv.1 = k) := by
  intro kvs kk r
  induction r with
  | nil => rfl
  | @cons p q ps qs h t ih => simp only [List.any_cons, ih, h.1]
theorem map_rkv {k : Key} {d : DV} {v : V} (rv : RV K μ H d v) : ∀ {kvs : List (Key × DV)} {kk : List (Key × V)}, RKV K μ H kvs kk → RKV K μ H (kvs.map fun kv => if kv.1 = k then (kv.1, d) else kv) (kk.map fun kv => if kv.1 = k then (kv.1, v) else kv) := by
  intro kvs kk r
  induction r with
  | nil => exact .nil
  | @cons p q ps qs h t ih =>
    refine .cons ?_ ih
    dsimp only
    by_cases e : p.1 = k
    · rw [if_pos e, if_pos (h.1 ▸ e)]; exact ⟨h.1, rv⟩
    · rw [if_neg e, if_neg (h.1 ▸ e)]; exact h
theorem app_rkv : ∀ {kvs : List (Key × DV)} {kk : List (Key × V)} {lvs : List (Key × DV)} {ll : List (Key × V)}, RKV K μ H kvs kk → RKV K μ H lvs ll → RKV K μ H (kvs ++ lvs) (kk ++ ll) := by
  intro kvs kk lvs ll r r2
  induction r with
  | nil => exact r2
  | cons h t ih => exact .cons h ih
theorem put_rkv {k : Key} {d : DV} {v : V} (rv : RV K μ H d v) {kvs : List (Key × DV)} {kk : List (Key × V)} (r : RKV K μ H kvs kk) : RKV K μ H (putG kvs k d) (putK kk k v) := by
  unfold putG putK
  rw [any_rkv r]
  split
  · exact map_rkv rv r
  · exact app_rkv r (.cons ⟨rfl, rv⟩ .nil)
theorem len_rkv : ∀ {kvs : List (Key × DV)} {kk : List (Key × V)}, RKV K μ H kvs kk → kvs.length = kk.length := by
  intro kvs kk r
  induction r with
  | nil => rfl
  | cons h t ih => simp [ih]
/-- d[k] of a dict -/
def dgetD : D2 := fun x y m => match x, keyOf y with
  | .ref i, some k => (match m[i]? with
    | some (.dic kvs) => (match lookK kvs k with
      | some d => .ok d m
      | none => .bad)
    | _ => .bad)
  | _, _ => .bad
theorem dgetD_ok {x y d : DV} {m m' : Mem} (h : dgetD x y m = .ok d m') : ∃ i k kvs, x = .ref i ∧ keyOf y = some k ∧ m[i]? = some (.dic kvs) ∧ lookK kvs k = some d ∧ m' = m := by
  unfold dgetD at h
  cases x with
  | ref i =>
    cases e : keyOf y with
    | none => rw [e] at h; cases h
    | some k =>
      rw [e] at h
      dsimp only at h
      cases g : m[i]? with
      | none => rw [g] at h; cases h
      | some ob =>
        rw [g] at h
        cases ob with
        | dic kvs =>
          dsimp only at h
          cases l : lookK kvs k with
          | none => rw [l] at h; cases h
          | some d' => rw [l] at h; cases h; exact ⟨i, k, kvs, rfl, rfl, g, l, rfl⟩
        | _ => cases h
  | _ => cases h
theorem dgetD_noexc {x y : DV} {m m' : Mem} {ex : DX} : dgetD x y m ≠ .exc ex m' := by
  unfold dgetD
  intro h
  split at h
  · split at h
    · split at h <;> cases h
    · cases h
  · cases h
theorem se_dget (ha : SE C a A) (hb : SE C b B) (hs : NoSl b := by intro _ _; rfl) : SE C (.Subscript a b pos) (eBin dgetD A B) := by
  obtain ⟨ta, pa, da⟩ := ha
  obtain ⟨tb, pb, db⟩ := hb
  refine ⟨tDGet ta tb, fun X h => pe_dget (room1 h) (pa X h) (pb X h) hs, ⟨fun env m μ σ H Q R E h => ?_⟩⟩
  refine da.run env m μ σ H _ R E (wp.mono (wp.bind h) fun x H1 ⟨dx, m1, μ1, e1, R1, r1, h1⟩ => ?_)
  refine db.run env m1 μ1 σ H1 _ R1 (E.mono e1) (wp.mono (wp.bind h1) fun y H2 ⟨dy, m2, μ2, e2, R2, r2, h2⟩ => ?_)
  dsimp only at h2
  cases o : dgetD dx dy m2 with
  | ok d m3 =>
    rw [o] at h2
    obtain ⟨i, k, kvs, rfl, hk, hm, hl, rfl⟩ := dgetD_ok o
    have rx := r1.mono e2
    cases rx with
    | @ref i ad hi =>
      obtain ⟨kk, g1, g2⟩ := R2.obj i ad _ hi hm
      obtain ⟨v, l1, l2⟩ := look_rkv g2 hl
      exact ⟨ad, v, rfl, .inl ⟨kk, k, .inl g1, keyOf_ok r2 hk, l1.symm⟩, wp.ok h2 R2 l2⟩
  | exc ex m3 => exact (dgetD_noexc o).elim
  | bad => rw [o] at h2; exact h2.elim
/-! ### dict(pairs) -/
def pairsD : List DV → Option (List (Key × DV))
  | [] => some []
  | .tup [k, v] :: r => (keyOf k).bind fun k => (pairsD r).map ((k, v) :: ·)
  | _ => none
def mergeD {α : Type} (kvs more : List (Key × α)) : List (Key × α) := more.foldl (fun acc kv => putG acc kv.1 kv.2) kvs
theorem merge_rkv : ∀ {more : List (Key × DV)} {mm : List (Key × V)}, RKV K μ H more mm → ∀ {kvs : List (Key × DV)} {kk : List (Key × V)}, RKV K μ H kvs kk → RKV K μ H (mergeD kvs more) (mergeK kk mm) := by
  intro more mm r
  induction r with
  | nil => intro kvs kk r2; exact r2
  | @cons p q ps qs h t ih =>
    intro kvs kk r2
    show RKV K μ H (mergeD (putG kvs p.1 p.2) ps) (mergeK (putK kk q.1 q.2) qs)
    exact ih (by rw [← h.1]; exact put_rkv h.2 r2)
def dictPD : D1 := fun x m => match lstOf m x with
  | some ds => (match pairsD ds with
    | some kvs => .ok (.ref m.length) (m ++ [.dic (mergeD [] kvs)])
    | none => .bad)
  | none => .bad
theorem pairs_rv : ∀ {ds : List DV} {xs : List V} {kvs : List (Key × DV)}, RVs K μ H ds xs → pairsD ds = some kvs → ∃ (ps : List Addr) (kk : List (Key × V)), xs = ps.map V.ref ∧ Paired (fun p kv => SqT K H p [kV kv.1, kv.2]) ps kk ∧ RKV K μ H kvs kk
  | [], _, kvs, .nil, h => by cases h; exact ⟨[], [], rfl, .nil, .nil⟩
  | d :: ds, _, kvs, .cons r rs, h => by
    cases r with
    | @tup ad ys ds' s r' =>
      match ds', h with
      | [k, v], h =>
        simp only [pairsD] at h
        obtain ⟨k', h1, h2⟩ := Option.bind_eq_some_iff.mp h
        obtain ⟨l, h3, h4⟩ := Option.map_eq_some_iff.mp h2
        subst h4
        obtain ⟨ps, kk, g1, g2, g3⟩ := pairs_rv rs h3
        cases r' with
        | @cons _ y1 _ _ ra rb =>
          cases rb with
          | @cons _ y2 _ _ rb rc =>
            cases rc
            have := keyOf_ok ra h1
            subst this
            exact ⟨ad :: ps, (k', y2) :: kk, by rw [g1]; rfl, .cons s g2, .cons ⟨rfl, rb⟩ g3⟩
      | [], h => cases h
      | [_], h => cases h
      | _ :: _ :: _ :: _, h => cases h
    | _ => cases h
theorem cd_dictP : CallD K W (fun xs H Q => ∃ (a : Addr) (ps : List Addr) (kvs : List (Key × V)), xs = [.ref a] ∧ SqL K H a (ps.map V.ref) ∧ Paired (fun p kv => SqT K H p [kV kv.1, kv.2]) ps kvs ∧
    ∀ p, H p = none → Q (.ref p) (upd H p (.dK (mergeK [] kvs)))) (f1 dictPD) := cd1 fun μ H m v d Q R r q => by
  unfold dictPD at q
  cases e1 : lstOf m d with
  | none => rw [e1] at q; exact q.elim
  | some ds =>
    rw [e1] at q
    dsimp only at q
    obtain ⟨ad, xs, rfl, rr, s⟩ := lstOf_ok R r e1
    cases e2 : pairsD ds with
    | none => rw [e2] at q; exact q.elim
    | some kvs =>
      rw [e2] at q
      obtain ⟨ps, kk, g1, g2, g3⟩ := pairs_rv rr e2
      subst g1
      refine ⟨ad, ps, kk, rfl, s, g2, fun p hp => ?_⟩
      have e0 : Ext K μ H (μ ++ [p]) (upd H p (.dK (mergeK [] kk))) := (ext_fresh hp).trans ext_snoc
      exact q _ _ _ e0 (R.alloc hp ⟨_, upd_same, rkv_mono (merge_rkv g3 .nil) e0.toExt0⟩) (rv_new R)
theorem se_dictP (hm : C.mg "dict" = none) (ha : SE C e A) (hg : Gb C "dict" := by rfl) (hs : ∀ env, starEach [e] env = (false, eval e env) :: starEach [] env := by intro _; rfl) : SE C (.Call (.Name "dict" p) [e] [] pos) (eCall (f1 dictPD) (aCons A aNil)) :=
  se_callT (fun X hX => by rw [← hX.K]; exact call_dictP hX.calm) cd_dictP hm (sa_cons ha sa_nil hs) (hg := hg) (he := hs)
/-! ### str(int) -/
def strD : D1 := fun x m => match x with
  | .int i => if i.natAbs.log2 < 1920 then .ok (.str (toString i)) m else .bad
  | _ => .bad
theorem se_strOf (hm : C.mg "str" = none) (ha : SE C e A) (hg : Gb C "str" := by rfl) (hs : ∀ env, starEach [e] env = (false, eval e env) :: starEach [] env := by intro _; rfl) : SE C (.Call (.Name "str" p) [e] [] pos) (eCall (f1 strD) (aCons A aNil)) :=
  se_callT (fun X hX => call_str_int) (cd1 fun μ H m v d Q R r q => by
    cases r with
    | int i =>
      have q' : wp C.K C.W (RV C.K) μ H (if i.natAbs.log2 < 1920 then .ok (.str (toString i)) m else .bad) Q := q
      by_cases h : i.natAbs.log2 < 1920
      · rw [if_pos h] at q'
        exact ⟨i, rfl, h, wp.ok q' R (.str _)⟩
      · rw [if_neg h] at q'; exact q'.elim
    | _ => exact q.elim) hm (sa_cons ha sa_nil hs) (hg := hg) (he := hs)

section
/-! ### dict comprehensions -/
open Classical in
noncomputable def dcompD (gs : List (Nat × MO)) (G : DG) (T : DT) (E F : DE) (k : Nat) (env : Env) : List DV → Mem → Out Unit
  | [], m => if guard gs m then .ok () m else .bad
  | d :: ds, m => if guard gs m then (G d env m).nox.bind fun env1 m1 => (T env1 m1).nox.bind fun c m2 => if c then (E env1 m2).nox.bind fun y m3 => (F env1 m3).nox.bind fun z m4 => (match keyOf y, m4[k]? with
      | some ky, some (.dic acc) => if acc.length < 16777216 then dcompD gs G T E F k env ds (m4.set k (.dic (putG acc ky z))) else .bad
      | _, _ => .bad) else dcompD gs G T E F k env ds m2 else .bad
noncomputable def eDComp (I : DI) (G : DG) (T : DT) (E F : DE) (vs : List Nat) : DE := fun env m => (I env m).bind fun it m1 =>
  (dcompD it.gs G T E F m1.length (wipeD vs env) it.ds (m1 ++ [.dic []])).bind fun _ m2 => .ok (.ref m1.length) m2
theorem sd_dcomp {wi : TI} {g : TG} {tt : TT} {tk te : TE} {vs : List Nat} {D : DE} (di : SdI C.K C.W wi I) (dg : SdG C.K E0' g G) (fg : FrG g vs) (dt : SdT C.K E0' tt T) (dk : Sd C.K E0' tk D) (de : Sd C.K E0' te A) : Sd C.K C.W (tDc wi g tt tk te vs) (eDComp I G T D A vs) := by
  refine ⟨fun env m μ σ H Q R E q => ?_⟩
  refine di.run env m μ σ H _ R E (wp.mono (wp.bind q) fun J H1 ⟨it, m1, μ1, e1, R1, ri, h1⟩ => ?_)
  intro dd hD
  have e0 : Ext C.K μ1 H1 (μ1 ++ [dd]) (upd H1 dd (.dK [])) := (ext_fresh hD).trans ext_snoc
  have R0 : Rel C.K (m1 ++ [.dic []]) (μ1 ++ [dd]) (upd H1 dd (.dK [])) := R1.alloc hD ⟨[], upd_same, .nil⟩
  have hk0 : (μ1 ++ [dd])[m1.length]? = some dd := by rw [← R1.len]; simp
  have assoc : ∀ {α β γ : Type} (o : Out α) (f : α → Mem → Out β) (g : β → Mem → Out γ), (o.bind f).bind g = o.bind fun a m => (f a m).bind g := by
    intro α β γ o f g; cases o <;> rfl
  let J' : List DV → Hp → Prop := fun ds H' => ∃ m' μ', Ext C.K (μ1 ++ [dd]) (upd H1 dd (.dK [])) μ' H' ∧ Rel C.K m' μ' H' ∧ wp C.K C.W (RV C.K) μ' H' ((dcompD it.gs G T D A m1.length (wipeD vs env) ds m').bind fun _ m2 => .ok (.ref m1.length) m2) Q
  refine ⟨fun i k H' => i ≤ it.ds.length ∧ k = it.ds.length - i ∧ J' (it.ds.drop i) H', ⟨_, Nat.zero_le _, rfl, m1 ++ [.dic []], μ1 ++ [dd], Ext.refl, R0, by simpa using wp.later e0 h1⟩, ?_⟩
  rintro i k H2 ⟨hle, hk, m2, μ2, e2, R2, q2⟩
  subst hk
  have hkD : μ2[m1.length]? = some dd := e2.pre _ _ hk0
  by_cases hlt : i < it.ds.length
  · rw [List.drop_eq_getElem_cons hlt] at q2
    unfold dcompD at q2
    by_cases hg : guard it.gs m2
    · rw [if_pos hg] at q2
      obtain ⟨go, yl⟩ := (ri m2 μ2 H2 (e0.trans e2) R2 hg i).1 it.ds[i] (by simp [hlt])
      refine .inr ⟨go, J' (it.ds.drop (i + 1)), fun H' hh => ⟨it.ds.length - (i + 1), by omega, hlt, rfl, hh⟩, fun x H3 y => ?_⟩
      obtain ⟨e3, R3, r3⟩ := yl x H3 y
      have E3 : RE C.K μ2 H3 (wipeD vs env) (L2.wipe σ vs) := ((E.mono e1).mono ((e0.trans e2).trans e3)).wipe vs
      have q3 := wp.later e3 q2
      rw [assoc] at q3
      refine fg.run x _ H3 _ _ (dg.run _ x (wipeD vs env) m2 μ2 _ H3 _ R3 E3 r3 (wp.bindX q3)) fun σ4 H4 ⟨env4, m4, μ4, e4, R4, E4, q4⟩ l4 g4 => ?_
      refine ⟨wipe_same l4 g4, ?_⟩
      dsimp only at q4
      rw [assoc] at q4
      refine dt.run env4 m4 μ4 σ4 H4 _ R4 E4 (wp.mono (wp.bindX q4) fun c H5 ⟨dc, m5, μ5, e5, R5, r5, q5⟩ => ?_)
      have r5' : dc = c := r5
      subst r5'
      have e25 : Ext C.K (μ1 ++ [dd]) (upd H1 dd (.dK [])) μ5 H5 := ((e2.trans e3).trans e4).trans e5
      cases dc with
      | false =>
        rw [if_neg Bool.false_ne_true]
        exact ⟨m5, μ5, e25, R5, q5⟩
      | true =>
        rw [if_pos rfl]
        simp only [if_true] at q5
        rw [assoc] at q5
        refine dk.run env4 m5 μ5 σ4 H5 _ R5 (E4.mono e5) (wp.mono (wp.bindX q5) fun ky H6 ⟨dk6, m6, μ6, e6, R6, r6, q6⟩ => ?_)
        dsimp only at q6
        rw [assoc] at q6
        refine de.run env4 m6 μ6 σ4 H6 _ R6 ((E4.mono e5).mono e6) (wp.mono (wp.bindX q6) fun z H7 ⟨dz, m7, μ7, e7, R7, r7, q7⟩ => ?_)
        dsimp only at q7
        cases g6 : keyOf dk6 with
        | none => rw [g6] at q7; exact q7.elim
        | some kk =>
          rw [g6] at q7
          cases g7 : m7[m1.length]? with
          | none => rw [g7] at q7; exact q7.elim
          | some o =>
            rw [g7] at q7
            cases o with
            | dic acc =>
              dsimp only at q7
              by_cases hz : acc.length < 16777216
              · rw [if_pos hz] at q7
                have hD7 : μ7[m1.length]? = some dd := e7.pre _ _ (e6.pre _ _ (e25.pre _ _ hk0))
                obtain ⟨xs, hx, rx⟩ := R7.obj _ _ _ hD7 g7
                refine ⟨xs, kk, keyOf_ok r6 g6, hx, by rw [← len_rkv rx, line_eq]; exact hz, ?_⟩
                have ew : Ext C.K μ7 H7 μ7 (upd H7 dd (.dK (putK xs kk z))) := ext_write hx ⟨(by simp), (by simp), (by simp)⟩ (by simp)
                exact ⟨m7.set m1.length (.dic (putG acc kk dz)), μ7, ((e25.trans e6).trans e7).trans ew, R7.write hD7 g7 trivial ⟨_, upd_same, put_rkv (r7.mono ew) (rkv_mono rx ew.toExt0)⟩ trivial, wp.later ew q7⟩
              · rw [if_neg hz] at q7; exact q7.elim
            | _ => exact q7.elim
    · rw [if_neg hg] at q2; exact q2.elim
  · have hl : it.ds.length ≤ i := by omega
    rw [List.drop_eq_nil_iff.mpr hl] at q2
    unfold dcompD at q2
    by_cases hg : guard it.gs m2
    · rw [if_pos hg] at q2
      exact .inl ⟨(ri m2 μ2 H2 (e0.trans e2) R2 hg i).2 (Nat.le_antisymm hl hle), wp.ok q2 R2 (.ref hkD)⟩
    · rw [if_neg hg] at q2; exact q2.elim
theorem se_dcomp {ifs : List Expr} {scope : Scope} {own : List (Str × Nat)} {D : DE} (hi : SI C tg iter I) (ok : BlkOk C.N C.sc scope own) (hg : SGv (C.blk scope) (own.map (·.2)) tg G) (ht : STs (C.blk scope) ifs T) (hk : SE (C.blk scope) kx D) (he : SE (C.blk scope) vx A)
    (hs : ∀ env x, foldedSetIterable iter env x = pure x := by intro _ _; rfl) : SE C (.DictComp kx vx [⟨tg, iter, ifs, 0⟩] scope pos) (eDComp I G T D A (own.map (·.2))) := by
  obtain ⟨wi, pi, di⟩ := hi
  obtain ⟨g, pg, dg, fg⟩ := hg
  obtain ⟨tt, pt, dt⟩ := ht
  obtain ⟨tk, pk, dk⟩ := hk
  obtain ⟨te, pe, de⟩ := he
  exact ⟨_, fun X hX => pe_dc hX.calm (by rw [hX.N]; exact hX.nd) (pi X hX) (by rw [hX.N, hX.sc]; exact ok) (fun s H Ca cl fp => pg _ (hX.blk scope s H Ca cl fp)) (fun s H Ca cl fp => pt _ (hX.blk scope s H Ca cl fp))
    (fun s H Ca cl fp => pk _ (hX.blk scope s H Ca cl fp)) (fun s H Ca cl fp => pe _ (hX.blk scope s H Ca cl fp)) (hs X.env), sd_dcomp di dg fg dt dk de⟩

/-! ### sorted of data -/
theorem each_of_vals {α : Type} {f : α → V} : ∀ {bs : List α} {its : List Value}, Vals (bs.map f) its → PySem.W.EachIs (fun v b => RelV (f b) v) its bs
  | [], its, r => by
    rw [List.map_nil] at r
    cases r
    exact .nil
  | b :: bs, its, r => by
    rw [List.map_cons] at r
    cases r with
    | cons h t => exact .cons h (each_of_vals t)
theorem vals_of_each {α : Type} {f : α → V} : ∀ {bs : List α} {its : List Value}, PySem.W.EachIs (fun v b => RelV (f b) v) its bs → Vals (bs.map f) its
  | [], _, .nil => .nil
  | _ :: _, _, .cons h t => .cons h (vals_of_each t)

/-- the order of items that hold data -/
noncomputable def sortDs (ds : List DV) (ps : List PyData) : List DV := ((ds.zip ps).mergeSort (PySem.W.dataLe false Prod.snd)).map Prod.fst
open Classical in
noncomputable def sortD : D1 := fun x m => match seqOf m x with
  | some ds => (match optAll (ds.map (pd m 50)) with
    | some ps => if PySem.W.AllAlike ps ∧ PySem.W.Sortable ps ∧ PyData.depthAll ps ≤ 50 ∧ ds.length ≤ 16777216 then .ok (.ref m.length) (m ++ [.lst (sortDs ds ps)]) else .bad
    | none => .bad)
  | none => .bad
theorem collect_seq {prog : Program} {w : World} {A : Around} {E : Value → Shared → Prop} {s : Shared} {l : Addr} {vs : List Value} {Q : List Value → Shared → Prop} (hl : s.heap.IsTuple l vs.toArray) (hsz : vs.length ≤ sizeLine)
    (h : Q vs { s with heap := (s.heap.push (seqObj "list" #[] 0)).update s.heap.objs.size (Obj.mapSeq (· ++ vs.toArray)) }) :
    wpAny (model prog w) A (collect (.ref l)) Q E s := by
  obtain ⟨o, ho, hc, n, hd⟩ := id hl; unfold collect
  refine wpAny_bind (wpAny_runValue (codeAny_builtin entry_proto_collect' ?_)); refine wpAny_bind (wpAny_newList (wpAny_pure ⟨Code.quiet_builtin _ (by decide +kernel), codeAny_builtin entry_list_iadd' ?_⟩))
  show wpAny _ _ (Builtin.List.listExtendWith (.ref s.heap.objs.size) (.ref l) (.ref s.heap.objs.size)) _ _ { s with heap := s.heap.push (seqObj "list" #[] 0) }; unfold Builtin.List.listExtendWith
  have h1 : (s.heap.push (seqObj "list" #[] 0)).get? l = some o := Heap.get?_push_of_some _ ho; refine wpAny_bind (wpAny_typeOf (T := "tuple") ⟨o, h1, hc⟩ ?_)
  have ht : (Value.type "tuple" == Value.type "tuple") = true := by rfl
  rw [if_pos (by rw [ht, Bool.or_true])]; refine wpAny_bind (listItems_at h1 hd ?_)
  refine wpAny_bind (listItems_at (xs := #[]) (n := 0) (Heap.get?_push_size _ rfl) rfl ?_); rw [if_neg (by simp)]
  refine wpAny_bind (listUpdate_at (xs := #[]) (n := 0) (Heap.get?_push_size _ rfl) rfl ?_ (Nat.zero_le _) (by show (#[] ++ vs.toArray).size ≤ sizeLine + 1; simp; omega)); refine wpAny_pure ?_
  show wpAny (model prog w) A (load s.heap.objs.size >>= fun o => match o.data with
      | .seq xs _ => pure xs.toList
      | _ => unsupported "internal:collect") Q E { s with heap := (s.heap.push (seqObj "list" #[] 0)).update s.heap.objs.size (Obj.mapSeq (· ++ vs.toArray)) }
  refine wpAny_bind (wpAny_load (get?_update_seq (Heap.get?_push_size _ rfl) _) ?_)
  have e0 : ((#[] : Array Value) ++ vs.toArray).toList = vs := by simp
  show wpAny _ _ (pure ((#[] : Array Value) ++ vs.toArray).toList) Q E _; rw [e0]; exact wpAny_pure h

theorem sorted_seq {prog : Program} {w : World} {A : Around} {E : Value → Shared → Prop} {s : Shared} {l : Addr} {vs : List Value} {κ : PyProof.Rows.KeyKind} {Q : Value → Shared → Prop} (hl : s.heap.IsTuple l vs.toArray) (St : PySem.W.SortsAt prog w A.in1.in1 { s with heap := PySem.W.sortingHeap (PySem.W.copyHeap s.heap vs) (s.heap.objs.size + 1) vs } κ vs) (hL : vs.length ≤ sizeLine)
    (h : Q (.ref (s.heap.objs.size + 1)) { s with heap := sortedAll s.heap vs (PySem.W.sortVals κ false vs vs).toArray }) : wpAny (model prog w) A (call (.builtin "sorted") [.ref l]) Q E s := by
  refine call_function_entry_kw kind_sorted plain_sorted entry_sorted (args_sorted1 _) ?_; unfold Builtin.«sorted»
  refine wpAny_bind (m := checkCount "sorted" 1 1 _) (wpAny_pure ?_); refine wpAny_bind (collect_seq hl hL ?_); refine wpAny_bind (wpAny_newList ?_ hL)
  have hsz : ((s.heap.push (seqObj "list" #[] 0)).update s.heap.objs.size (Obj.mapSeq (· ++ vs.toArray))).objs.size = s.heap.objs.size + 1 := by rw [Heap.size_update, size_push']
  show wpAny _ _ _ _ _ { s with heap := PySem.W.copyHeap s.heap vs }; rw [hsz]
  refine wpAny_bind (wpAny_holding (wpAny_call_entry_kw slot_list_sort ⟨_, PySem.W.copyHeap_at s.heap vs, rfl⟩ entry_list_sort ?body (args_list_sort _)))
  case body => exact wpAny_mono (PySem.W.list_sort_vals (A := A.in1.in1) (E := fun _ _ => False) (P := fun f s' => f = .done (.ret .none) ∧ Q (.ref (s.heap.objs.size + 1)) s') (s := { s with heap := PySem.W.copyHeap s.heap vs }) (PySem.W.copyHeap_at s.heap vs) St hL ⟨rfl, h⟩) (fun f s' ⟨hf, hq⟩ => by subst hf; exact ⟨_, rfl, wpAny_pure ⟨_, rfl, hq⟩⟩) fun _ _ z => z.elim
abbrev Tri := V × DV × PyData
abbrev encT (b : Tri) : PyData := b.2.2
def rSortD (K : PySem.W.Frag) : List V → Hp → VK → Prop := fun vs H Q => ∃ (a : Addr) (bs : List Tri), vs = [V.ref a] ∧ (SqL K H a (bs.map (·.1)) ∨ SqT K H a (bs.map (·.1))) ∧ DpAll K H (bs.map (·.1)) (bs.map encT) ∧ PySem.W.AllAlike (bs.map encT) ∧ PySem.W.Sortable (bs.map encT) ∧ PyData.depthAll (bs.map encT) ≤ 50 ∧ bs.length ≤ 16777216 ∧
  ∀ p, H p = none → Q (.ref p) (upd H p (.lst ((bs.mergeSort (PySem.W.dataLe false encT)).map (·.1))))
theorem depth_each {d : PyData} : ∀ {ds : List PyData}, d ∈ ds → d.depth ≤ PyData.depthAll ds
  | [], h => by cases h
  | e :: ds, h => by
    simp only [PyData.depthAll]
    rcases List.mem_cons.mp h with q | q
    · rw [q]; exact Nat.le_max_left _ _
    · exact Nat.le_trans (depth_each q) (Nat.le_max_right _ _)
theorem cr_sortD {X : Cx} (hu : X.A.units + 64 < cLine) : CallR X (.builtin "sorted") (rSortD X.K) := by
  intro pins s σ H vs us Q I r ⟨a, bs, e, hs, dp, al, so, dpt, hz, q⟩
  subst e
  obtain ⟨u, rfl, ru⟩ := Vals.one r
  cases ru
  have fin : ∀ (its : List Value), Vals (bs.map (·.1)) its → (∀ out : List Value, out.length = bs.length → PySem.W.EachIs (fun v b => RelV b.1 v) out (bs.mergeSort (PySem.W.dataLe false encT)) → ∃ y H1, Inv X pins σ H1 { s with heap := sortedAll s.heap its (List.toArray out) } ∧ RelV y (.ref (s.heap.objs.size + 1)) ∧ Q y H1) := by
    intro its rv out hlen ho
    obtain ⟨ep, he'⟩ := PyProof.Rows.sortedAll_at s.heap its out.toArray
    have hl2 : ((bs.mergeSort (PySem.W.dataLe false encT)).map (·.1)).length ≤ sizeLine := by rw [List.length_map, List.length_mergeSort, line_eq]; exact hz
    exact ⟨.ref _, upd H (s.heap.objs.size + 1) (.lst ((bs.mergeSort (PySem.W.dataLe false encT)).map (·.1))), I.laid (t' := s.toks) (fun _ _ => PyProof.Rows.sortedAll_old) (Nat.le_succ _) ⟨hl2, out, ep, vals_of_each ho, he'⟩, rfl, q _ (I.hok.fresh (Nat.le_succ _))⟩
  have hdep : ∀ b, b ∈ bs → X.A.units + 2 + (encT b).depth < cLine := fun b hb => by
    have := depth_each (List.mem_map.mpr ⟨b, hb, rfl⟩ : encT b ∈ bs.map encT)
    omega
  rcases hs with hs | hs
  · obtain ⟨its, rv, pl, hz2⟩ := I.list hs
    obtain ⟨as, hr⟩ := Dp.readsAll I _ _ _ dp rv
    exact PySem.W.sorted_data pl.isList (each_of_vals rv) (PySem.W.readsAll_each encT hr) al so (by rw [line_eq]; exact hz) hdep fun out h1 h2 => fin its rv out h1 h2
  · obtain ⟨its, rv, pl, hz2⟩ := I.tuple hs
    obtain ⟨as, hr⟩ := Dp.readsAll I _ _ _ dp rv
    have e := each_of_vals rv
    have er := PySem.W.readsAll_each encT hr
    have er' : PySem.W.EachIs (fun v b => ∃ as, Reads (PySem.W.sortingHeap (PySem.W.copyHeap s.heap its) (s.heap.objs.size + 1) its) v (encT b) as) its bs := er.mono fun _ _ ⟨as, r⟩ => ⟨as, PyProof.Rows.Reads.keeps (fun _ _ => PySem.W.sorting_copy_old) r⟩
    refine sorted_seq pl (PySem.W.SortsAt.data (s := { s with heap := PySem.W.sortingHeap (PySem.W.copyHeap s.heap its) (s.heap.objs.size + 1) its }) (PySem.W.each_map (R := fun v d => ∃ as, Reads (PySem.W.sortingHeap (PySem.W.copyHeap s.heap its) (s.heap.objs.size + 1) its) v d as) encT er') al so (PySem.W.bound_map hdep)) (by rw [← rv.length]; exact hz2) ?_
    exact fin its rv _ (by rw [PySem.W.sortVals_length false rfl]; exact e.length) (PySem.W.sortVals_data false e er' al)
theorem zip3 : ∀ {ds : List DV} {xs : List V} {ps : List PyData}, RVs K μ H ds xs → DpAll K H xs ps → ∃ bs : List Tri, bs.map (·.1) = xs ∧ bs.map (·.2.1) = ds ∧ bs.map encT = ps ∧ ∀ b ∈ bs, RV K μ H b.2.1 b.1
  | [], _, _, .nil, .nil => ⟨[], rfl, rfl, rfl, by simp⟩
  | d0 :: _, v0 :: _, p0 :: _, .cons r rs, .cons d ds => by
    obtain ⟨bs, h1, h2, h3, h4⟩ := zip3 rs ds
    refine ⟨(v0, d0, p0) :: bs, by simp only [List.map_cons, h1], by simp only [List.map_cons, h2], by simp only [List.map_cons, h3], fun b hb => ?_⟩
    rcases List.mem_cons.mp hb with q | q
    · rw [q]; exact r
    · exact h4 b q
theorem rvs_map {f : Tri → DV} {g : Tri → V} : ∀ {bs : List Tri}, (∀ b ∈ bs, RV K μ H (f b) (g b)) → RVs K μ H (bs.map f) (bs.map g)
  | [], _ => .nil
  | b :: bs, h => .cons (h b List.mem_cons_self) (rvs_map fun c hc => h c (List.mem_cons_of_mem _ hc))
theorem sortDs_tri (bs : List Tri) : sortDs (bs.map (·.2.1)) (bs.map encT) = (bs.mergeSort (PySem.W.dataLe false encT)).map (·.2.1) := by
  unfold sortDs
  have h1 : (bs.map (·.2.1)).zip (bs.map encT) = bs.map (·.2) := by
    induction bs with
    | nil => rfl
    | cons b bs ih => simp only [List.map_cons, List.zip_cons_cons, ih]
  have h2 : (bs.map (·.2)).mergeSort (PySem.W.dataLe false Prod.snd) = (bs.mergeSort (PySem.W.dataLe false encT)).map (·.2) := (List.map_mergeSort (r := PySem.W.dataLe false encT) (s := PySem.W.dataLe false Prod.snd) (f := fun x : Tri => x.2) (l := bs) (fun a _ b _ => rfl)).symm
  rw [h1, h2, List.map_map]
  rfl
theorem cd_sortD : CallD K W (rSortD K) (f1 sortD) := cd1 fun μ H m v d Q R r q => by
  unfold sortD at q
  cases e1 : seqOf m d with
  | none => rw [e1] at q; exact q.elim
  | some ds =>
    rw [e1] at q
    dsimp only at q
    obtain ⟨ad, xs, rfl, rr, s⟩ := seqOf_ok R r e1
    cases e2 : optAll (ds.map (pd m 50)) with
    | none => rw [e2] at q; exact q.elim
    | some ps =>
      rw [e2] at q
      dsimp only at q
      by_cases hc : PySem.W.AllAlike ps ∧ PySem.W.Sortable ps ∧ PyData.depthAll ps ≤ 50 ∧ ds.length ≤ 16777216
      · rw [if_pos hc] at q
        obtain ⟨bs, h1, h2, h3, h4⟩ := zip3 rr (dpAll_of (dp_of R 50) e2 rr)
        subst h1 h2 h3
        refine ⟨ad, bs, rfl, s, dpAll_of (dp_of R 50) e2 rr, hc.1, hc.2.1, hc.2.2.1, by simpa using hc.2.2.2, fun p hp => ?_⟩
        rw [sortDs_tri] at q
        have hmem : ∀ b ∈ bs.mergeSort (PySem.W.dataLe false encT), RV K μ H b.2.1 b.1 := fun b hb => h4 b (List.mem_mergeSort.mp hb)
        exact q _ _ _ ((ext_fresh hp).trans ext_snoc) (rel_lst R hp (rvs_map hmem)) (rv_new R)
      · rw [if_neg hc] at q; exact q.elim
theorem se_sorted (hm : C.mg "sorted" = none) (ha : SE C e A) (hg : Gb C "sorted" := by rfl) (hs : ∀ env, starEach [e] env = (false, eval e env) :: starEach [] env := by intro _; rfl) : SE C (.Call (.Name "sorted" p) [e] [] pos) (eCall (f1 sortD) (aCons A aNil)) :=
  se_callB (fun X hX => by rw [← hX.K]; exact cr_sortD (room64 hX)) cd_sortD hm (sa_cons ha sa_nil hs) (hg := hg) (he := hs)

/-! ### list.pop, list.remove -/
def popAtD : DV → DV → Mem → Out DV := fun x y m => match x, y with
  | .ref k, .int i => (match m[k]? with
    | some (.lst ds) => (match seqIndex? i ds.length with
      | some n => (match ds[n]? with
        | some d => if -1000000000 ≤ i ∧ i ≤ 1000000000 then .ok d (m.set k (.lst (ds.eraseIdx n))) else .bad
        | none => .bad)
      | none => .bad)
    | _ => .bad)
  | _, _ => .bad
def ePopAt (A B : DE) : DE := fun env m => (A env m).bind fun x m1 => match lstOf m1 x with
  | some _ => (B env m1).bind fun y m2 => popAtD x y m2
  | none => .bad
def popLD : DV → Mem → Out DV := fun x m => match x with
  | .ref k => (match m[k]? with
    | some (.lst ds) => (match ds[ds.length - 1]? with
      | some d => .ok d (m.set k (.lst ds.dropLast))
      | none => .bad)
    | _ => .bad)
  | _ => .bad
theorem RVs.dropLast' : ∀ {ds : List DV} {vs : List V}, RVs K μ H ds vs → RVs K μ H ds.dropLast vs.dropLast
  | [], _, .nil => .nil
  | [_], _, .cons _ .nil => .nil
  | _ :: _ :: _, _, .cons a (.cons b c) => .cons a (RVs.dropLast' (.cons b c))
theorem r_popAt (R : Rel K m μ H) {dx dy : DV} {x y : V} {Q : VK} (r1 : RV K μ H dx x) (r2 : RV K μ H dy y) (q : wp K W (RV K) μ H (popAtD dx dy m) Q) : rPopAt x [y] H Q := by
  cases r1 with
  | @ref k ad hk =>
    cases r2 with
    | int i =>
      unfold popAtD at q
      dsimp only at q
      cases g : m[k]? with
      | none => rw [g] at q; exact q.elim
      | some ob =>
        rw [g] at q
        cases ob with
        | lst ds =>
          dsimp only at q
          obtain ⟨xs, s, r⟩ := R.obj k ad _ hk g
          cases g2 : seqIndex? i ds.length with
          | none => rw [g2] at q; exact q.elim
          | some n =>
            rw [g2] at q
            dsimp only at q
            cases g3 : ds[n]? with
            | none => rw [g3] at q; exact q.elim
            | some d =>
              rw [g3] at q
              dsimp only at q
              by_cases hb : -1000000000 ≤ i ∧ i ≤ 1000000000
              · rw [if_pos hb] at q
                obtain ⟨v, h1, h2⟩ := r.get g3
                have ew : Ext K μ H μ (upd H ad (.lst (xs.eraseIdx n))) := ext_write s ⟨(by simp), (by simp), (by simp)⟩ (by simp)
                exact ⟨ad, xs, i, n, v, rfl, rfl, s, by omega, by omega, by rw [← r.length]; exact g2, h1, q v μ _ ew (R.write hk g trivial ⟨_, upd_same, (RVs.eraseIdx n r).mono ew⟩ trivial) (h2.mono ew)⟩
              · rw [if_neg hb] at q; exact q.elim
        | _ => exact q.elim
    | _ => exact q.elim
  | _ => cases r2 <;> exact q.elim
theorem r_pop (R : Rel K m μ H) {dx : DV} {x : V} {Q : VK} (r1 : RV K μ H dx x) (q : wp K W (RV K) μ H (popLD dx m) Q) : rPop x [] H Q := by
  cases r1 with
  | @ref k ad hk =>
    unfold popLD at q
    dsimp only at q
    cases g : m[k]? with
    | none => rw [g] at q; exact q.elim
    | some ob =>
      rw [g] at q
      cases ob with
      | lst ds =>
        dsimp only at q
        obtain ⟨xs, s, r⟩ := R.obj k ad _ hk g
        cases g3 : ds[ds.length - 1]? with
        | none => rw [g3] at q; exact q.elim
        | some d =>
          rw [g3] at q
          dsimp only at q
          obtain ⟨v, h1, h2⟩ := r.get g3
          have ew : Ext K μ H μ (upd H ad (.lst xs.dropLast)) := ext_write s ⟨(by simp), (by simp), (by simp)⟩ (by simp)
          exact ⟨ad, xs, v, rfl, rfl, s, by rw [← r.length]; exact h1, q v μ _ ew (R.write hk g trivial ⟨_, upd_same, (RVs.dropLast' r).mono ew⟩ trivial) (h2.mono ew)⟩
      | _ => exact q.elim
  | _ => exact q.elim
theorem se_popAt (ha : SE C o A) (hb : SE C e B) (hbase : ∀ env, attributeBase o "pop" env (eval o env) = eval o env := by intro _; rfl)
    (hfew : ∀ env, ((backTo cpos (starEach [e] env)).all (fun x => !x.1) && (backToKw cpos (keywordEach [] env)).all (fun x => x.1.isSome) && decide (([e] : List Expr).length + ([] : List Keyword).length + (if ([] : List Keyword).isEmpty then 0 else 1) < 30)) = true := by intro _; rfl)
    (hline : (apos.endLine == cpos.line) = true := by rfl) (hs : ∀ env, starEach [e] env = (false, eval e env) :: starEach [] env := by intro _; rfl) : SE C (.Call (.Attribute o "pop" apos) [e] [] cpos) (ePopAt A B) := by
  obtain ⟨ta, pa, da⟩ := ha
  obtain ⟨tb, pb, db⟩ := hb
  refine ⟨tBM C.K "list" rPopAt ta (tCons tb tNil), fun X hX => by rw [← hX.K]; exact pe_bm PySem.F.plainAttrs_list PySem.F.slot_list_pop PySem.F.type_list_pop mt_popAt (pa X hX) (pa_cons (pb X hX) pa_nil (hs X.env)) (hbase X.env) (hfew X.env) hline (hs X.env) rfl, ⟨fun env m μ σ H Q R E q => ?_⟩⟩
  refine da.run env m μ σ H _ R E (wp.mono (wp.bind q) fun x H1 ⟨dx, m1, μ1, e1, R1, r1, h1⟩ => ?_)
  dsimp only at h1
  cases g : lstOf m1 dx with
  | none => rw [g] at h1; exact h1.elim
  | some ds =>
    rw [g] at h1
    refine ⟨ty_list R1 r1 g, ?_⟩
    refine db.run env m1 μ1 σ H1 _ R1 (E.mono e1) (wp.mono (wp.bind h1) fun y H2 ⟨dy, m2, μ2, e2, R2, r2, h2⟩ => ?_)
    exact r_popAt R2 (r1.mono e2) r2 h2
/-- the place of the first item that is equal -/
def remD : DV → DV → Mem → Out DV := fun x y m => match x with
  | .ref k => (match m[k]? with
    | some (.lst ds) => (match optAll (ds.map (pd m 50)), pd m 50 y with
      | some ps, some d => if PyData.plainAll ps = true ∧ d.plain = true ∧ d.depth ≤ 50 ∧ ds.length ≤ 16777216 then (match SeqAt.dataPlace ps d with
        | some j => .ok .non (m.set k (.lst (ds.eraseIdx j)))
        | none => .bad) else .bad
      | _, _ => .bad)
    | _ => .bad)
  | _ => .bad
def eRemove (A B : DE) : DE := fun env m => (A env m).bind fun x m1 => match lstOf m1 x with
  | some _ => (B env m1).bind fun y m2 => remD x y m2
  | none => .bad
def rRemD (K : PySem.W.Frag) : V → List V → Hp → VK → Prop := fun x vs H Q => ∃ (l : Addr) (xs : List V) (y : V) (ps : List PyData) (d : PyData) (j : Nat), x = .ref l ∧ vs = [y] ∧ H l = some (.lst xs) ∧ DpAll K H xs ps ∧ Dp K H y d ∧ PyData.plainAll ps = true ∧ d.plain = true ∧ d.depth ≤ 50 ∧ SeqAt.dataPlace ps d = some j ∧ Q .non (upd H l (.lst (xs.eraseIdx j)))
theorem mt_remD {X : Cx} (hu : X.A.units + 64 < cLine) : MtM X "list.remove" (rRemD X.K) := by
  intro pins s σ H x vs v us Q I rx rv ⟨l, xs, y, ps, d, j, ex, ev, hH, dp, dy, pl, pd1, dd, hp, q⟩
  subst ex ev
  cases rx
  obtain ⟨u, rfl, ru⟩ := rv.one
  obtain ⟨z, its, n, r, hl, e⟩ := I.lstM hH
  obtain ⟨as, hr⟩ := Dp.readsAll I _ _ _ dp r
  obtain ⟨bs, hy⟩ := Dp.reads I d y u dy ru
  have hil : s.heap.IsList l its.toArray := ⟨_, e, rfl, n, rfl⟩
  have hsz : its.toArray.size ≤ sizeLine := by rw [List.size_toArray, ← hl]; exact z
  refine SeqAt.remove_list_data (j := j) hil (by simpa using hr) hy pl pd1 ?_ hp hsz ?_
  · have : min (PyData.depthAll ps) d.depth ≤ d.depth := Nat.min_le_right _ _
    omega
  · refine ⟨.non, _, I.lset (its' := its.eraseIdx j) hH e ?_ (r.eraseIdx j) ?_, rfl, q⟩
    · show its.toArray.eraseIdxIfInBounds j = (its.eraseIdx j).toArray
      rw [List.eraseIdxIfInBounds_toArray]
    · have := List.length_eraseIdx_le xs j
      omega
theorem r_remD (R : Rel K m μ H) {dx dy : DV} {x y : V} {Q : VK} (r1 : RV K μ H dx x) (r2 : RV K μ H dy y) (q : wp K W (RV K) μ H (remD dx dy m) Q) : rRemD K x [y] H Q := by
  cases r1 with
  | @ref k ad hk =>
    unfold remD at q
    dsimp only at q
    cases g : m[k]? with
    | none => rw [g] at q; exact q.elim
    | some ob =>
      rw [g] at q
      cases ob with
      | lst ds =>
        dsimp only at q
        obtain ⟨xs, s, r⟩ := R.obj k ad _ hk g
        cases g2 : optAll (ds.map (pd m 50)) with
        | none => rw [g2] at q; exact q.elim
        | some ps =>
          cases g3 : pd m 50 dy with
          | none => rw [g2, g3] at q; exact q.elim
          | some d =>
            rw [g2, g3] at q
            dsimp only at q
            by_cases hc : PyData.plainAll ps = true ∧ d.plain = true ∧ d.depth ≤ 50 ∧ ds.length ≤ 16777216
            · rw [if_pos hc] at q
              cases g4 : SeqAt.dataPlace ps d with
              | none => rw [g4] at q; exact q.elim
              | some j =>
                rw [g4] at q
                dsimp only at q
                have ew : Ext K μ H μ (upd H ad (.lst (xs.eraseIdx j))) := ext_write s ⟨(by simp), (by simp), (by simp)⟩ (by simp)
                exact ⟨ad, xs, y, ps, d, j, rfl, rfl, s, dpAll_of (dp_of R 50) g2 r, dp_of R _ _ _ _ g3 r2, hc.1, hc.2.1, hc.2.2.1, g4, q .non μ _ ew (R.write hk g trivial ⟨_, upd_same, (RVs.eraseIdx j r).mono ew⟩ trivial) .non⟩
            · rw [if_neg hc] at q; exact q.elim
      | _ => exact q.elim
  | _ => exact q.elim
theorem se_remove (ha : SE C o A) (hb : SE C e B) (hbase : ∀ env, attributeBase o "remove" env (eval o env) = eval o env := by intro _; rfl)
    (hfew : ∀ env, ((backTo cpos (starEach [e] env)).all (fun x => !x.1) && (backToKw cpos (keywordEach [] env)).all (fun x => x.1.isSome) && decide (([e] : List Expr).length + ([] : List Keyword).length + (if ([] : List Keyword).isEmpty then 0 else 1) < 30)) = true := by intro _; rfl)
    (hline : (apos.endLine == cpos.line) = true := by rfl) (hs : ∀ env, starEach [e] env = (false, eval e env) :: starEach [] env := by intro _; rfl) : SE C (.Call (.Attribute o "remove" apos) [e] [] cpos) (eRemove A B) := by
  obtain ⟨ta, pa, da⟩ := ha
  obtain ⟨tb, pb, db⟩ := hb
  refine ⟨tBM C.K "list" (rRemD C.K) ta (tCons tb tNil), fun X hX => by rw [← hX.K]; exact pe_bm PySem.F.plainAttrs_list PySem.F.slot_list_remove PySem.F.type_list_remove (mt_remD (room64 hX)) (pa X hX) (pa_cons (pb X hX) pa_nil (hs X.env)) (hbase X.env) (hfew X.env) hline (hs X.env) rfl, ⟨fun env m μ σ H Q R E q => ?_⟩⟩
  refine da.run env m μ σ H _ R E (wp.mono (wp.bind q) fun x H1 ⟨dx, m1, μ1, e1, R1, r1, h1⟩ => ?_)
  dsimp only at h1
  cases g : lstOf m1 dx with
  | none => rw [g] at h1; exact h1.elim
  | some ds =>
    rw [g] at h1
    refine ⟨ty_list R1 r1 g, ?_⟩
    refine db.run env m1 μ1 σ H1 _ R1 (E.mono e1) (wp.mono (wp.bind h1) fun y H2 ⟨dy, m2, μ2, e2, R2, r2, h2⟩ => ?_)
    exact r_remD R2 (r1.mono e2) r2 h2
end
end
end DL

end
section
set_option Elab.async false
set_option linter.all false
set_option maxRecDepth 100000
set_option maxHeartbeats 4000000
set_option autoImplicit false
/-! DL12: sorted(set(..)) of at most one pair of texts. -/
namespace DL
open PySem PySem.Spec L2
section
variable {C : Cn} {a b c e o tg iter : Expr} {es : List Expr} {p q p2 pos : Pos} {A B : DE} {As : DA} {T : DT} {x : Str}
variable {K : PySem.W.Frag} {W : XK} {μ μ' : List Addr} {H H' : Hp} {m : Mem}
/-! ### in, not in -/
theorem or_inD : ∀ X, C.Is X → OpR X (compareOp .In) (rInD C.K) := fun X h => by rw [← h.K]; exact op_inD (by have := h.room.un; omega)
theorem or_notInD : ∀ X, C.Is X → OpR X (compareOp .NotIn) (rNotInD C.K) := fun X h => by rw [← h.K]; exact op_notInD (by have := h.room.un; omega)
theorem se_in (ha : SE C a A) (hb : SE C b B) (hm : behindInMarks .In b = false := by with_unfolding_all rfl) : SE C (.Compare a [.In] [b] pos) (eBin inD A B) := se_cmp or_inD bd_in ha hb hm
theorem st_in (ha : SE C a A) (hb : SE C b B) (hm : behindInMarks .In b = false := by with_unfolding_all rfl) : ST C (.Compare a [.In] [b] pos) (tst (eBin inD A B)) := st_cmp or_inD bd_in ha hb hm
theorem se_notIn (ha : SE C a A) (hb : SE C b B) (hm : behindInMarks .NotIn b = false := by with_unfolding_all rfl) : SE C (.Compare a [.NotIn] [b] pos) (eBin notInD A B) := se_cmp or_notInD bd_notIn ha hb hm
theorem st_notIn (ha : SE C a A) (hb : SE C b B) (hm : behindInMarks .NotIn b = false := by with_unfolding_all rfl) : ST C (.Compare a [.NotIn] [b] pos) (tst (eBin notInD A B)) := st_cmp or_notInD bd_notIn ha hb hm
def sortSetD : D1 := fun x m => match lstOf m x with
  | some [] => .ok (.ref m.length) (m ++ [.lst []])
  | some [.tup [.str a, .str b]] => .ok (.ref m.length) (m ++ [.lst [.tup [.str a, .str b]]])
  | _ => .bad
end
end DL

end
section
set_option Elab.async false
set_option linter.all false
set_option maxRecDepth 100000
set_option maxHeartbeats 4000000
set_option autoImplicit false
/-! DL13: a set of at most one value, whatever its kind. -/
namespace DL
open PySem PySem.Spec L2 PyProof.Rows
section
variable {P : Program} {w : World} {A : Around} {E : Value → Shared → Prop} {s : Shared} {a : Addr} {x : Value} {hh : Int} {o : Obj} {b : Bool}
abbrev t0 (b : Bool) : SetTable := .fresh 0 0 b
theorem probe0 (f : Nat → Int) : (t0 b).probe f hh ((t0 b).probeStart hh) = some (.empty ((t0 b).probeStart hh).j none) := by
  have hj : ((t0 b).probeStart hh).j ∉ (t0 b).place.toList := by intro h; cases h
  have he : (t0 b).slot ((t0 b).probeStart hh).j = .empty := slot_empty rfl hj
  unfold SetTable.probe
  rw [show 10 * SetTable.turns (t0 b).mask = (10 * SetTable.turns 7 - 1) + 1 by rfl]
  unfold SetTable.probe.go
  rw [he]
  rfl
theorem fits0 : (t0 b).fits 0 = true := rfl
theorem gave0 : ¬ (t0 b).gaveWay = true := by
  unfold SetTable.gaveWay
  rw [show (t0 b).mask = 7 from rfl]
  decide
theorem search0 (ho : s.heap.get? a = some o) (hd : o.data = .set #[] 0 (t0 b)) {Q : SetFound → Shared → Prop} (h : Q (.free ((t0 b).probeStart hh).j false) s) : wpAny (model P w) A (setSearch a x hh true) Q E s := by
  unfold setSearch
  rw [show (100000 : Nat) = 99999 + 1 from rfl, setSearchFrom_succ]
  refine wpAny_bind (wpAny_setState_of ho hd fits0 ?_)
  dsimp only
  refine wp_if_neg gave0 ?_
  try refine wpAny_bind (wpAny_pure ?_)
  rw [show ((none : Option SetTable.Probe).getD ((t0 b).probeStart hh)) = (t0 b).probeStart hh from rfl]
  exact wpAny_pure h
/-- the table with one in it -/
def t1 (b : Bool) (hh : Int) (pl : Bool) : SetTable := ⟨7, #[((t0 b).probeStart hh).j], #[], 0, b, 0, pl⟩
theorem put0 (j : Nat) : (t0 b).put j = (⟨7, #[j], #[], 0, b, 0, true⟩, 0) := by
  unfold SetTable.put
  rfl
theorem full0 (j : Nat) (pl : Bool) : ¬ (!false && (⟨7, #[j], #[], 0, b, 0, pl⟩ : SetTable).tooFull) = true := by
  rw [show (⟨7, #[j], #[], 0, b, 0, pl⟩ : SetTable).tooFull = false from rfl]
  decide
theorem add0 (ho : s.heap.get? a = some o) (hd : o.data = .set #[] 0 (t0 b)) (hs : x.scannable = false) (hb : ∀ (Q : Bool → Shared → Prop), (∀ r, Q r s) → wpAny (model P w) A (hashByValue 8 x) Q E s) {Q : Bool → Shared → Prop} (h : ∀ pl, Q true { s with heap := s.heap.update a (Obj.putSet #[(hh, x)] (t1 b hh pl)) }) : wpAny (model P w) A (setAddHashed a x hh) Q E s := by
  unfold setAddHashed
  refine wpAny_holding ?_
  rw [show (100000 : Nat) = 99999 + 1 from rfl, setAddHashedIn_succ]
  refine wpAny_bind (wpAny_setState_of ho hd fits0 ?_)
  dsimp only
  refine wp_if_neg (by simp [byScan, hs]) ?_
  try refine wpAny_bind (wpAny_pure ?_)
  refine wpAny_bind (search0 ho hd ?_)
  dsimp only
  refine wpAny_bind (wpAny_setState_of ho hd fits0 ?_)
  rw [put0]
  dsimp only
  refine wp_if_pos rfl ?_
  refine wpAny_bind (hb _ fun pl => ?_)
  rw [show (if pl = true then (⟨7, #[((t0 b).probeStart hh).j], #[], 0, b, 0, true⟩ : SetTable) else ⟨7, #[((t0 b).probeStart hh).j], #[], 0, b, 0, false⟩) = t1 b hh pl by cases pl <;> rfl]
  refine wpAny_bind (wpAny_storeSet_of ho hd ?_ (by rw [show SetTable.insertAt #[] 0 (hh, x) = #[(hh, x)] from rfl, sizeLine_eq]; show 1 ≤ _; omega))
  refine wp_if_neg (full0 _ _) ?_
  exact wpAny_pure (h pl)
/-! ### a tuple of texts -/
abbrev IsS (P : Program) (w : World) (h : Heap) (zs : List Str) (c : Addr) : Prop := IsTupleKey (PySem.strKind P w) h zs c
theorem items_str : ∀ {zs : List Str} {vs : List Value}, ItemsAre (PySem.strKind P w) zs vs → ∀ v ∈ vs, ∃ z t, v = Value.str z t
  | _, _, .nil, v, hv => by cases hv
  | _, _, .cons (v := u) h1 t, v, hv => by
    rcases List.mem_cons.mp hv with q | q
    · subst q
      cases v with
      | str z t => exact ⟨z, t, rfl⟩
      | _ => simp [PySem.strKind, Value.isStrOf] at h1
    · exact items_str t v q
theorem hashBy_tupS {zs : List Str} {c : Addr} {Q : Bool → Shared → Prop} (hk : IsS P w s.heap zs c) (h : ∀ r, Q r s) : wpAny (model P w) A (hashByValue 8 (.ref c)) Q E s := by
  have ty := hk.typeIs
  obtain ⟨ob, items, n, ho, _, hd, hi⟩ := hk
  unfold hashByValue
  refine wpAny_bind (wpAny_specialOf ty F.slot_tuple_hash.lookup ?_)
  show wpAny _ _ (seqItems? (.ref c) >>= _) _ _ s
  refine wpAny_bind (wpAny_seqItems ho hd ?_)
  refine wpAny_bind ?_
  show wpAny _ _ (forIn items _ _) _ _ s
  rw [← Array.forIn_toList]
  refine wpAny_forIn_list _ (fun rest r s2 => s2 = s ∧ ∀ v ∈ rest, ∃ z t, v = Value.str z t) _ ?_ ?_ _ _ ⟨rfl, items_str hi⟩
  · rintro v rest r s2 ⟨rfl, all⟩
    obtain ⟨z, t, rfl⟩ := all v List.mem_cons_self
    rw [show hashByValue 7 (.str z t) = pure false from by unfold hashByValue; rfl]
    refine wpAny_bind (wpAny_pure ?_)
    simp only [Bool.not_false, if_true]
    exact wpAny_pure (wpAny_pure (h _))
  · rintro ⟨r1, r2⟩ s2 ⟨rfl, _⟩
    cases r1 with
    | none => exact wpAny_pure (h _)
    | some v => exact wpAny_pure (h _)
/-- the set at S holds these values, one at most -/
structure SetOne (w : World) (h : Heap) (S : Addr) (vs : List Value) : Prop where
  ex : ∃ o es ep t, h.get? S = some o ∧ o.cls = .type "set" ∧ o.data = .set es ep t ∧ es.toList.map (·.2) = vs ∧ t.fits es.size = true ∧ Ris t.place.toList ∧ (w.params.followText "set-order" = true ∨ t.led = true) ∧ es.size ≤ 1
abbrev sObj (w : World) : Obj := { cls := .type "set", dict := none, data := .set #[] 0 (.fresh 0 0 (!w.params.followText "set-order")) }
theorem led0 (w : World) : w.params.followText "set-order" = true ∨ (!w.params.followText "set-order") = true := by
  cases w.params.followText "set-order"
  · exact .inr rfl
  · exact .inl rfl
theorem setOne_nil {h : Heap} {S : Addr} (e : h.get? S = some (sObj w)) : SetOne w h S [] := ⟨_, _, _, _, e, rfl, rfl, rfl, rfl, List.Pairwise.nil, led0 w, Nat.zero_le _⟩
theorem setOne_put {h : Heap} {S : Addr} {v : Value} {n : Int} {pl : Bool} (e : h.get? S = some (sObj w)) : SetOne w (h.update S (Obj.putSet #[(n, v)] (t1 (!w.params.followText "set-order") n pl))) S [v] := by
  have q := store_at (es' := #[(n, v)]) (t' := t1 (!w.params.followText "set-order") n pl) e rfl
  refine ⟨_, _, _, _, q, rfl, rfl, rfl, rfl, ?_, led0 w, Nat.le_refl _⟩
  exact List.pairwise_singleton _ _
/-- the loop's end -/
theorem upd_end {I S : Addr} {fp wr : List Addr} {G : Array GenState → Array GenState → Prop} {n : Nat} {Pv : Nat → Value → Prop} {St : Nat → Shared → Prop} {R : Result → Shared → Prop} (W : WalksS P w A.in1 I fp wr G n Pv St) (hst : St n s) (hR : ∀ s2, Moved wr G s s2 → R (.ok (.ret .none)) s2) :
    codeAny (model P w) A (.builtin "set.update.loop" ⟨[.ref S, .ref I], []⟩) R s := by
  refine codeAny_builtin F.entry_set_update_loop ?_
  rw [Around.under_plainId F.plain_set_update_loop _]
  show wpAny _ A.in1 (pyNext (.ref I) >>= _) _ _ s
  refine wpAny_bind (W.done s _ _ hst fun s2 mv => ?_)
  show wpAny _ A.in1 (ret Value.none) _ _ s2
  exact wpAny_pure (hR s2 mv)
/-- the loop over one -/
theorem upd_one {I S : Addr} {fp wr : List Addr} {G : Array GenState → Array GenState → Prop} {Pv : Nat → Value → Prop} {St : Nat → Shared → Prop} {R : Result → Shared → Prop} (W : WalksS P w A.in1 I fp wr G 1 Pv St) (hSf : S ∉ fp) {c : Addr} {zs : List Str} (hv : ∀ v, Pv 0 v → v = .ref c) {h0 : Heap} (hk : IsS P w h0 zs c) (hS0 : h0.get? S = none) (hw0 : ∀ q ∈ wr, h0.get? q = none) (hu : A.in1.units < cLine)
    (hst : St 0 s) (hkp : ∀ q o, h0.get? q = some o → s.heap.get? q = some o) (hS : s.heap.get? S = some (sObj w)) (hR : ∀ s2, G s.gens s2.gens → s2.drawn = s.drawn → s2.os = s.os → SetOne w s2.heap S [.ref c] → (∀ q o, h0.get? q = some o → s2.heap.get? q = some o) → R (.ok (.ret .none)) s2) :
    codeAny (model P w) A (.builtin "set.update.loop" ⟨[.ref S, .ref I], []⟩) R s := by
  have hSw : S ∉ wr := fun q => hSf (W.sub _ q)
  have kp : ∀ {u u2 : Shared}, Moved wr G u u2 → (∀ q o, h0.get? q = some o → u.heap.get? q = some o) → ∀ q o, h0.get? q = some o → u2.heap.get? q = some o := fun mv k q o e =>
    mv.heap q o (fun z => by rw [hw0 q z] at e; cases e) (k q o e)
  refine codeAny_builtin F.entry_set_update_loop ?_
  rw [Around.under_plainId F.plain_set_update_loop _]
  show wpAny _ A.in1 (pyNext (.ref I) >>= _) _ _ s
  refine wpAny_bind (W.item 0 s _ _ Nat.zero_lt_one hst fun v s2 pv st2 mv => ?_)
  cases hv v pv
  have k2 := kp mv hkp
  have S2 := mv.heap S _ hSw hS
  obtain ⟨ox, its, nx, ho, hx⟩ := hk
  have hx2 : IsS P w s2.heap zs c := ⟨ox, its, nx, k2 c ox ho, hx⟩
  show wpAny _ A.in1 (holding [Value.ref c] (setAdd S (.ref c)) >>= _) _ _ s2
  refine wpAny_bind (wpAny_holding ?_)
  unfold setAdd
  refine wpAny_holding ?_
  refine wpAny_bind (wpAny_pyHash_tuple hu hx2 ?_)
  refine add0 (s := { s2 with toks := s2.toks + (zs.length + 1) }) S2 rfl rfl (fun Q h => hashBy_tupS hx2 h) fun pl => ?_
  have k3 : ∀ q o, q ≠ S → s2.heap.get? q = some o → (s2.heap.update S (Obj.putSet #[(tupleKeyHash (PySem.strKind P w) zs, Value.ref c)] (t1 (!w.params.followText "set-order") (tupleKeyHash (PySem.strKind P w) zs) pl))).get? q = some o := fun q o hq e => by
    rw [(Heap.SameBut.update ..).2 q hq]; exact e
  refine wpAny_pure ⟨plainId_quiet F.plain_set_update_loop _, ?_⟩
  refine upd_end W (W.frame 1 s2 _ _ st2 (Nat.le_add_right _ _) fun q hq o e => k3 q o (fun z => hSf (z ▸ hq)) e) fun s3 mv3 => ?_
  refine hR s3 (W.gtrans _ _ _ mv.gens mv3.gens) (mv3.drawn.trans mv.drawn) (mv3.os.trans mv.os) ?_ fun q o e => ?_
  · obtain ⟨o3, es, ep, t, e1, e2⟩ := (setOne_put (n := tupleKeyHash (PySem.strKind P w) zs) (v := .ref c) (pl := pl) S2).ex
    exact ⟨o3, es, ep, t, mv3.heap S _ hSw e1, e2⟩
  · refine mv3.heap q o (fun z => by rw [hw0 q z] at e; cases e) (k3 q o (fun z => by rw [z, hS0] at e; cases e) (k2 q o e))
/-- set(xs), xs a list of no or one tuple of texts -/
theorem call_set01 {l : Addr} {items : Array Value} {Q : Value → Shared → Prop} (hh : A.handled = none) (hl : s.heap.IsList l items) (h1 : items = #[] ∨ ∃ c zs, items = #[Value.ref c] ∧ IsS P w s.heap zs c) (hu : A.units + 3 < cLine)
    (h : ∀ (h2 : Heap) (tk : Nat), SetOne w h2 s.heap.objs.size items.toList → (∀ q o, s.heap.get? q = some o → h2.get? q = some o) → Q (.ref s.heap.objs.size) { s with heap := h2, toks := tk }) :
    wpAny (model P w) A (call (.type "set") [.ref l]) Q E s := by
  obtain ⟨cc, tl, hmro⟩ := F.called_set.mro
  have hmade := F.called_set.made
  have hsub := F.called_set.sub
  refine wpAny_call (codeAny_of_tree ?_)
  show wpAny _ _ (callAny (.type "set") _) _ _ _
  refine wpAny_pure ⟨Code.quiet_builtin _ (by decide +kernel), codeAny_builtin F.entry_type_call ?_⟩
  rw [Around.under_plain (weight_type_call_type "set" [.ref l] []) rfl]
  have q1 := F.called_set.notType
  have q2 := F.called_set.canCreate
  have q3 := F.typeCall_set_1 (.ref l)
  repeat (any_goals (first | assumption | wp_step))
  refine codeAny_mono (code_set_led1 (.ref l) (E := E) (Q₁ := fun ob s2 => ob = .ref s.heap.objs.size ∧ s2 = { s with heap := s.heap.push (sObj w) }) ⟨rfl, rfl⟩) fun r s2 hr => ?_
  cases r with
  | error e => exact hr
  | ok fl =>
    cases fl with
    | ret ob =>
      obtain ⟨rfl, rfl⟩ := hr
      have hS : (s.heap.push (sObj w)).get? s.heap.objs.size = some (sObj w) := Heap.get?_push_size _ rfl
      have hT : Shared.TypeIs { s with heap := s.heap.push (sObj w) } (.ref s.heap.objs.size) "set" := ⟨_, hS, rfl⟩
      have hli := F.called_set.init.lookup
      have hbi := F.called_set.init.bind (.ref s.heap.objs.size)
      repeat (any_goals (first | assumption | wp_step))
      refine codeAny_mono (codeAny_call_builtin (R := wants (fun r s3 => r = .none ∧ ∃ h2 tk, s3 = { s with heap := h2, toks := tk } ∧ SetOne w h2 s.heap.objs.size items.toList ∧
          (∀ q o, s.heap.get? q = some o → h2.get? q = some o)) E) F.called_set.init.plain F.entry_set_init (check_set_init_1 hT ?_)) fun r2 s3 hr2 => ?_
      · obtain ⟨ol, hol, hcl, nl, hdl⟩ := hl
        obtain ⟨ocls, odict, odata, oslots⟩ := ol
        simp only at hcl hdl
        subst hcl; subst hdl
        have hol2 : (s.heap.push (sObj w)).get? l = some { cls := .type "list", dict := odict, data := .seq items nl, slots := oslots } := Heap.get?_push_of_some _ hol
        have f1 := F.sub_list_set
        have f2 := F.sub_list_frozenset
        have f3 : (Value.type "list" == Value.type "dict") = false := by decide
        have hl1 : (s.heap.push (sObj w)).IsList l items := ⟨_, hol2, rfl, nl, rfl⟩
        unfold Builtin.«set.__init__» noKeywords Builtin.Frozenset.updateFrom
        generalize hPI : pyIter = PI
        wp_walk
        subst hPI
        refine wpAny_pyIter_list hl1 ?_
        refine wpAny_bind (wpAny_runValue ?_)
        have hlS : l < s.heap.objs.size := Heap.lt_size hol
        have f4 : A.in1.in1.in1.handled = none := by simp [hh]
        have hneI : l ≠ (s.heap.push (sObj w)).objs.size := by
          rw [Heap.size_push]; exact Nat.ne_of_lt (Nat.lt_succ_of_lt hlS)
        have hSf : s.heap.objs.size ∉ [(s.heap.push (sObj w)).objs.size, l] := by
          rw [Heap.size_push]; simp only [List.mem_cons, List.mem_singleton, List.not_mem_nil, or_false, not_or]
          exact ⟨Nat.ne_of_lt (Nat.lt_succ_self _), Nat.ne_of_gt hlS⟩
        have none_of : ∀ q, s.heap.objs.size ≤ q → s.heap.get? q = none := fun q hq => by
          cases z : s.heap.get? q with
          | none => rfl
          | some o => exact absurd (Nat.lt_of_lt_of_le (Heap.lt_size z) hq) (Nat.lt_irrefl _)
        have W := (Walks.list (prog := P) (w := w) f4 _ l hneI items).toS
        have hit : ((s.heap.push (sObj w)).push { cls := .type "list_iterator", data := .fields #[.ref l, .int 0 0] }).get? s.heap.objs.size = some (sObj w) := Heap.get?_push_of_some _ hS
        have old : ∀ q o, s.heap.get? q = some o → ((s.heap.push (sObj w)).push { cls := .type "list_iterator", data := .fields #[.ref l, .int 0 0] }).get? q = some o := fun q o e => Heap.get?_push_of_some _ (Heap.get?_push_of_some _ e)
        rcases h1 with rfl | ⟨c, zs, rfl, hk⟩
        · refine upd_end W ⟨⟨_, Heap.get?_push_size _ rfl, rfl, rfl⟩, (hl1.push _)⟩ fun s4 mv => ?_
          have hSw : s.heap.objs.size ∉ [(s.heap.push (sObj w)).objs.size] := fun z => hSf (List.mem_cons.mpr (.inl (List.mem_singleton.mp z)))
          have e1 := mv.heap _ _ hSw hit
          have e2 : ∀ q o, s.heap.get? q = some o → s4.heap.get? q = some o := fun q o e => mv.heap q o (fun z => by
            rw [List.mem_singleton.mp z, none_of _ (by rw [Heap.size_push]; exact Nat.le_succ _)] at e; cases e) (old q o e)
          have e3 : s4.gens = s.gens := mv.gens
          have e4 : s4.drawn = s.drawn := mv.drawn
          have e5 : s4.os = s.os := mv.os
          obtain ⟨h4, g4, d4, t4, o4⟩ := s4
          subst e3; subst e4; subst e5
          show wpAny _ _ _ _ _ _
          refine wpAny_pure ?_
          show wpAny _ _ (ret Value.none) _ _ _
          exact wpAny_pure ⟨rfl, h4, t4, rfl, setOne_nil e1, e2⟩
        · refine upd_one W hSf (c := c) (zs := zs) (fun v hv => (Option.some.inj hv).symm) hk (none_of _ (Nat.le_refl _)) (fun q hq => none_of q (by rw [List.mem_singleton.mp hq, Heap.size_push]; exact Nat.le_succ _)) hu ⟨⟨_, Heap.get?_push_size _ rfl, rfl, rfl⟩, (hl1.push _)⟩ old hit fun s4 e3 e4 e5 e1 e2 => ?_
          obtain ⟨h4, g4, d4, t4, o4⟩ := s4
          have e3' : g4 = s.gens := e3
          have e4' : d4 = s.drawn := e4
          have e5' : o4 = s.os := e5
          subst e3'; subst e4'; subst e5'
          show wpAny _ _ _ _ _ _
          refine wpAny_pure ?_
          show wpAny _ _ (ret Value.none) _ _ _
          exact wpAny_pure ⟨rfl, h4, t4, rfl, e1, e2⟩
      · cases r2 with
        | error e => exact hr2
        | ok fl2 =>
          cases fl2 with
          | ret r =>
            obtain ⟨rfl, h2, tk, rfl, hS2, hk2⟩ := hr2
            repeat (any_goals (first | assumption | wp_step))
            exact h _ _ hS2 hk2
          | _ => exact hr2.elim
    | _ => exact hr.elim
end
end DL

end
section
set_option Elab.async false
set_option linter.all false
set_option maxRecDepth 100000
set_option maxHeartbeats 4000000
set_option autoImplicit false
/-! DL14: sorted of a set of at most one value. -/
namespace DL
open PySem PySem.Spec L2 PyProof.Rows
section
variable {P : Program} {w : World} {A : Around} {E : Value → Shared → Prop} {s : Shared}
theorem few_eq {α : Type} {out vs : List α} (h1 : out.length = vs.length) (h2 : ∀ v ∈ out, v ∈ vs) (hl : vs.length ≤ 1) : out = vs := by
  match vs, out with
  | [], [] => rfl
  | [v], [u] => rw [List.mem_singleton.mp (h2 u (List.mem_singleton.mpr rfl))]
  | [], _ :: _ => simp at h1
  | [_], [] => simp at h1
  | [_], _ :: _ :: _ => simp at h1
  | _ :: _ :: _, _ => simp at hl
/-- sorted(set) of no or one value that holds data -/
theorem sorted_one {S : Addr} {vs : List Value} {ds : List PyData} {Q : Value → Shared → Prop} (R : SetOne w s.heap S vs) (hh : A.handled = none) (hl : vs.length ≤ 1) (er : PySem.W.EachIs (fun v d => ∃ as, Reads s.heap v d as) vs ds) (al : PySem.W.AllAlike ds) (so : PySem.W.Sortable ds) (hu : ∀ d ∈ ds, A.units + 2 + d.depth < cLine)
    (hQ : ∀ (s2 : Shared) (p : Addr) (c : Nat), (∀ q o, s.heap.get? q = some o → s2.heap.get? q = some o) → s2.gens = s.gens → s2.os = s.os → s.heap.objs.size ≤ p → s2.heap.get? p = some (seqObj "list" vs.toArray c) → Q (.ref p) s2) :
    wpAny (model P w) A (call (.builtin "sorted") [.ref S]) Q E s := by
  obtain ⟨o, es, ep, t, ho, hc, hd, hv, hf, hr, hled, hz⟩ := R.ex
  refine call_function_entry_kw kind_sorted plain_sorted entry_sorted (args_sorted1 _) ?_
  unfold Builtin.«sorted»
  refine wpAny_bind (m := checkCount "sorted" 1 1 _) (wpAny_pure ?_)
  refine wpAny_bind (collect_set (A := A.in1) hh ⟨o, ho, hc, hd⟩ hf (by unfold scanBound; omega) hr hled fun s1 out k1 hz1 g1 o1 pm => ?_)
  rw [hv] at pm
  have hout : out = vs := few_eq pm.length_eq (fun v hv => pm.mem_iff.mp hv) hl
  subst hout
  have hL : out.length ≤ sizeLine := by rw [sizeLine_eq]; omega
  refine wpAny_bind (wpAny_newList ?_ hL)
  have hoL : (s1.heap.push (seqObj "list" out.toArray 0)).get? s1.heap.objs.size = some (seqObj "list" out.toArray 0) := Heap.get?_push_size _ rfl
  have old : ∀ q o, s.heap.get? q = some o → (PySem.W.sortingHeap (s1.heap.push (seqObj "list" out.toArray 0)) s1.heap.objs.size out).get? q = some o := fun q o e => by
    have e1 := k1 q o e
    exact PySem.W.sortingHeap_old (Nat.ne_of_lt (Heap.lt_size e1)) (Heap.get?_push_of_some _ e1)
  have er2 : PySem.W.EachIs (fun v d => ∃ as, Reads (PySem.W.sortingHeap (s1.heap.push (seqObj "list" out.toArray 0)) s1.heap.objs.size out) v d as) out ds := er.mono fun _ _ ⟨as, r⟩ => ⟨as, PyProof.Rows.Reads.keeps (fun q o e => old q o e) r⟩
  have St := PySem.W.SortsAt.data (prog := P) (w := w) (A := A.in1.in1) (s := { s1 with heap := PySem.W.sortingHeap (s1.heap.push (seqObj "list" out.toArray 0)) s1.heap.objs.size out }) er2 al so (fun d hd => by
    have := hu d hd
    exact this)
  refine wpAny_bind (wpAny_holding (wpAny_call_entry_kw slot_list_sort ⟨_, hoL, rfl⟩ entry_list_sort ?body (args_list_sort _)))
  case body =>
    refine wpAny_mono (PySem.W.list_sort_vals (A := A.in1.in1) (E := fun _ _ => False) (P := fun f s' => f = .done (.ret .none) ∧ Q (.ref s1.heap.objs.size) s') (s := { s1 with heap := s1.heap.push (seqObj "list" out.toArray 0) }) hoL St hL ⟨rfl, ?_⟩) (fun f s' ⟨hf, hq⟩ => by subst hf; exact ⟨_, rfl, wpAny_pure ⟨_, rfl, hq⟩⟩) fun _ _ z => z.elim
    have e2 : ∀ κ, PySem.W.sortVals κ false out out = out := fun κ => few_eq (PySem.W.sortVals_length false rfl) (fun v hv => PySem.W.sortVals_mem false hv) hl
    rw [e2]
    obtain ⟨c, hat⟩ := sortedHeap_at (vs := out) (out := out.toArray) hoL
    refine hQ _ _ c (fun q o e => ?_) g1 o1 hz1 hat
    have e1 := k1 q o e
    have hlt := Heap.lt_size e1
    show (sortedHeap _ _ _ _).get? q = some o
    rw [sortedHeap_old (Nat.ne_of_lt hlt) (by rw [Heap.size_push]; exact Nat.lt_succ_of_lt hlt)]
    exact Heap.get?_push_of_some _ e1
end
end DL

end
section
set_option Elab.async false
set_option linter.all false
set_option maxRecDepth 100000
set_option maxHeartbeats 4000000
set_option autoImplicit false
/-! DL15: sorted(set(..)) of at most one tuple of texts, as an expression. -/
namespace DL
open PySem PySem.Spec L2 PyProof.Rows
def rSortSet (K : PySem.W.Frag) : V → Hp → VK → Prop := fun x H1 Q => ∃ (l : Addr) (xs : List V) (ds : List PyData), x = V.ref l ∧ SqL K H1 l xs ∧ (xs = [] ∨ ∃ (c : Addr) (zs : List Str), xs = [V.ref c] ∧ SqT K H1 c (zs.map V.str)) ∧ DpAll K H1 xs ds ∧ PySem.W.AllAlike ds ∧ PySem.W.Sortable ds ∧ PyData.depthAll ds ≤ 50 ∧ ∀ p, H1 p = none → Q (.ref p) (upd H1 p (.lst xs))
def tSortSet (K : PySem.W.Frag) (ta : TE) : TE := fun σ H Q => ta σ H fun x H1 => rSortSet K x H1 Q
theorem items_of_strs {P : Program} {w : World} : ∀ {k : List Str} {us : List Value}, Vals (k.map V.str) us → ItemsAre (PySem.strKind P w) k us
  | [], _, .nil => .nil
  | n :: k, _, .cons r t => by
    obtain ⟨tk, rfl⟩ := r
    exact .cons (by simp [PySem.strKind, Value.isStrOf]) (items_of_strs t)
section
variable {X : Cx}
theorem inv_isS {pins : List (Addr × Obj)} {σ : L2.St} {H : Hp} {s : Shared} {b : Addr} {k : List Str} (I : Inv X pins σ H s) (h : SqT X.K H b (k.map V.str)) : IsS X.prog X.w s.heap k b := by
  obtain ⟨its, r, ⟨o, ho, hc, n, hd⟩, _⟩ := I.tuple h
  exact ⟨o, its.toArray, n, ho, hc, hd, by simpa using items_of_strs r⟩
theorem sorted_step {pins : List (Addr × Obj)} {σ : L2.St} {H1 : Hp} {t : Shared} {S : Addr} {xs : List V} {its : List Value} {ds : List PyData} {Q : VK} (hc : X.calm = true) (hu : X.A.units + 64 < cLine) (I2 : Inv X pins σ H1 t) (hS : SetOne X.w t.heap S its) (r : Vals xs its) (hlen : its.length ≤ 1) (dp : DpAll X.K H1 xs ds) (al : PySem.W.AllAlike ds) (so : PySem.W.Sortable ds) (hd : PyData.depthAll ds ≤ 50) (q1 : ∀ p, H1 p = none → Q (.ref p) (upd H1 p (.lst xs))) :
    wpAny (model X.prog X.w) X.A (call (.builtin "sorted") [.ref S]) (EP X pins σ Q) X.xe t := by
  obtain ⟨as, hr⟩ := Dp.readsAll I2 _ _ _ dp r
  have er := PySem.W.readsAll_each (bs := ds) id (by rw [List.map_id]; exact hr)
  refine sorted_one hS (I2.ok.hd hc) hlen er al so (fun d hd' => ?_) fun s2 p0 c hk2 g2 o2 hp2 hat => ?_
  · have := depth_each hd'
    omega
  · have hn : H1 p0 = none := I2.hok.fresh hp2
    have hlen2 : xs.length ≤ sizeLine := by rw [r.length, sizeLine_eq]; omega
    have J : Inv X pins σ (upd H1 p0 (.lst xs)) { t with heap := s2.heap, gens := s2.gens, drawn := s2.drawn, toks := s2.toks } :=
      I2.call (ch := []) (Un.laid hk2 hp2 hn) (I2.hok.laid hk2 hp2 ⟨hlen2, its, c, r, hat⟩) (by rw [g2]; exact I2.bare) (fun _ z => nomatch z)
    have e : s2 = { t with heap := s2.heap, gens := s2.gens, drawn := s2.drawn, toks := s2.toks } := by
      cases s2
      cases t
      cases o2
      rfl
    rw [e]
    exact ⟨.ref p0, _, J, rfl, q1 _ hn⟩
theorem pe_sortSet {a : Expr} {ta : TE} {p p2 q pos : Pos} (hc : X.calm = true) (hu : X.A.units + 64 < cLine) (hg : Gl X "sorted") (hm : X.mg "sorted" = none) (hg2 : Gl X "set") (hm2 : X.mg "set" = none) (ha : PE X a ta)
    (na : starEach [a] X.env = (false, eval a X.env) :: starEach [] X.env := by rfl) : PE X (.Call (.Name "sorted" p) [.Call (.Name "set" p2) [a] [] q] [] pos) (tSortSet X.K ta) := by
  refine ⟨fun pins s σ H Q I h => ?_⟩
  refine Call_ (ld_blt I hg hm PyProof.Rows.boot_sorted ?_)
  refine PyProof.Rows.callWith_builtin1 (PyProof.Rows.args_cons ?_ rfl) rfl rfl
  refine Call_ (ld_blt I hg2 hm2 PyProof.Rows.boot_set ?_)
  refine PyProof.Rows.callWith_type1 (PyProof.Rows.args_cons (thn (ha.run pins s σ H _ I h) fun v s1 ⟨x, H1, I1, r1, q1⟩ => PyProof.Rows.args_nil ?_) na) na rfl
  obtain ⟨l, xs, ds, rfl, hq, h1, dp, al, so, hd, q1⟩ := q1
  cases r1
  obtain ⟨its, r, pl, hz⟩ := I1.list hq
  have hlen : its.length ≤ 1 := by
    rw [← r.length]
    rcases h1 with rfl | ⟨c, zs, rfl, _⟩ <;> simp
  have h1' : its.toArray = #[] ∨ ∃ c zs, its.toArray = #[Value.ref c] ∧ IsS X.prog X.w s1.heap zs c := by
    rcases h1 with rfl | ⟨c, zs, rfl, hs⟩
    · cases r; exact .inl rfl
    · obtain ⟨u, rfl, ru⟩ := Vals.one r
      cases ru
      exact .inr ⟨c, zs, rfl, inv_isS I1 hs⟩
  refine call_set01 (I1.ok.hd hc) pl.isList h1' (by omega) fun h2 tk hS hk => ?_
  have I2 : Inv X pins σ H1 { s1 with heap := h2, toks := tk } := I1.kept hk
  refine PyProof.Rows.args_nil ?_
  have hS' : SetOne X.w ({ s1 with heap := h2, toks := tk } : Shared).heap s1.heap.objs.size its := by simpa using hS
  exact sorted_step hc hu I2 hS' r hlen dp al so hd q1
end
section
variable {C : Cn} {e : Expr} {p q p2 pos : Pos} {A : DE}
theorem und_sortSet {K : PySem.W.Frag} {W : XK} : UnD K W (rSortSet K) sortSetD := by
  intro μ H m x dx Q R r1 q
  unfold sortSetD at q
  cases e1 : lstOf m dx with
  | none => rw [e1] at q; exact q.elim
  | some ds =>
    rw [e1] at q
    obtain ⟨ad, xs, rfl, rr, s⟩ := lstOf_ok R r1 e1
    split at q
    · rename_i h2
      cases h2
      cases rr
      exact ⟨ad, [], [], rfl, s, .inl rfl, .nil, (by intro d hd; cases hd), .inr (by intro d hd; cases hd), Nat.zero_le _, fun p hp => (q _ _ _ ((ext_fresh hp).trans ext_snoc) (rel_lst R hp .nil) (rv_new R))⟩
    · rename_i a b h2
      cases h2
      cases rr with
      | cons r0 rt =>
        cases rt
        cases r0 with
        | @tup c ys _ st rs =>
          cases rs with
          | cons ra rs =>
            cases ra
            cases rs with
            | cons rb rs =>
              cases rb
              cases rs
              refine ⟨ad, [V.ref c], [.tuple [.str a, .str b]], rfl, s, .inr ⟨c, [a, b], rfl, st⟩, .cons (.tup st (.cons (.str a) (.cons (.str b) .nil))) .nil, ?_, ?_, ?_, fun p hp => (q _ _ _ ((ext_fresh hp).trans ext_snoc) (rel_lst R hp (.cons (.tup st (.cons (.str a) (.cons (.str b) .nil))) .nil)) (rv_new R))⟩
              · intro x hx y hy
                rw [List.mem_singleton.mp hx, List.mem_singleton.mp hy]
                simp [PySem.W.alike, PySem.W.alikeAll]
              · exact .inl fun d hd => ⟨_, _, List.mem_singleton.mp hd⟩
              · simp [PyData.depthAll, PyData.depth]
    · exact q.elim
theorem se_sortSet (hm : C.mg "sorted" = none) (hm2 : C.mg "set" = none) (ha : SE C e A) (hg : Gb C "sorted" := by rfl) (hg2 : Gb C "set" := by rfl) (hs : ∀ env, starEach [e] env = (false, eval e env) :: starEach [] env := by intro _; rfl) : SE C (.Call (.Name "sorted" p) [.Call (.Name "set" p2) [e] [] q] [] pos) (eUn sortSetD A) := by
  obtain ⟨t, pa, da⟩ := ha
  exact ⟨tSortSet C.K t, fun X hX => by rw [← hX.K]; exact pe_sortSet hX.calm (room64 hX) (hg.gl hX) (by rw [hX.mg]; exact hm) (hg2.gl hX) (by rw [hX.mg]; exact hm2) (pa X hX) (hs X.env), sd_un (r := rSortSet C.K) und_sortSet da⟩
end
end DL

end
section
set_option Elab.async false
set_option linter.all false
set_option maxRecDepth 100000
set_option maxHeartbeats 4000000
set_option autoImplicit false

/-! Plain laws over D-terms: running them. -/
namespace DL
open PySem PySem.Spec L2

section sat
variable {α β : Type} {o : Out α} {m : Mem}
def Out.sat (o : Out α) (P : α → Mem → Prop) : Prop := match o with
  | .ok a m => P a m
  | _ => False
@[simp] theorem sat_ok (a : α) (m : Mem) (P : α → Mem → Prop) : (Out.ok a m).sat P = P a m := id rfl
@[simp] theorem sat_bad (P : α → Mem → Prop) : (Out.bad : Out α).sat P = False := id rfl
@[simp] theorem sat_bind (o : Out α) (f : α → Mem → Out β) (P : β → Mem → Prop) : (o.bind f).sat P = o.sat fun a m => (f a m).sat P := by cases o <;> rfl
@[simp] theorem sat_nox (o : Out α) (P : α → Mem → Prop) : o.nox.sat P = o.sat P := by cases o <;> rfl
@[simp] theorem sat_ite (c : Prop) [Decidable c] (o o' : Out α) (P : α → Mem → Prop) : (if c then o else o').sat P = if c then o.sat P else o'.sat P := by split <;> rfl
theorem Out.sat.mono {P Q : α → Mem → Prop} (h : o.sat P) (k : ∀ a m, P a m → Q a m) : o.sat Q := by
  cases o with
  | ok a m => exact k a m h
  | _ => exact h
theorem Out.sat.ex {P : α → Mem → Prop} (h : o.sat P) : ∃ a m, o = .ok a m ∧ P a m := by
  cases o with
  | ok a m => exact ⟨a, m, rfl, h⟩
  | _ => exact h.elim
theorem Out.sat.eq {a : α} {m : Mem} (h : o.sat fun b m' => b = a ∧ m' = m) : o = .ok a m := by
  obtain ⟨b, m', e, rfl, rfl⟩ := h.ex
  exact e
end sat

/-- short enough for one sequence -/
def szOk (n : Nat) : Bool := decide (n ≤ 16777216)
theorem szOk_iff (n : Nat) : szOk n = true ↔ n ≤ 16777216 := by unfold szOk; exact decide_eq_true_iff
theorem szOk_of {n : Nat} (h : n ≤ 1000000) : szOk n = true := (szOk_iff n).mpr (Nat.le_trans h (by omega))
@[simp] theorem szOk_0 : szOk 0 = true := szOk_of (by omega)
@[simp] theorem szOk_1 : szOk 1 = true := szOk_of (by omega)
@[simp] theorem szOk_2 : szOk 2 = true := szOk_of (by omega)
@[simp] theorem szOk_3 : szOk 3 = true := szOk_of (by omega)
@[simp] theorem szOk_4 : szOk 4 = true := szOk_of (by omega)
@[simp] theorem szOk_5 : szOk 5 = true := szOk_of (by omega)
@[simp] theorem szOk_6 : szOk 6 = true := szOk_of (by omega)
@[simp] theorem szOk_7 : szOk 7 = true := szOk_of (by omega)
@[simp] theorem szOk_8 : szOk 8 = true := szOk_of (by omega)
@[simp] theorem szOk_9 : szOk 9 = true := szOk_of (by omega)
@[simp] theorem szOk_10 : szOk 10 = true := szOk_of (by omega)
@[simp] theorem szOk_11 : szOk 11 = true := szOk_of (by omega)
@[simp] theorem szOk_12 : szOk 12 = true := szOk_of (by omega)
@[simp] theorem szOk_13 : szOk 13 = true := szOk_of (by omega)
@[simp] theorem szOk_14 : szOk 14 = true := szOk_of (by omega)
@[simp] theorem szOk_15 : szOk 15 = true := szOk_of (by omega)
@[simp] theorem szOk_16 : szOk 16 = true := szOk_of (by omega)
@[simp] theorem szOk_17 : szOk 17 = true := szOk_of (by omega)
@[simp] theorem szOk_18 : szOk 18 = true := szOk_of (by omega)
@[simp] theorem szOk_19 : szOk 19 = true := szOk_of (by omega)
@[simp] theorem szOk_20 : szOk 20 = true := szOk_of (by omega)
@[simp] theorem szOk_21 : szOk 21 = true := szOk_of (by omega)
@[simp] theorem szOk_22 : szOk 22 = true := szOk_of (by omega)
@[simp] theorem szOk_23 : szOk 23 = true := szOk_of (by omega)
@[simp] theorem szOk_24 : szOk 24 = true := szOk_of (by omega)
section run
variable {A B D : DE} {As : DA} {S S' : DS} {T U : DT} {env : Env} {m : Mem}
@[simp] theorem eVar_eq (i : Nat) : eVar i env m = match env[i]? with | some (some d) => .ok d m | _ => .bad := id rfl
@[simp] theorem eC_eq (d : DV) : eC d env m = .ok d m := id rfl
@[simp] theorem eBin_eq (f : D2) : eBin f A B env m = (A env m).bind fun x m1 => (B env m1).bind fun y m2 => f x y m2 := id rfl
@[simp] theorem eUn_eq (f : D1) : eUn f A env m = (A env m).bind f := id rfl
@[simp] theorem tst_bl {c : Bool} (h : A env m = .ok (.bl c) m) : tst A env m = .ok c m := by unfold tst; rw [h]; rfl
@[simp] theorem tst_sat (P : Bool → Mem → Prop) : (tst A env m).sat P = (A env m).sat fun x m1 => match x with | .bl c => P c m1 | _ => False := by
  unfold tst; rw [sat_bind]; congr; funext x m1; cases x <;> rfl
@[simp] theorem iOp_eq (h : Int → Int → DV) (i j : Int) : iOp h (.int i) (.int j) m = .ok (h i j) m := id rfl
@[simp] theorem iOpC_eq (c : Int → Int → Prop) [∀ i j, Decidable (c i j)] (h : Int → Int → DV) (i j : Int) : iOpC c h (.int i) (.int j) m = if c i j then .ok (h i j) m else .bad := id rfl
@[simp] theorem tAnd_eq : tAnd' T U env m = (T env m).bind fun x m1 => if x then U env m1 else .ok false m1 := id rfl
@[simp] theorem tOr_eq : tOr' T U env m = (T env m).bind fun x m1 => if x then .ok true m1 else U env m1 := id rfl
@[simp] theorem tNot_eq : tNot' T env m = (T env m).bind fun x m1 => .ok (!x) m1 := id rfl
@[simp] theorem eAndV_sat (P : DV → Mem → Prop) : (eAndV A B env m).sat P = (A env m).sat fun x m1 => match x with | .bl true => (B env m1).sat P | .bl false => P (.bl false) m1 | _ => False := by
  unfold eAndV; rw [sat_bind]; congr; funext x m1; rcases x with _ | (_ | _) | _ | _ | _ | _ <;> rfl
@[simp] theorem eOrV_sat (P : DV → Mem → Prop) : (eOrV A B env m).sat P = (A env m).sat fun x m1 => match x with | .bl true => P (.bl true) m1 | .bl false => (B env m1).sat P | _ => False := by
  unfold eOrV; rw [sat_bind]; congr; funext x m1; rcases x with _ | (_ | _) | _ | _ | _ | _ <;> rfl
@[simp] theorem eNotV_sat (P : DV → Mem → Prop) : (eNotV A env m).sat P = (A env m).sat fun x m1 => match x with | .bl c => P (.bl (!c)) m1 | _ => False := by
  unfold eNotV; rw [sat_bind]; congr; funext x m1; cases x <;> rfl
@[simp] theorem eIf_eq : eIf T A B env m = (T env m).bind fun c m1 => if c then A env m1 else B env m1 := id rfl
@[simp] theorem aNil_eq : aNil env m = .ok [] m := id rfl
@[simp] theorem aCons_eq : aCons A As env m = (A env m).bind fun x m1 => (As env m1).bind fun xs m2 => .ok (x :: xs) m2 := id rfl
@[simp] theorem eTup_eq : eTup As env m = (As env m).bind fun ds m1 => if szOk ds.length then .ok (.tup ds) m1 else .bad := by
  unfold eTup; simp only [szOk_iff]
@[simp] theorem eLst_eq : eLst As env m = (As env m).bind fun ds m1 => if szOk ds.length then .ok (.ref m1.length) (m1 ++ [.lst ds]) else .bad := by
  unfold eLst; simp only [szOk_iff]
@[simp] theorem eCall_eq (F : DF) : eCall F As env m = (As env m).bind F := id rfl
@[simp] theorem f1_eq (f : D1) (d : DV) : f1 f [d] m = f d m := id rfl
@[simp] theorem f2_eq (f : D2) (d e : DV) : f2 f [d, e] m = f d e m := id rfl
@[simp] theorem eChain_sat (f g : D2) (P : DV → Mem → Prop) : (eChain f g A B D env m).sat P = (A env m).sat fun x m1 => (B env m1).sat fun y m2 => (f x y m2).sat fun z m3 => match z with | .bl true => (D env m3).sat fun w m4 => (g y w m4).sat P | .bl false => P (.bl false) m3 | _ => False := by
  unfold eChain; simp only [sat_bind]; congr; funext x m1; congr; funext y m2; congr; funext z m3; rcases z with _ | (_ | _) | _ | _ | _ | _ <;> (try rfl) <;> simp only [sat_bind]
@[simp] theorem ordD_int (g : Int → Int → Bool) (f : PyData → PyData → Bool) (i j : Int) : ordD g f (.int i) (.int j) m = .ok (.bl (g i j)) m := id rfl
@[simp] theorem isN_eq (d : DV) : isN d m = .ok (.bl (match d with | .non => true | _ => false)) m := id rfl
@[simp] theorem notN_eq (d : DV) : notN d m = .ok (.bl (match d with | .non => false | _ => true)) m := id rfl
@[simp] theorem addD_int (i j : Int) : addD (.int i) (.int j) m = .ok (.int (i + j)) m := id rfl
@[simp] theorem negD_int (i : Int) : negD (.int i) m = .ok (.int (-i)) m := id rfl
@[simp] theorem intD_int (i : Int) : intD (.int i) m = .ok (.int i) m := id rfl
@[simp] theorem max2_int (i j : Int) : max2D (.int i) (.int j) m = .ok (.int (max i j)) m := id rfl
@[simp] theorem min2_int (i j : Int) : min2D (.int i) (.int j) m = .ok (.int (min i j)) m := id rfl
@[simp] theorem eqD_int (i j : Int) : eqD (.int i) (.int j) m = .ok (.bl (decide (i = j))) m := by
  show (if SeqAt.shaped (.int i) = true ∧ SeqAt.shaped (.int j) = true then Out.ok (DV.bl (PyData.eqv (.int i) (.int j))) m else .bad) = _
  rw [if_pos ⟨rfl, rfl⟩]; rfl
@[simp] theorem neD_int (i j : Int) : neD (.int i) (.int j) m = .ok (.bl (!decide (i = j))) m := by
  show (if SeqAt.shaped (.int i) = true ∧ SeqAt.shaped (.int j) = true then Out.ok (DV.bl (!PyData.eqv (.int i) (.int j))) m else .bad) = _
  rw [if_pos ⟨rfl, rfl⟩]; rfl
theorem atI_nat {α : Type} (xs : List α) (k : Nat) : atI xs (k : Int) = xs[k]? := by
  unfold atI ixN
  by_cases h : k < xs.length
  · rw [if_pos (by omega), if_pos (by omega)]; simp
  · rw [if_pos (by omega), if_neg (by omega)]; simp [List.getElem?_eq_none (Nat.le_of_not_lt h)]
@[simp] theorem atI_0 {α : Type} (x : α) (xs : List α) : atI (x :: xs) 0 = some x := by have := atI_nat (x :: xs) 0; simpa using this
@[simp] theorem atI_1 {α : Type} (x y : α) (xs : List α) : atI (x :: y :: xs) 1 = some y := by have := atI_nat (x :: y :: xs) 1; simpa using this
@[simp] theorem atI_2 {α : Type} (x y z : α) (xs : List α) : atI (x :: y :: z :: xs) 2 = some z := by have := atI_nat (x :: y :: z :: xs) 2; simpa using this
@[simp] theorem atI_3 {α : Type} (x y z w : α) (xs : List α) : atI (x :: y :: z :: w :: xs) 3 = some w := by have := atI_nat (x :: y :: z :: w :: xs) 3; simpa using this
theorem atI_last {α : Type} (xs : List α) : atI xs (-1) = xs.getLast? := by
  unfold atI ixN
  cases xs with
  | nil => simp
  | cons x xs =>
    rw [if_neg (by omega), if_pos (by simp only [List.length_cons]; omega), List.getLast?_eq_getElem?]
    simp only [Option.bind_some]
    congr 1
    simp only [List.length_cons]
    omega
@[simp] theorem ixD_tup (xs : List DV) (i : Int) : ixD (.tup xs) (.int i) m = match atI xs i with | some d => .ok d m | none => .bad := id rfl
theorem ixD_ref {k : Nat} {xs : List DV} (h : m[k]? = some (.lst xs)) (i : Int) : ixD (.ref k) (.int i) m = match atI xs i with | some d => .ok d m | none => .bad := by
  simp only [ixD, seqOf, h] <;> cases atI xs i <;> rfl
theorem ixD_rol {k : Nat} {xs : List DV} (h : m[k]? = some (.rol xs)) (i : Int) : ixD (.ref k) (.int i) m = match atI xs i with | some d => .ok d m | none => .bad := by
  simp only [ixD, seqOf, h] <;> cases atI xs i <;> rfl
@[simp] theorem fLen_tup (xs : List DV) : fLen [.tup xs] m = .ok (.int xs.length) m := id rfl
theorem fLen_ref {k : Nat} {xs : List DV} (h : m[k]? = some (.lst xs)) : fLen [.ref k] m = .ok (.int xs.length) m := by simp only [fLen, seqOf, h]
theorem fLen_rol {k : Nat} {xs : List DV} (h : m[k]? = some (.rol xs)) : fLen [.ref k] m = .ok (.int xs.length) m := by simp only [fLen, seqOf, h]
@[simp] theorem wipe_nil : wipeD [] env = env := id rfl
@[simp] theorem wipe_cons (v : Nat) (vs : List Nat) : wipeD (v :: vs) env = (wipeD vs env).set v none := id rfl
@[simp] theorem tYes_eq : tYesD env m = .ok true m := id rfl
@[simp] theorem gVar_eq (i : Nat) (d : DV) : gVar i d env m = .ok (env.set i (some d)) m := id rfl
@[simp] theorem gsNil_eq : gsNil [] env m = .ok env m := id rfl
@[simp] theorem gsCons_eq (G : DG) (Gs : DGs) (d : DV) (ds : List DV) : gsCons G Gs (d :: ds) env m = (G d env m).bind fun env1 m1 => Gs ds env1 m1 := id rfl
@[simp] theorem gTup_eq (n : Nat) (Gs : DGs) (ds : List DV) : gTupD n Gs (.tup ds) env m = if ds.length = n then Gs ds env m else .bad := id rfl
@[simp] theorem isI_int_int (i : Int) : isI "int" (.int i) m = .ok (.bl true) m := id rfl
@[simp] theorem isI_bool_int (i : Int) : isI "bool" (.int i) m = .ok (.bl false) m := by show Out.ok (DV.bl (isTb "int" "bool")) m = _; congr 2
@[simp] theorem isI_tuple_tup (ds : List DV) : isI "tuple" (.tup ds) m = .ok (.bl true) m := by show Out.ok (DV.bl (isTb "tuple" "tuple")) m = _; congr 2
@[simp] theorem tru_eq : tru A env m = (A env m).bind truD := id rfl
@[simp] theorem truD_bl (b : Bool) : truD (.bl b) m = .ok b m := id rfl

/-! ### statements -/
@[simp] theorem sSkip_eq : sSkip env m = .ok (.nx env) m := id rfl
@[simp] theorem sBreak_eq : sBreak env m = .ok (.bk env) m := id rfl
@[simp] theorem sCont_eq : sCont env m = .ok (.ct env) m := id rfl
@[simp] theorem sSeq_sat (P : Fl → Mem → Prop) : (sSeq S S' env m).sat P = (S env m).sat fun fl m1 => match fl with | .nx env1 => (S' env1 m1).sat P | fl => P fl m1 := by
  unfold sSeq; rw [sat_bind]; congr; funext fl m1; cases fl <;> rfl
@[simp] theorem sExpr_eq : sExpr A env m = (A env m).bind fun _ m1 => .ok (.nx env) m1 := id rfl
@[simp] theorem sRet_eq : sRet A env m = (A env m).bind fun d m1 => .ok (.rt d) m1 := id rfl
@[simp] theorem sRetN_eq : sRetN env m = .ok (.rt .non) m := id rfl
@[simp] theorem sIf_eq : sIf T S S' env m = (T env m).bind fun c m1 => if c then S env m1 else S' env m1 := id rfl
@[simp] theorem sSet_eq (i : Nat) : sSet i A env m = (A env m).bind fun d m1 => .ok (.nx (env.set i (some d))) m1 := id rfl
@[simp] theorem sAsg_eq (G : DG) : sAsg A G env m = (A env m).bind fun d m1 => (G d env m1).bind fun env1 m2 => .ok (.nx env1) m2 := id rfl
@[simp] theorem sAug_eq (i : Nat) (f : D2) : sAug i f A env m = match env[i]? with | some (some x) => (A env m).bind fun y m1 => (f x y m1).bind fun z m2 => .ok (.nx (env.set i (some z))) m2 | _ => .bad := id rfl
end run

/-! ### memory that only grows -/
def Grow (m m' : Mem) : Prop := ∃ l, m' = m ++ l
theorem Grow.refl (m : Mem) : Grow m m := ⟨[], by simp⟩
theorem Grow.app (m l : Mem) : Grow m (m ++ l) := ⟨l, rfl⟩
theorem Grow.trans {a b c : Mem} (h : Grow a b) (k : Grow b c) : Grow a c := by
  obtain ⟨l, rfl⟩ := h; obtain ⟨l', rfl⟩ := k; exact ⟨l ++ l', by simp⟩
theorem Grow.get {m m' : Mem} (h : Grow m m') {i : Nat} {o : MO} (hi : m[i]? = some o) : m'[i]? = some o := by
  obtain ⟨l, rfl⟩ := h
  rw [List.getElem?_append_left (List.getElem?_eq_some_iff.mp hi).1]; exact hi
theorem Grow.len {m m' : Mem} (h : Grow m m') : m.length ≤ m'.length := by obtain ⟨l, rfl⟩ := h; simp
theorem Grow.old {m m' : Mem} (h : Grow m m') : OldOk m m' := by
  refine ⟨h.len, fun i hi => .inl ?_⟩
  obtain ⟨l, rfl⟩ := h
  exact List.getElem?_append_left hi
theorem Grow.take {m m' : Mem} (h : Grow m m') : m'.take m.length = m := by obtain ⟨l, rfl⟩ := h; simp
theorem gcO_pure {m m' : Mem} {d : DV} {o : Out DV} (h : o = .ok d m') (g : Grow m m') (hd : d.lo m.length) : gcO m o = .ok d m := by
  subst h
  unfold gcO
  simp only [if_pos g.old, if_pos hd, g.take]
theorem gcO_sat {m : Mem} {d : DV} {o : Out DV} (h : o.sat fun a m' => a = d ∧ Grow m m') (hd : d.lo m.length) : gcO m o = .ok d m := by
  obtain ⟨a, m', e, rfl, g⟩ := h.ex
  exact gcO_pure e g hd
theorem gc_pure {A : DE} {env : Env} {m m' : Mem} {d : DV} (h : A env m = .ok d m') (g : Grow m m') (hd : d.lo m.length) : gc A env m = .ok d m := gcO_pure h g hd
def Fl.val : Fl → Option DV
  | .rt d => some d
  | .nx _ => some .non
  | _ => none
theorem run_pure {N n : Nat} {S : DS} {ds : List DV} {m : Mem} {d : DV} (hn : ds.length = n) (h : (S (envOf N ds) m).sat fun fl m' => fl.val = some d ∧ Grow m m') (hd : d.lo m.length) : runD N n S ds m = .ok d m := by
  unfold runD
  rw [if_pos hn]
  refine gcO_sat ?_ hd
  rw [sat_bind]
  refine h.mono fun fl m' ⟨h1, h2⟩ => ?_
  cases fl with
  | rt d => cases h1; exact ⟨rfl, h2⟩
  | nx e => cases h1; exact ⟨rfl, h2⟩
  | bk e => cases h1
  | ct e => cases h1
theorem lo_int (n : Nat) (i : Int) : (DV.int i).lo n := trivial
theorem lo_bl (n : Nat) (i : Bool) : (DV.bl i).lo n := trivial

/-! ### for -/
theorem forD_inv {gs : List (Nat × MO)} {G : DG} {S : DS} {P : Fl → Mem → Prop} : ∀ (ds : List DV) (env : Env) (m : Mem) (J : Nat → Env → Mem → Prop), J 0 env m → (∀ i env m, J i env m → guard gs m) →
    (∀ i d env m, ds[i]? = some d → J i env m → (G d env m).sat fun env1 m1 => (S env1 m1).sat fun fl m2 => match fl with
      | .nx e => J (i + 1) e m2
      | .ct e => J (i + 1) e m2
      | .bk e => P (.nx e) m2
      | .rt d => P (.rt d) m2) → (∀ env m, J ds.length env m → P (.nx env) m) → (forD gs G S ds env m).sat P
  | [], env, m, J, h0, hg, hs, he => by
    unfold forD
    rw [if_pos (hg 0 env m h0)]
    exact he env m h0
  | d :: ds, env, m, J, h0, hg, hs, he => by
    unfold forD
    rw [if_pos (hg 0 env m h0), sat_bind]
    refine (hs 0 d env m rfl h0).mono fun env1 m1 h1 => ?_
    rw [sat_bind]
    refine h1.mono fun fl m2 h2 => ?_
    have rc : ∀ e, J 1 e m2 → (forD gs G S ds e m2).sat P := fun e h3 => forD_inv ds e m2 (fun i => J (i + 1)) h3 (fun i env m h => hg (i + 1) env m h) (fun i d env m hd h => hs (i + 1) d env m (by simpa using hd) h) (fun env m h => he env m h)
    cases fl with
    | nx e => exact rc e h2
    | ct e => exact rc e h2
    | bk e => exact h2
    | rt d => exact h2
theorem sFor_inv {I : DI} {G : DG} {S : DS} {P : Fl → Mem → Prop} {env : Env} {m : Mem} (J : List DV → Nat → Env → Mem → Prop)
    (hI : (I env m).sat fun it m1 => J it.ds 0 env m1 ∧ (∀ i env m, J it.ds i env m → guard it.gs m) ∧ (∀ i d env m, it.ds[i]? = some d → J it.ds i env m → (G d env m).sat fun env1 m1 => (S env1 m1).sat fun fl m2 => match fl with
      | .nx e => J it.ds (i + 1) e m2
      | .ct e => J it.ds (i + 1) e m2
      | .bk e => P (.nx e) m2
      | .rt d => P (.rt d) m2) ∧ (∀ env m, J it.ds it.ds.length env m → P (.nx env) m)) : (sFor I G S env m).sat P := by
  unfold sFor
  rw [sat_bind]
  exact hI.mono fun it m1 ⟨h0, hg, hs, he⟩ => forD_inv it.ds env m1 (J it.ds) h0 hg hs he

theorem sFor_of {I : DI} {G : DG} {S : DS} {P : Fl → Mem → Prop} {env : Env} {m m1 : Mem} {ds : List DV} {gs : List (Nat × MO)} (hI : I env m = .ok ⟨ds, gs⟩ m1) (J : Nat → Env → Mem → Prop) (h0 : J 0 env m1) (hg : ∀ i env m, J i env m → guard gs m)
    (hs : ∀ i d env m, ds[i]? = some d → J i env m → (G d env m).sat fun env1 m1 => (S env1 m1).sat fun fl m2 => match fl with
      | .nx e => J (i + 1) e m2
      | .ct e => J (i + 1) e m2
      | .bk e => P (.nx e) m2
      | .rt d => P (.rt d) m2) (he : ∀ env m, J ds.length env m → P (.nx env) m) : (sFor I G S env m).sat P := by
  unfold sFor
  rw [hI]
  exact forD_inv ds env m1 J h0 hg hs he
/-! ### comprehensions -/
theorem compD_inv {gs : List (Nat × MO)} {G : DG} {T : DT} {E : DE} {k : Nat} {env : Env} {P : Unit → Mem → Prop} : ∀ (ds : List DV) (m : Mem) (acc : List DV) (J : Nat → List DV → Mem → Prop), J 0 acc m → (∀ i acc m, J i acc m → guard gs m) →
    (∀ i d acc m, ds[i]? = some d → J i acc m → (G d env m).sat fun env1 m1 => (T env1 m1).sat fun c m2 => if c then (E env1 m2).sat fun y m3 => m3[k]? = some (.lst acc) ∧ acc.length < 16777216 ∧ J (i + 1) (acc ++ [y]) (m3.set k (.lst (acc ++ [y]))) else J (i + 1) acc m2) →
    (∀ acc m, J ds.length acc m → P () m) → (compD gs G T E k env ds m).sat P
  | [], m, acc, J, h0, hg, hs, he => by
    unfold compD
    rw [if_pos (hg 0 acc m h0)]
    exact he acc m h0
  | d :: ds, m, acc, J, h0, hg, hs, he => by
    unfold compD
    rw [if_pos (hg 0 acc m h0), sat_bind, sat_nox]
    refine (hs 0 d acc m rfl h0).mono fun env1 m1 h1 => ?_
    rw [sat_bind, sat_nox]
    refine h1.mono fun c m2 h2 => ?_
    have rc : ∀ acc m2, J 1 acc m2 → (compD gs G T E k env ds m2).sat P := fun acc m2 h3 => compD_inv ds m2 acc (fun i => J (i + 1)) h3 (fun i env m h => hg (i + 1) env m h) (fun i d env m hd h => hs (i + 1) d env m (by simpa using hd) h) (fun env m h => he env m h)
    cases c with
    | true =>
      simp only [if_pos] at h2 ⊢
      rw [sat_bind, sat_nox]
      refine h2.mono fun y m3 ⟨h4, h5, h6⟩ => ?_
      simp only [h4, if_pos h5]
      exact rc _ _ h6
    | false => exact rc _ _ (by simpa using h2)
/-- elements that only read: the list of their values, behind the memory that the iterable left -/
theorem comp_pure {α : Type} {I : DI} {G : DG} {T : DT} {E : DE} {vs : List Nat} {env : Env} {m m1 : Mem} {gs : List (Nat × MO)} {xs : List α} {g : α → DV} (t : α → Bool) (f : α → DV)
    (hI : I env m = .ok ⟨xs.map g, gs⟩ m1) (hg : guard gs m1) (hl : xs.length ≤ 16777216)
    (hE : ∀ x ∈ xs, ∀ m', Grow m1 m' → (G (g x) (wipeD vs env) m').sat fun e1 m2 => m2 = m' ∧ T e1 m' = .ok (t x) m' ∧ (t x = true → E e1 m' = .ok (f x) m')) :
    eComp I G T E vs env m = .ok (.ref m1.length) (m1 ++ [.lst ((xs.filter t).map f)]) := by
  unfold eComp
  rw [hI]
  simp only [Out.bind_ok]
  have key : (compD gs G T E m1.length (wipeD vs env) (xs.map g) (m1 ++ [.lst []])).sat fun _ m' => m' = m1 ++ [.lst ((xs.filter t).map f)] := by
    refine compD_inv (xs.map g) _ [] (fun i acc m' => acc = ((xs.take i).filter t).map f ∧ m' = m1 ++ [.lst acc]) ⟨by simp, rfl⟩ ?_ ?_ ?_
    · rintro i acc m' ⟨_, rfl⟩ p hp
      exact (Grow.app _ _).get (hg p hp)
    · rintro i d acc m' hd ⟨ha, rfl⟩
      rw [List.getElem?_map] at hd
      obtain ⟨x, hx, rfl⟩ := Option.map_eq_some_iff.mp hd
      have hlt := (List.getElem?_eq_some_iff.mp hx).1
      have htk : xs.take (i + 1) = xs.take i ++ [x] := by
        rw [List.take_add_one, hx]; rfl
      refine (hE x (List.mem_of_getElem? hx) _ (Grow.app _ _)).mono fun e1 m2 ⟨e, h1, h2⟩ => ?_
      subst e
      rw [h1]
      simp only [sat_ok]
      cases ht : t x with
      | true =>
        simp only [if_pos]
        rw [h2 ht]
        simp only [sat_ok]
        refine ⟨by simp, ?_, ?_, ?_⟩
        · rw [ha, List.length_map]
          have h3 : ((xs.take i).filter t).length ≤ (xs.take i).length := List.length_filter_le _ _
          rw [List.length_take] at h3
          omega
        · rw [htk, ha]; simp [ht]
        · simp
      | false =>
        simp only [Bool.false_eq_true, if_false]
        exact ⟨by rw [htk, ha]; simp [ht], trivial⟩
    · rintro acc m' ⟨h1, rfl⟩
      rw [h1]; simp
  obtain ⟨_, m', e, rfl⟩ := key.ex
  rw [e]; rfl
@[simp] theorem ints_map {α : Type} (f : α → Int) : ∀ xs : List α, intsOf' (xs.map fun x => .int (f x)) = some (xs.map f)
  | [] => rfl
  | x :: xs => by simp [intsOf', ints_map f xs]
@[simp] theorem bls_map {α : Type} (f : α → Bool) : ∀ xs : List α, blsOf (xs.map fun x => .bl (f x)) = some (xs.map f)
  | [] => rfl
  | x :: xs => by simp [blsOf, bls_map f xs]
theorem sumD_at {m : Mem} {k : Nat} {is : List Int} (h : m[k]? = some (.lst (is.map .int))) : sumD (.ref k) m = .ok (.int is.sum) m := by
  simp only [sumD, seqOf, h, Option.bind_some]
  have := ints_map (fun i : Int => i) is
  simp only [List.map_id'] at this
  rw [show (is.map DV.int) = is.map (fun x => DV.int x) from rfl, this]
theorem sumD_tup {m : Mem} {is : List Int} : sumD (.tup (is.map .int)) m = .ok (.int is.sum) m := by
  simp only [sumD, seqOf, Option.bind_some]
  have := ints_map (fun i : Int => i) is
  simp only [List.map_id'] at this
  rw [show (is.map DV.int) = is.map (fun x => DV.int x) from rfl, this]
theorem allD_at {m : Mem} {k : Nat} {is : List Bool} (h : m[k]? = some (.lst (is.map .bl))) : allD (.ref k) m = .ok (.bl (is.all id)) m := by
  simp only [allD, lstOf, h, Option.bind_some]
  have := bls_map (fun i : Bool => i) is
  simp only [List.map_id'] at this
  rw [show (is.map DV.bl) = is.map (fun x => DV.bl x) from rfl, this]
theorem anyD_at {m : Mem} {k : Nat} {is : List Bool} (h : m[k]? = some (.lst (is.map .bl))) : anyD (.ref k) m = .ok (.bl (is.any id)) m := by
  simp only [anyD, lstOf, h, Option.bind_some]
  have := bls_map (fun i : Bool => i) is
  simp only [List.map_id'] at this
  rw [show (is.map DV.bl) = is.map (fun x => DV.bl x) from rfl, this]
/-! sum, all, any, tuple of a comprehension -/
section
variable {α : Type} {I : DI} {G : DG} {T : DT} {E : DE} {vs : List Nat} {env : Env} {m m1 : Mem} {gs : List (Nat × MO)} {xs : List α} {g : α → DV}
theorem comp_sum (t : α → Bool) (f : α → Int) (hI : I env m = .ok ⟨xs.map g, gs⟩ m1) (hg : guard gs m1) (hl : xs.length ≤ 16777216) (hm : Grow m m1)
    (hE : ∀ x ∈ xs, ∀ m', Grow m1 m' → (G (g x) (wipeD vs env) m').sat fun e1 m2 => m2 = m' ∧ T e1 m' = .ok (t x) m' ∧ (t x = true → E e1 m' = .ok (.int (f x)) m')) :
    gc (eCall (f1 sumD) (aCons (eComp I G T E vs) aNil)) env m = .ok (.int ((xs.filter t).map f).sum) m := by
  refine gc_pure (m' := m1 ++ [.lst ((xs.filter t).map fun x => .int (f x))]) ?_ (hm.trans (Grow.app _ _)) trivial
  rw [eCall_eq, aCons_eq, comp_pure t (fun x => .int (f x)) hI hg hl hE]
  simp only [Out.bind_ok, aNil_eq, f1_eq]
  exact sumD_at (by simp)
theorem comp_all (t : α → Bool) (f : α → Bool) (hI : I env m = .ok ⟨xs.map g, gs⟩ m1) (hg : guard gs m1) (hl : xs.length ≤ 16777216) (hm : Grow m m1)
    (hE : ∀ x ∈ xs, ∀ m', Grow m1 m' → (G (g x) (wipeD vs env) m').sat fun e1 m2 => m2 = m' ∧ T e1 m' = .ok (t x) m' ∧ (t x = true → E e1 m' = .ok (.bl (f x)) m')) :
    gc (eCall (f1 allD) (aCons (eComp I G T E vs) aNil)) env m = .ok (.bl ((xs.filter t).all f)) m := by
  refine gc_pure (m' := m1 ++ [.lst ((xs.filter t).map fun x => .bl (f x))]) ?_ (hm.trans (Grow.app _ _)) trivial
  rw [eCall_eq, aCons_eq, comp_pure t (fun x => .bl (f x)) hI hg hl hE]
  simp only [Out.bind_ok, aNil_eq, f1_eq]
  rw [allD_at (is := (xs.filter t).map f) (by simp)]
  simp [Function.comp_def]
theorem comp_any (t : α → Bool) (f : α → Bool) (hI : I env m = .ok ⟨xs.map g, gs⟩ m1) (hg : guard gs m1) (hl : xs.length ≤ 16777216) (hm : Grow m m1)
    (hE : ∀ x ∈ xs, ∀ m', Grow m1 m' → (G (g x) (wipeD vs env) m').sat fun e1 m2 => m2 = m' ∧ T e1 m' = .ok (t x) m' ∧ (t x = true → E e1 m' = .ok (.bl (f x)) m')) :
    gc (eCall (f1 anyD) (aCons (eComp I G T E vs) aNil)) env m = .ok (.bl ((xs.filter t).any f)) m := by
  refine gc_pure (m' := m1 ++ [.lst ((xs.filter t).map fun x => .bl (f x))]) ?_ (hm.trans (Grow.app _ _)) trivial
  rw [eCall_eq, aCons_eq, comp_pure t (fun x => .bl (f x)) hI hg hl hE]
  simp only [Out.bind_ok, aNil_eq, f1_eq]
  rw [anyD_at (is := (xs.filter t).map f) (by simp)]
  simp [Function.comp_def]
theorem tupD_at {k : Nat} {ds : List DV} (h : m[k]? = some (.lst ds)) : tupD (.ref k) m = .ok (.tup ds) m := by
  simp only [tupD, seqOf, h]
theorem comp_tup (t : α → Bool) (f : α → DV) (hI : I env m = .ok ⟨xs.map g, gs⟩ m1) (hg : guard gs m1) (hl : xs.length ≤ 16777216) (hm : Grow m m1)
    (hE : ∀ x ∈ xs, ∀ m', Grow m1 m' → (G (g x) (wipeD vs env) m').sat fun e1 m2 => m2 = m' ∧ T e1 m' = .ok (t x) m' ∧ (t x = true → E e1 m' = .ok (f x) m')) (hf : ∀ x ∈ xs, (f x).lo m.length) :
    gc (eCall (f1 tupD) (aCons (eComp I G T E vs) aNil)) env m = .ok (.tup ((xs.filter t).map f)) m := by
  refine gc_pure (m' := m1 ++ [.lst ((xs.filter t).map f)]) ?_ (hm.trans (Grow.app _ _)) ?_
  · rw [eCall_eq, aCons_eq, comp_pure t f hI hg hl hE]
    simp only [Out.bind_ok, aNil_eq, f1_eq]
    exact tupD_at (by simp)
  · refine loAll_iff.mpr fun d hd => ?_
    obtain ⟨x, hx, rfl⟩ := List.mem_map.mp hd
    exact hf x (List.mem_filter.mp hx).1
end
theorem guard_nil (m : Mem) : guard [] m := fun p hp => by cases hp
theorem rng0 (n : Nat) : rng 0 n = (List.range n).map fun i => DV.int ((i : Nat) : Int) := by unfold rng; simp
theorem rng_map (lo : Int) (n : Nat) : rng lo n = (List.range n).map fun i => DV.int (lo + ((i : Nat) : Int)) := rfl
theorem e62 : (2 : Int) ^ 62 = 4611686018427387904 := by decide
theorem in62 {n : Int} (h : -1000000000 ≤ n) (hn : n ≤ 1000000000) : In62 n := by
  constructor <;> rw [e62] <;> omega
theorem rng1_z {A : DE} {env : Env} {m m1 : Mem} {z : Int} (h : A env m = .ok (.int z) m1) (h1 : -1000000000 ≤ z) (h2 : z ≤ 1000000000) : iRng1D A env m = .ok ⟨rng 0 z.toNat, []⟩ m1 := by
  unfold iRng1D
  rw [h]
  simp only [Out.bind_ok]
  rw [if_pos (in62 h1 h2)]
theorem rng1_eq {A : DE} {env : Env} {m m1 : Mem} {n : Nat} (h : A env m = .ok (.int (n : Int)) m1) (hn : n ≤ 1000000000) : iRng1D A env m = .ok ⟨(List.range n).map fun i => DV.int ((i : Nat) : Int), []⟩ m1 := by
  rw [rng1_z h (by omega) (by omega), Int.toNat_natCast, rng0]
theorem rng2_z {A B : DE} {env : Env} {m m1 m2 : Mem} {y z : Int} (h : A env m = .ok (.int y) m1) (h' : B env m1 = .ok (.int z) m2) (h1 : -1000000000 ≤ y) (h2 : y ≤ 1000000000) (h3 : -1000000000 ≤ z) (h4 : z ≤ 1000000000) : iRng2D A B env m = .ok ⟨rng y (z - y).toNat, []⟩ m2 := by
  unfold iRng2D
  rw [h]
  simp only [Out.bind_ok]
  rw [h']
  simp only [Out.bind_ok]
  rw [if_pos ⟨in62 h1 h2, in62 h3 h4⟩]
theorem rng2_eq {A B : DE} {env : Env} {m m1 m2 : Mem} {a b : Nat} (h : A env m = .ok (.int (a : Int)) m1) (h' : B env m1 = .ok (.int (b : Int)) m2) (hn : b ≤ 1000000000) (hm : a ≤ 1000000000) : iRng2D A B env m = .ok ⟨(List.range (b - a)).map fun i => DV.int ((a + i : Nat) : Int), []⟩ m2 := by
  have e : ((b : Int) - (a : Int)).toNat = b - a := by omega
  rw [rng2_z h h' (by omega) (by omega) (by omega) (by omega), e, rng_map]
  simp
@[simp] theorem iAny_tup {A : DE} {env : Env} {m m1 : Mem} {ds : List DV} (h : A env m = .ok (.tup ds) m1) : iAnyD A env m = .ok ⟨ds, []⟩ m1 := by unfold iAnyD; rw [h]; rfl
theorem iAny_lst {A : DE} {env : Env} {m m1 : Mem} {k : Nat} {ds : List DV} (h : A env m = .ok (.ref k) m1) (hk : m1[k]? = some (.lst ds)) : iAnyD A env m = .ok ⟨ds, [(k, .lst ds)]⟩ m1 := by unfold iAnyD; rw [h]; simp only [Out.bind_ok, hk]
theorem enm_eq : ∀ (ds : List DV) (k : Nat), enm ds k = (ds.zipIdx k).map fun p => .tup [.int (p.2 : Int), p.1]
  | [], _ => rfl
  | d :: ds, k => by simp [enm, enm_eq ds (k + 1)]
theorem iEnum_tup {A : DE} {env : Env} {m m1 : Mem} {ds : List DV} (h : A env m = .ok (.tup ds) m1) : iEnumD A env m = .ok ⟨enm ds 0, []⟩ m1 := by unfold iEnumD; rw [h]; rfl
theorem eSl_tup {A : DE} {l h : DO} {env : Env} {m : Mem} {ds : List DV} {a b : Option Int} (hA : A env m = .ok (.tup ds) m) (hl : l env m = .ok a m) (hh : h env m = .ok b m) : eSl A l h env m = .ok (.tup (cutL ds a b)) m := by
  unfold eSl
  simp only [hA, Out.bind_ok, hl, hh, slD]
theorem cutL_nat (ds : List DV) (a b : Nat) : cutL ds (some (a : Int)) (some (b : Int)) = (ds.drop a).take (b - a) := by
  unfold cutL
  rw [HT.sIx_nat, HT.sIx_nat]
  by_cases h : a ≤ ds.length
  · rw [Nat.min_eq_left h]
    by_cases h2 : b ≤ ds.length
    · rw [Nat.min_eq_left h2]
    · rw [Nat.min_eq_right (by omega)]
      rw [List.take_of_length_le (by simp), List.take_of_length_le (by simp; omega)]
  · rw [Nat.min_eq_right (by omega : ds.length ≤ a), List.drop_eq_nil_of_le (Nat.le_refl _), List.drop_eq_nil_of_le (by omega : ds.length ≤ a)]
    simp
@[simp] theorem oNone_eq (env : Env) (m : Mem) : oNone env m = .ok none m := id rfl
@[simp] theorem oSome_eq {A : DE} {env : Env} {m m1 : Mem} {i : Int} (h : A env m = .ok (.int i) m1) : oSome A env m = .ok (some i) m1 := by unfold oSome; rw [h]; rfl

/-! ### places in memory -/
section
variable {m r : Mem} {a b c x : MO}
@[simp] theorem at0 : (m ++ a :: r)[m.length]? = some a := by simp
@[simp] theorem at1 : (m ++ a :: b :: r)[m.length + 1]? = some b := by rw [List.getElem?_append_right (by omega), Nat.add_sub_cancel_left]; rfl
@[simp] theorem at2 : (m ++ a :: b :: c :: r)[m.length + 2]? = some c := by rw [List.getElem?_append_right (by omega), Nat.add_sub_cancel_left]; rfl
@[simp] theorem set0 : (m ++ a :: r).set m.length x = m ++ x :: r := by rw [List.set_append_right _ _ (Nat.le_refl _), Nat.sub_self]; rfl
@[simp] theorem set1 : (m ++ a :: b :: r).set (m.length + 1) x = m ++ a :: x :: r := by rw [List.set_append_right _ _ (by omega), Nat.add_sub_cancel_left]; rfl
@[simp] theorem set2 : (m ++ a :: b :: c :: r).set (m.length + 2) x = m ++ a :: b :: x :: r := by rw [List.set_append_right _ _ (by omega), Nat.add_sub_cancel_left]; rfl
end
theorem apD_eq {m : Mem} {k : Nat} {ds : List DV} {y : DV} (h : m[k]? = some (.lst ds)) (hl : ds.length < 16777216) : apD (.ref k) y m = .ok .non (m.set k (.lst (ds ++ [y]))) := by
  simp only [apD, h, if_pos hl]
theorem eAppend_eq {A B : DE} {env : Env} {m m2 : Mem} {k : Nat} {ds es : List DV} {y : DV} (hA : A env m = .ok (.ref k) m) (hk : m[k]? = some (.lst es)) (hB : B env m = .ok y m2) (hk2 : m2[k]? = some (.lst ds)) (hl : ds.length < 16777216) :
    eAppend A B env m = .ok .non (m2.set k (.lst (ds ++ [y]))) := by
  unfold eAppend
  rw [hA]
  simp only [Out.bind_ok, lstOf, hk]
  rw [hB]
  simp only [Out.bind_ok]
  exact apD_eq hk2 hl
theorem run_sat {N n : Nat} {S : DS} {ds : List DV} {m : Mem} {es : List DV} {P : Mem → Prop} (hn : ds.length = n) (hd : ¬ (DV.tup es).lo m.length) (h : (S (envOf N ds) m).sat fun fl m' => fl.val = some (.tup es) ∧ P m') : ∃ m', runD N n S ds m = .ok (.tup es) m' ∧ P m' := by
  obtain ⟨fl, m', e, h1, h2⟩ := h.ex
  refine ⟨m', ?_, h2⟩
  unfold runD
  rw [if_pos hn, e]
  cases fl with
  | rt d =>
    cases h1
    simp only [Out.bind_ok, gcO, if_neg hd]
    split <;> rfl
  | nx e => cases h1
  | bk e => cases h1
  | ct e => cases h1
theorem while_sat {T : DT} {S : DS} {env : Env} {m : Mem} {P : Fl → Mem → Prop} (n : Nat) (h : (whileN T S n env m).sat P) : (sWhile T S env m).sat P := by
  rw [sWhile_of (n := n) (by intro e; rw [e] at h; exact h)]
  exact h
theorem while_step {T : DT} {S : DS} {env : Env} {m : Mem} {P : Fl → Mem → Prop} (h : (T env m).sat fun c m1 => if c then (S env m1).sat fun fl m2 => (match fl with
      | .nx env2 => (sWhile T S env2 m2).sat P
      | .ct env2 => (sWhile T S env2 m2).sat P
      | .bk env2 => P (.nx env2) m2
      | .rt d => P (.rt d) m2) else P (.nx env) m1) : (sWhile T S env m).sat P := by
  rw [sWhile_eq, sat_bind]
  refine h.mono fun c m1 h1 => ?_
  cases c with
  | true =>
    rw [if_pos rfl] at h1 ⊢
    rw [sat_bind]
    refine h1.mono fun fl m2 h2 => ?_
    cases fl <;> exact h2
  | false => simpa using h1
/-- the least of pairs of ints -/
theorem best_pairs {m : Mem} {k : Nat} {ps : List (Int × Int)} {p : Int × Int} (h : m[k]? = some (.lst ((p :: ps).map fun q => .tup [.int q.1, .int q.2]))) (g : PyData → List PyData → PyData) {y : Int × Int}
    (hy : g (.tuple [.int p.1, .int p.2]) (ps.map fun q => .tuple [.int q.1, .int q.2]) = .tuple [.int y.1, .int y.2]) : bestD g (.ref k) m = .ok (.tup [.int y.1, .int y.2]) m := by
  have hp : ∀ qs : List (Int × Int), optAll ((qs.map fun q => DV.tup [.int q.1, .int q.2]).map (pd m 50)) = some (qs.map fun q => .tuple [.int q.1, .int q.2]) := by
    intro qs
    induction qs with
    | nil => rfl
    | cons q qs ih =>
      have e : pd m 50 (.tup [.int q.1, .int q.2]) = some (.tuple [.int q.1, .int q.2]) := by simp [pd, optAll]
      simp only [List.map_cons, e, optAll, ih, Option.map_some]
  have hl : loAll 0 ((p :: ps).map fun q => DV.tup [.int q.1, .int q.2]) := loAll_iff.mpr fun d hd => by obtain ⟨q, _, rfl⟩ := List.mem_map.mp hd; exact ⟨trivial, trivial, trivial⟩
  have ha : PySem.W.AlikeAll ((p :: ps).map fun q => .tuple [.int q.1, .int q.2]) := by
    refine ⟨fun x hx y hy => ?_, fun x hx => ?_⟩
    · obtain ⟨q, _, rfl⟩ := List.mem_map.mp hx
      obtain ⟨q', _, rfl⟩ := List.mem_map.mp hy
      rfl
    · obtain ⟨q, _, rfl⟩ := List.mem_map.mp hx
      intro e; cases e
  have hd : ∀ qs : List (Int × Int), PyData.depthAll (qs.map fun q => .tuple [.int q.1, .int q.2]) ≤ 50 := by
    intro qs
    induction qs with
    | nil => simp [PyData.depthAll]
    | cons q qs ih => simp only [List.map_cons, PyData.depthAll]; simp [PyData.depth, PyData.depthAll]; omega
  have e1 := hp (p :: ps)
  have e2 := hd (p :: ps)
  simp only [bestD, lstOf, h, e1]
  rw [List.map_cons] at hl ha e2
  simp only [List.map_cons]
  rw [if_pos ⟨hl, ha, e2⟩, hy]
  simp [ofD, ofDs]
end DL

end
section
set_option Elab.async false
set_option linter.all false
set_option maxRecDepth 100000
set_option maxHeartbeats 4000000
set_option autoImplicit false
/-! TM1: typed mirrors of D-terms: what a typed value is in memory, contexts, judgements at a point. -/
namespace TM
open PySem PySem.Spec L2 DL

/-! ### typed values -/
structure Rp (α : Type) where
  r : (Nat → Prop) → Mem → DV → α → Prop
  step : ∀ {P : Nat → Prop} {m m' : Mem} {d : DV} {x : α}, (∀ i o, ¬ P i → m[i]? = some o → m'[i]? = some o) → r P m d x → r P m' d x
  anti : ∀ {P P' : Nat → Prop} {m : Mem} {d : DV} {x : α}, (∀ i, i < m.length → P' i → P i) → r P m d x → r P' m d x
/-- holds no list -/
class Flat {α : Type} (R : Rp α) : Prop where
  flat : ∀ {P P' : Nat → Prop} {m m' : Mem} {d : DV} {x : α}, R.r P m d x → R.r P' m' d x
  low : ∀ {P : Nat → Prop} {m : Mem} {d : DV} {x : α} {n : Nat}, R.r P m d x → d.lo n
/-- two lists, one by one -/
inductive Fa {α β : Type} (R : α → β → Prop) : List α → List β → Prop
  | nil : Fa R [] []
  | cons {a : α} {b : β} {as : List α} {bs : List β} : R a b → Fa R as bs → Fa R (a :: as) (b :: bs)
section
variable {α β γ : Type} {R R' : α → β → Prop}
theorem Fa.imp (h : ∀ a b, R a b → R' a b) : ∀ {as : List α} {bs : List β}, Fa R as bs → Fa R' as bs
  | [], _, .nil => .nil
  | _ :: _, _, .cons p q => .cons (h _ _ p) (Fa.imp h q)
theorem Fa.len : ∀ {as : List α} {bs : List β}, Fa R as bs → as.length = bs.length
  | [], _, .nil => rfl
  | _ :: _, _, .cons _ q => by simp [Fa.len q]
theorem Fa.app : ∀ {as as' : List α} {bs bs' : List β}, Fa R as bs → Fa R as' bs' → Fa R (as ++ as') (bs ++ bs')
  | [], _, _, _, .nil, q => q
  | _ :: _, _, _, _, .cons p q, t => .cons p (Fa.app q t)
theorem Fa.get : ∀ {as : List α} {bs : List β} {i : Nat} {b : β}, Fa R as bs → bs[i]? = some b → ∃ a, as[i]? = some a ∧ R a b
  | [], _, _, _, .nil, e => by simp at e
  | _ :: _, _, 0, _, .cons p q, e => by simp at e; subst e; exact ⟨_, rfl, p⟩
  | _ :: _, _, i + 1, b, .cons p q, e => by
    obtain ⟨a, h1, h2⟩ := Fa.get (i := i) (b := b) q (by simpa using e)
    exact ⟨a, by simpa using h1, h2⟩
theorem Fa.set {a : α} {b : β} (r : R a b) : ∀ {as : List α} {bs : List β} (i : Nat), Fa R as bs → Fa R (as.set i a) (bs.set i b)
  | [], _, _, .nil => .nil
  | _ :: _, _, 0, .cons _ q => .cons r q
  | _ :: _, _, i + 1, .cons p q => .cons p (Fa.set r i q)
theorem Fa.drop : ∀ {as : List α} {bs : List β} (n : Nat), Fa R as bs → Fa R (as.drop n) (bs.drop n)
  | _, _, 0, r => r
  | [], _, _ + 1, .nil => .nil
  | _ :: _, _, n + 1, .cons _ q => Fa.drop n q
theorem Fa.take : ∀ {as : List α} {bs : List β} (n : Nat), Fa R as bs → Fa R (as.take n) (bs.take n)
  | _, _, 0, _ => by simpa using Fa.nil
  | [], _, _ + 1, .nil => .nil
  | _ :: _, _, n + 1, .cons p q => .cons p (Fa.take n q)
theorem Fa.rev : ∀ {as : List α} {bs : List β}, Fa R as bs → Fa R as.reverse bs.reverse
  | [], _, .nil => .nil
  | _ :: _, _, .cons p q => by
    rw [List.reverse_cons, List.reverse_cons]
    exact (Fa.rev q).app (.cons p .nil)
theorem Fa.erase : ∀ {as : List α} {bs : List β} (n : Nat), Fa R as bs → Fa R (as.eraseIdx n) (bs.eraseIdx n)
  | [], _, _, .nil => .nil
  | _ :: _, _, 0, .cons _ q => q
  | _ :: _, _, n + 1, .cons p q => .cons p (Fa.erase n q)
theorem Fa.map (f : β → γ) {S : α → γ → Prop} (h : ∀ a b, R a b → S a (f b)) : ∀ {as : List α} {bs : List β}, Fa R as bs → Fa S as (bs.map f)
  | [], _, .nil => .nil
  | _ :: _, _, .cons p q => .cons (h _ _ p) (Fa.map f h q)
theorem Fa.mapL (f : α → γ) {S : γ → β → Prop} (h : ∀ a b, R a b → S (f a) b) : ∀ {as : List α} {bs : List β}, Fa R as bs → Fa S (as.map f) bs
  | [], _, .nil => .nil
  | _ :: _, _, .cons p q => .cons (h _ _ p) (Fa.mapL f h q)
theorem Fa.of_map (f : β → α) (h : ∀ b, R (f b) b) : ∀ bs : List β, Fa R (bs.map f) bs
  | [] => .nil
  | b :: bs => .cons (h b) (Fa.of_map f h bs)
theorem Fa.zip {S : α → γ → Prop} : ∀ {as : List α} {as' : List α} {bs : List β} {cs : List γ}, Fa R as bs → Fa S as' cs → Fa (fun (p : α × α) (q : β × γ) => R p.1 q.1 ∧ S p.2 q.2) (as.zip as') (bs.zip cs)
  | [], _, _, _, .nil, _ => by simpa using Fa.nil
  | _ :: _, [], _, _, .cons _ _, .nil => by simpa using Fa.nil
  | _ :: _, _ :: _, _, _, .cons p q, .cons p' q' => .cons ⟨p, p'⟩ (Fa.zip q q')
end

def RInt : Rp Int := ⟨fun _ _ d x => d = .int x, fun _ h => h, fun _ h => h⟩
def RBl : Rp Bool := ⟨fun _ _ d x => d = .bl x, fun _ h => h, fun _ h => h⟩
def RNon : Rp Unit := ⟨fun _ _ d _ => d = .non, fun _ h => h, fun _ h => h⟩
/-- a text, one that may be laid -/
def strG (z : Str) : Prop := PyData.canLay0 (.str z) = true
def RStr : Rp Str := ⟨fun _ _ d x => d = .str x ∧ strG x, fun _ h => h, fun _ h => h⟩
def ROpt {α : Type} (R : Rp α) : Rp (Option α) := ⟨fun P m d x => match x with | none => d = .non | some y => R.r P m d y, fun {P m m' d x} k h => by cases x with | none => exact h | some y => exact R.step k h, fun {P P' m d x} k h => by cases x with | none => exact h | some y => exact R.anti k h⟩
def RTup {α : Type} (R : Rp α) : Rp (List α) := ⟨fun P m d xs => ∃ ds, d = .tup ds ∧ Fa (R.r P m) ds xs, fun k ⟨ds, e, h⟩ => ⟨ds, e, h.imp fun _ _ => R.step k⟩, fun k ⟨ds, e, h⟩ => ⟨ds, e, h.imp fun _ _ => R.anti k⟩⟩
def RP2 {α β : Type} (R : Rp α) (S : Rp β) : Rp (α × β) := ⟨fun P m d x => ∃ a b, d = .tup [a, b] ∧ R.r P m a x.1 ∧ S.r P m b x.2, fun k ⟨a, b, e, h1, h2⟩ => ⟨a, b, e, R.step k h1, S.step k h2⟩, fun k ⟨a, b, e, h1, h2⟩ => ⟨a, b, e, R.anti k h1, S.anti k h2⟩⟩
def RP3 {α β γ : Type} (R : Rp α) (S : Rp β) (T : Rp γ) : Rp (α × β × γ) := ⟨fun P m d x => ∃ a b c, d = .tup [a, b, c] ∧ R.r P m a x.1 ∧ S.r P m b x.2.1 ∧ T.r P m c x.2.2, fun k ⟨a, b, c, e, h1, h2, h3⟩ => ⟨a, b, c, e, R.step k h1, S.step k h2, T.step k h3⟩, fun k ⟨a, b, c, e, h1, h2, h3⟩ => ⟨a, b, c, e, R.anti k h1, S.anti k h2, T.anti k h3⟩⟩
def RP4 {α β γ δ : Type} (R : Rp α) (S : Rp β) (T : Rp γ) (U : Rp δ) : Rp (α × β × γ × δ) := ⟨fun P m d x => ∃ a b c e, d = .tup [a, b, c, e] ∧ R.r P m a x.1 ∧ S.r P m b x.2.1 ∧ T.r P m c x.2.2.1 ∧ U.r P m e x.2.2.2, fun k ⟨a, b, c, e, q, h1, h2, h3, h4⟩ => ⟨a, b, c, e, q, R.step k h1, S.step k h2, T.step k h3, U.step k h4⟩, fun k ⟨a, b, c, e, q, h1, h2, h3, h4⟩ => ⟨a, b, c, e, q, R.anti k h1, S.anti k h2, T.anti k h3, U.anti k h4⟩⟩
def RP5 {α β γ δ ε : Type} (R : Rp α) (S : Rp β) (T : Rp γ) (U : Rp δ) (V : Rp ε) : Rp (α × β × γ × δ × ε) := ⟨fun P m d x => ∃ a b c e f, d = .tup [a, b, c, e, f] ∧ R.r P m a x.1 ∧ S.r P m b x.2.1 ∧ T.r P m c x.2.2.1 ∧ U.r P m e x.2.2.2.1 ∧ V.r P m f x.2.2.2.2, fun k ⟨a, b, c, e, f, q, h1, h2, h3, h4, h5⟩ => ⟨a, b, c, e, f, q, R.step k h1, S.step k h2, T.step k h3, U.step k h4, V.step k h5⟩, fun k ⟨a, b, c, e, f, q, h1, h2, h3, h4, h5⟩ => ⟨a, b, c, e, f, q, R.anti k h1, S.anti k h2, T.anti k h3, U.anti k h4, V.anti k h5⟩⟩
/-- a list, perhaps a read-only one -/
def isL (m : Mem) (k : Nat) (ds : List DV) : Prop := m[k]? = some (.lst ds)
def RLst {α : Type} (R : Rp α) : Rp (List α) := ⟨fun P m d xs => ∃ k ds, d = .ref k ∧ ¬ P k ∧ isL m k ds ∧ Fa (R.r P m) ds xs,
  fun {P m m' d x} k ⟨i, ds, e, hp, hl, h⟩ => ⟨i, ds, e, hp, k i _ hp hl, h.imp fun _ _ => R.step k⟩,
  fun {P P' m d x} k ⟨i, ds, e, hp, hl, h⟩ => ⟨i, ds, e, fun q => hp (k i (List.getElem?_eq_some_iff.mp hl).1 q), hl, h.imp fun _ _ => R.anti k⟩⟩
/-- a dict -/
def RDic {α : Type} (R : Rp α) : Rp (List (Key × α)) := ⟨fun P m d xs => ∃ k ds, d = .ref k ∧ ¬ P k ∧ m[k]? = some (.dic ds) ∧ Fa (fun (p : Key × DV) (q : Key × α) => p.1 = q.1 ∧ R.r P m p.2 q.2) ds xs,
  fun {P m m' d x} k ⟨i, ds, e, hp, hl, h⟩ => ⟨i, ds, e, hp, k i _ hp hl, h.imp fun _ _ q => ⟨q.1, R.step k q.2⟩⟩,
  fun {P P' m d x} k ⟨i, ds, e, hp, hl, h⟩ => ⟨i, ds, e, fun q => hp (k i (List.getElem?_eq_some_iff.mp hl).1 q), hl, h.imp fun _ _ q => ⟨q.1, R.anti k q.2⟩⟩⟩
instance : Flat RInt := ⟨fun h => h, fun h => by cases h; trivial⟩
instance : Flat RBl := ⟨fun h => h, fun h => by cases h; trivial⟩
instance : Flat RNon := ⟨fun h => h, fun h => by cases h; trivial⟩
instance : Flat RStr := ⟨fun h => h, fun h => by cases h.1; trivial⟩
section
variable {α β γ δ ε : Type} {R : Rp α} {S : Rp β} {T : Rp γ} {U : Rp δ} {V : Rp ε}
instance [i : Flat R] : Flat (ROpt R) := ⟨fun {P P' m m' d x} h => by cases x with | none => exact h | some y => exact i.flat h, fun {P m d x n} h => by
  cases x with
  | none => cases (show d = .non from h); trivial
  | some y => exact i.low h⟩
theorem fa_low [i : Flat R] {P : Nat → Prop} {m : Mem} {n : Nat} : ∀ {ds : List DV} {xs : List α}, Fa (R.r P m) ds xs → loAll n ds
  | [], _, .nil => trivial
  | _ :: _, _, .cons p q => ⟨i.low p, fa_low q⟩
instance [i : Flat R] : Flat (RTup R) := ⟨fun ⟨ds, e, h⟩ => ⟨ds, e, h.imp fun _ _ => i.flat⟩, fun ⟨ds, e, h⟩ => by subst e; exact fa_low h⟩
instance [i : Flat R] [j : Flat S] : Flat (RP2 R S) := ⟨fun ⟨a, b, e, h1, h2⟩ => ⟨a, b, e, i.flat h1, j.flat h2⟩, fun ⟨a, b, e, h1, h2⟩ => by subst e; exact ⟨i.low h1, j.low h2, trivial⟩⟩
instance [i : Flat R] [j : Flat S] [k : Flat T] : Flat (RP3 R S T) := ⟨fun ⟨a, b, c, e, h1, h2, h3⟩ => ⟨a, b, c, e, i.flat h1, j.flat h2, k.flat h3⟩, fun ⟨a, b, c, e, h1, h2, h3⟩ => by subst e; exact ⟨i.low h1, j.low h2, k.low h3, trivial⟩⟩
instance [i : Flat R] [j : Flat S] [k : Flat T] [l : Flat U] : Flat (RP4 R S T U) := ⟨fun ⟨a, b, c, f, e, h1, h2, h3, h4⟩ => ⟨a, b, c, f, e, i.flat h1, j.flat h2, k.flat h3, l.flat h4⟩, fun ⟨a, b, c, f, e, h1, h2, h3, h4⟩ => by subst e; exact ⟨i.low h1, j.low h2, k.low h3, l.low h4, trivial⟩⟩
instance [i : Flat R] [j : Flat S] [k : Flat T] [l : Flat U] [n : Flat V] : Flat (RP5 R S T U V) := ⟨fun ⟨a, b, c, f, g, e, h1, h2, h3, h4, h5⟩ => ⟨a, b, c, f, g, e, i.flat h1, j.flat h2, k.flat h3, l.flat h4, n.flat h5⟩, fun ⟨a, b, c, f, g, e, h1, h2, h3, h4, h5⟩ => by subst e; exact ⟨i.low h1, j.low h2, k.low h3, l.low h4, n.low h5, trivial⟩⟩
end

/-! ### contents of what one owns -/
structure Rc (α : Type) where
  c : (Nat → Prop) → Mem → MO → α → Prop
  step : ∀ {P : Nat → Prop} {m m' : Mem} {d : MO} {x : α}, (∀ i o, ¬ P i → m[i]? = some o → m'[i]? = some o) → c P m d x → c P m' d x
  anti : ∀ {P P' : Nat → Prop} {m : Mem} {d : MO} {x : α}, (∀ i, i < m.length → P' i → P i) → c P m d x → c P' m d x
/-- contents that a callee has changed -/
class Mix {α : Type} (C : Rc α) : Prop where
  mix : ∀ {Q Q' : Nat → Prop} {m m' : Mem} {o o' : MO} {x x' : α}, C.c Q m o x → C.c Q' m' o' x' → (∀ i o, ¬ Q i → m[i]? = some o → m'[i]? = some o) → C.c Q m' o' x'
def CLst {α : Type} (R : Rp α) : Rc (List α) := ⟨fun P m o xs => ∃ ds, o = .lst ds ∧ Fa (R.r P m) ds xs, fun k ⟨ds, e, h⟩ => ⟨ds, e, h.imp fun _ _ => R.step k⟩, fun k ⟨ds, e, h⟩ => ⟨ds, e, h.imp fun _ _ => R.anti k⟩⟩
instance {α : Type} {R : Rp α} [i : Flat R] : Mix (CLst R) := ⟨fun _ ⟨ds, e, h⟩ _ => ⟨ds, e, h.imp fun _ _ => i.flat⟩⟩
def CDic {α : Type} (R : Rp α) : Rc (List (Key × α)) := ⟨fun P m o xs => ∃ ds, o = .dic ds ∧ Fa (fun (p : Key × DV) (q : Key × α) => p.1 = q.1 ∧ R.r P m p.2 q.2) ds xs, fun k ⟨ds, e, h⟩ => ⟨ds, e, h.imp fun _ _ q => ⟨q.1, R.step k q.2⟩⟩, fun k ⟨ds, e, h⟩ => ⟨ds, e, h.imp fun _ _ q => ⟨q.1, R.anti k q.2⟩⟩⟩
instance {α : Type} {R : Rp α} [i : Flat R] : Mix (CDic R) := ⟨fun _ ⟨ds, e, h⟩ _ => ⟨ds, e, h.imp fun _ _ q => ⟨q.1, i.flat q.2⟩⟩⟩
/-- the script's box: its digits, the next place -/
structure Box where
  dg : List Int
  at_ : Nat
def CBox : Rc Box := ⟨fun P m o x => o = MO.lst [DV.ref 1, DV.int (x.at_ : Int)] ∧ ¬ P 1 ∧ m[1]? = some (MO.lst (x.dg.map DV.int)),
  fun {P m m' d x} k h => ⟨h.1, h.2.1, k 1 _ h.2.1 h.2.2⟩, fun {P P' m d x} k h => ⟨h.1, fun q => h.2.1 (k 1 (List.getElem?_eq_some_iff.mp h.2.2).1 q), h.2.2⟩⟩
instance : Mix CBox := ⟨fun ⟨_, h1, _⟩ ⟨e, _, h2⟩ _ => ⟨e, h1, h2⟩⟩

/-! ### contexts -/
structure Fr where
  P : Nat → Prop
  Q : Nat → Prop
  n : Nat
/-- told strongly (P), or but apart from what is changed (Q) -/
def Fr.e (F : Fr) (b : Bool) : Nat → Prop := if b then F.P else F.Q
theorem Fr.eq {F : Fr} (h : ∀ i, F.Q i → F.P i) {b : Bool} : ∀ i, F.Q i → F.e b i := fun i hi => by cases b; exact hi; exact h i hi
abbrev Ctx (σ : Type) := Fr → List Nat → DL.Env → Mem → σ → Prop
def nilC : Ctx Unit := fun _ js env _ _ => js = [] ∧ env = []
def deadC {σ : Type} (Γ : Ctx σ) : Ctx σ := fun F js env m s => ∃ o e, env = o :: e ∧ Γ F js e m s
def valC {α σ : Type} (R : Rp α) (Γ : Ctx σ) : Ctx (α × σ) := fun F js env m s => ∃ d e, env = some d :: e ∧ R.r F.P m d s.1 ∧ Γ F js e m s.2
def parC {α σ : Type} (R : Rp α) (Γ : Ctx σ) : Ctx (α × σ) := fun F js env m s => ∃ d e, env = some d :: e ∧ R.r F.Q m d s.1 ∧ Γ F js e m s.2
/-- what one alone may change; made in this call (l), or given to be changed, at a known place -/
def ownC {α σ : Type} (l : Option Nat) (C : Rc α) (Γ : Ctx σ) : Ctx (α × σ) := fun F js env m s => ∃ k js' e ob, js = k :: js' ∧ env = some (.ref k) :: e ∧ m[k]? = some ob ∧ C.c F.Q m ob s.1 ∧ (match l with | none => F.n ≤ k | some i => k = i) ∧ Γ F js' e m s.2
/-- one that is being walked: it stands as it is -/
def lokC {α σ : Type} (C : Rc α) (k : Nat) (ob : MO) (Γ : Ctx σ) : Ctx (α × σ) := fun F js env m s => ∃ js' e, js = k :: js' ∧ env = some (.ref k) :: e ∧ m[k]? = some ob ∧ C.c F.Q m ob s.1 ∧ F.n ≤ k ∧ Γ F js' e m s.2

class CtxOk {σ : Type} (Γ : Ctx σ) : Prop where
  step : ∀ {F : Fr} {js : List Nat} {env : DL.Env} {m m' : Mem} {s : σ}, (∀ i, F.Q i → F.P i) → (∀ i o, (¬ F.Q i ∨ i ∈ js) → m[i]? = some o → m'[i]? = some o) → Γ F js env m s → Γ F js env m' s
  fr : ∀ {F F' : Fr} {js : List Nat} {env : DL.Env} {m : Mem} {s : σ}, F'.n = F.n → (∀ i, i < m.length → F'.P i → F.P i) → (∀ i, i < m.length → F'.Q i → F.Q i) → Γ F js env m s → Γ F' js env m s
  len : ∀ {F : Fr} {js : List Nat} {env : DL.Env} {m : Mem} {s : σ}, Γ F js env m s → ∀ j ∈ js, j < m.length
section
variable {α σ : Type} {Γ : Ctx σ} {R : Rp α} {C : Rc α}
instance : CtxOk nilC := ⟨fun _ _ h => h, fun _ _ _ h => h, fun h j hj => by rw [h.1] at hj; cases hj⟩
instance [g : CtxOk Γ] : CtxOk (deadC Γ) := ⟨fun a b ⟨o, e, h1, h2⟩ => ⟨o, e, h1, g.step a b h2⟩, fun n a b ⟨o, e, h1, h2⟩ => ⟨o, e, h1, g.fr n a b h2⟩, fun ⟨o, e, h1, h2⟩ => g.len h2⟩
instance [g : CtxOk Γ] : CtxOk (valC R Γ) := ⟨fun {F js env m m' s} a b ⟨d, e, h1, h2, h3⟩ => ⟨d, e, h1, R.step (fun i o hp => b i o (.inl fun q => hp (a i q))) h2, g.step a b h3⟩, fun n a b ⟨d, e, h1, h2, h3⟩ => ⟨d, e, h1, R.anti a h2, g.fr n a b h3⟩, fun ⟨d, e, h1, h2, h3⟩ => g.len h3⟩
instance [g : CtxOk Γ] : CtxOk (parC R Γ) := ⟨fun {F js env m m' s} a b ⟨d, e, h1, h2, h3⟩ => ⟨d, e, h1, R.step (fun i o hp => b i o (.inl hp)) h2, g.step a b h3⟩, fun n a b ⟨d, e, h1, h2, h3⟩ => ⟨d, e, h1, R.anti b h2, g.fr n a b h3⟩, fun ⟨d, e, h1, h2, h3⟩ => g.len h3⟩
instance {l : Option Nat} [g : CtxOk Γ] : CtxOk (ownC l C Γ) := ⟨fun {F js env m m' s} a b ⟨k, js', e, ob, h1, h2, h3, h4, h5, h6⟩ => ⟨k, js', e, ob, h1, h2, b k ob (.inr (by rw [h1]; exact List.mem_cons_self)) h3, C.step (fun i o hp => b i o (.inl hp)) h4, h5, g.step a (fun i o hq => b i o (hq.imp_right fun hm => by rw [h1]; exact List.mem_cons_of_mem _ hm)) h6⟩,
  fun {F F' js env m s} n a b ⟨k, js', e, ob, h1, h2, h3, h4, h5, h6⟩ => ⟨k, js', e, ob, h1, h2, h3, C.anti b h4, by cases l with | none => rw [n]; exact h5 | some i => exact h5, g.fr n a b h6⟩, fun ⟨k, js', e, ob, h1, h2, h3, h4, h5, h6⟩ j hj => by
    rw [h1] at hj
    rcases List.mem_cons.mp hj with q | q
    · rw [q]; exact (List.getElem?_eq_some_iff.mp h3).1
    · exact g.len h6 j q⟩
instance {k : Nat} {ob : MO} [g : CtxOk Γ] : CtxOk (lokC C k ob Γ) := ⟨fun {F js env m m' s} a b ⟨js', e, h1, h2, h3, h4, h5, h6⟩ => ⟨js', e, h1, h2, b k ob (.inr (by rw [h1]; exact List.mem_cons_self)) h3, C.step (fun i o hp => b i o (.inl hp)) h4, h5, g.step a (fun i o hq => b i o (hq.imp_right fun hm => by rw [h1]; exact List.mem_cons_of_mem _ hm)) h6⟩,
  fun n a b ⟨js', e, h1, h2, h3, h4, h5, h6⟩ => ⟨js', e, h1, h2, h3, C.anti b h4, by rw [n]; exact h5, g.fr n a b h6⟩, fun ⟨js', e, h1, h2, h3, h4, h5, h6⟩ j hj => by
    rw [h1] at hj
    rcases List.mem_cons.mp hj with q | q
    · rw [q]; exact (List.getElem?_eq_some_iff.mp h3).1
    · exact g.len h6 j q⟩
end
/-- what a def found at its start: the memory; what it may change -/
structure Bs where
  m0 : Mem
  io : Nat → Prop
  /-- what a result may not be -/
  p0 : Nat → Prop
  pz : ∀ i, p0 i → i < m0.length
def Keep (B : Bs) (m : Mem) : Prop := B.m0.length ≤ m.length ∧ ∀ (i : Nat) (o : MO), ¬ B.io i → B.m0[i]? = some o → m[i]? = some o
structure Wf (B : Bs) (F : Fr) (js : List Nat) (m : Mem) : Prop where
  nd : js.Nodup
  jq : ∀ j ∈ js, F.Q j
  qp : ∀ i, F.Q i → F.P i
  pl : ∀ i, F.P i → i < m.length
  keep : Keep B m
  old : ∀ i, B.p0 i → F.P i
  own : ∀ j ∈ js, B.m0.length ≤ j ∨ B.io j
  n0 : F.n = B.m0.length
def RG {σ : Type} (B : Bs) (Γ : Ctx σ) (F : Fr) (js : List Nat) (env : DL.Env) (m : Mem) (s : σ) : Prop := Γ F js env m s ∧ Wf B F js m
/-- nothing is changed, perhaps something is new -/
def Grw (m m' : Mem) : Prop := m.length ≤ m'.length ∧ ∀ (i : Nat) (o : MO), m[i]? = some o → m'[i]? = some o
theorem Grw.refl (m : Mem) : Grw m m := ⟨Nat.le_refl _, fun _ _ h => h⟩
theorem Grw.trans {a b c : Mem} (h : Grw a b) (k : Grw b c) : Grw a c := ⟨Nat.le_trans h.1 k.1, fun i o e => k.2 i o (h.2 i o e)⟩
theorem Grw.app (m l : Mem) : Grw m (m ++ l) := ⟨by simp, fun i o h => by rw [List.getElem?_append_left (List.getElem?_eq_some_iff.mp h).1]; exact h⟩
/-- .. but for what may be changed -/
def Eff (Q : Nat → Prop) (m m' : Mem) : Prop := m.length ≤ m'.length ∧ ∀ (i : Nat) (o : MO), ¬ Q i → m[i]? = some o → m'[i]? = some o
theorem Grw.eff {Q : Nat → Prop} {m m' : Mem} (g : Grw m m') : Eff Q m m' := ⟨g.1, fun i o _ h => g.2 i o h⟩
theorem Eff.refl {Q : Nat → Prop} (m : Mem) : Eff Q m m := (Grw.refl m).eff
theorem Eff.trans {Q Q' : Nat → Prop} {a b c : Mem} (h : Eff Q a b) (k : Eff Q' b c) (q : ∀ i, i < a.length → Q' i → Q i) : Eff Q a c := ⟨Nat.le_trans h.1 k.1, fun i o hq e => k.2 i o (fun z => hq (q i (List.getElem?_eq_some_iff.mp e).1 z)) (h.2 i o hq e)⟩
theorem Keep.grw {B : Bs} {m m' : Mem} (h : Keep B m) (g : Grw m m') : Keep B m' := ⟨Nat.le_trans h.1 g.1, fun i o hi e => g.2 i o (h.2 i o hi e)⟩
theorem Wf.grw {B : Bs} {F : Fr} {js : List Nat} {m m' : Mem} (h : Wf B F js m) (g : Grw m m') : Wf B F js m' := ⟨h.nd, h.jq, h.qp, fun i hi => Nat.lt_of_lt_of_le (h.pl i hi) g.1, h.keep.grw g, h.old, h.own, h.n0⟩
theorem RG.grw {σ : Type} {B : Bs} {Γ : Ctx σ} [ok : CtxOk Γ] {F : Fr} {js : List Nat} {env : DL.Env} {m m' : Mem} {s : σ} (h : RG B Γ F js env m s) (g : Grw m m') : RG B Γ F js env m' s := ⟨ok.step h.2.qp (fun i o _ => g.2 i o) h.1, h.2.grw g⟩
theorem Rp.grw {α : Type} {R : Rp α} {P : Nat → Prop} {m m' : Mem} {d : DV} {x : α} (h : R.r P m d x) (g : Grw m m') : R.r P m' d x := R.step (fun i o _ => g.2 i o) h
theorem Rp.any {α : Type} {R : Rp α} {P : Nat → Prop} {m : Mem} {d : DV} {x : α} (h : R.r P m d x) : R.r (fun _ => False) m d x := R.anti (fun _ _ q => q.elim) h
theorem Rp.old {α : Type} {R : Rp α} {n k : Nat} {m : Mem} {d : DV} {x : α} (h : R.r (fun i => i < n) m d x) (hk : k ≤ n) : R.r (fun i => i < k) m d x := R.anti (fun _ _ q => Nat.lt_of_lt_of_le q hk) h
theorem Wf.new {B : Bs} {F : Fr} {js : List Nat} {m m' : Mem} (h : Wf B F js m) {α : Type} {R : Rp α} {d : DV} {x : α} (r : R.r (fun i => i < m.length) m' d x) : R.r F.P m' d x := R.anti (fun i _ hp => h.pl i hp) r
end TM

end
section
set_option Elab.async false
set_option linter.all false
set_option maxRecDepth 100000
set_option maxHeartbeats 4000000
set_option autoImplicit false
/-! TM2: judgements at a point: expressions, tests, arguments, calls, what is walked, comprehensions. -/
namespace TM
open PySem PySem.Spec L2 DL

/-- how strong a value is told -/
inductive Lv where
  | new | str | q | any
def Lv.p (F : Fr) (m : Mem) : Lv → Nat → Prop
  | .new => fun i => i < m.length
  | .str => F.P
  | .q => F.Q
  | .any => fun _ => False
def Lv.ok : Lv → Bool
  | .any => false
  | .q => false
  | _ => true
def Lv.qk : Lv → Bool
  | .any => false
  | _ => true
section
variable {σ τ α β γ ρ : Type}
def PE (B : Bs) (Γ : Ctx σ) (s : σ) (A : DE) (w : Lv) (R : Rp α) (o : Option α) : Prop :=
  ∀ F js env m, RG B Γ F js env m s → ∀ v, o = some v → ∃ d m', A env m = .ok d m' ∧ Grw m m' ∧ R.r (w.p F m) m' d v
def PT (B : Bs) (Γ : Ctx σ) (s : σ) (T : DT) (o : Option Bool) : Prop :=
  ∀ F js env m, RG B Γ F js env m s → ∀ v, o = some v → ∃ m', T env m = .ok v m' ∧ Grw m m'
variable {B : Bs} {Γ : Ctx σ} {s : σ} {A A' D : DE} {As : DA} {T U : DT} {w w' : Lv} {R : Rp α} {S : Rp β} {V : Rp γ} {o : Option α} {o' : Option β}
theorem Rp.lvs {F : Fr} {m m' : Mem} {js : List Nat} (h : Wf B F js m) {d : DV} {x : α} (hw : w.ok = true) (r : R.r (w.p F m) m' d x) : R.r F.P m' d x := by
  cases w with
  | new => exact h.new r
  | str => exact r
  | q => cases hw
  | any => cases hw
theorem Rp.lvq {F : Fr} {m m' : Mem} {js : List Nat} (h : Wf B F js m) {d : DV} {x : α} (hw : w.qk = true) (r : R.r (w.p F m) m' d x) : R.r F.Q m' d x := by
  cases w with
  | new => exact R.anti (fun i _ hi => h.pl i (h.qp i hi)) r
  | str => exact R.anti (fun i _ hi => h.qp i hi) r
  | q => exact r
  | any => cases hw
/-- strong enough for a slot of a kind -/
def Lv.elk (el : Bool) (w : Lv) : Bool := if el then w.ok else w.qk
theorem Rp.lve {el : Bool} {F : Fr} {m m' : Mem} {js : List Nat} (h : Wf B F js m) {d : DV} {x : α} (hw : w.elk el = true) (r : R.r (w.p F m) m' d x) : R.r (F.e el) m' d x := by
  cases el with
  | true => exact Rp.lvs h hw r
  | false => exact Rp.lvq h hw r
theorem PE.str (h : PE B Γ s A w R o) (hw : w.ok = true := by rfl) : PE B Γ s A .str R o := fun F js env m g v e => by
  obtain ⟨d, m', h1, h2, h3⟩ := h F js env m g v e
  exact ⟨d, m', h1, h2, Rp.lvs g.2 hw h3⟩
theorem PE.wq (h : PE B Γ s A w R o) (hw : w.qk = true := by rfl) : PE B Γ s A .q R o := fun F js env m g v e => by
  obtain ⟨d, m', h1, h2, h3⟩ := h F js env m g v e
  exact ⟨d, m', h1, h2, Rp.lvq g.2 hw h3⟩
theorem PE.any (h : PE B Γ s A w R o) : PE B Γ s A .any R o := fun F js env m g v e => by
  obtain ⟨d, m', h1, h2, h3⟩ := h F js env m g v e
  exact ⟨d, m', h1, h2, Rp.any h3⟩
theorem PE.flat [i : Flat R] (h : PE B Γ s A w R o) : PE B Γ s A .new R o := fun F js env m g v e => by
  obtain ⟨d, m', h1, h2, h3⟩ := h F js env m g v e
  exact ⟨d, m', h1, h2, i.flat h3⟩
theorem PE.to (h : PE B Γ s A w R o) {o2 : Option α} (e : o2 = o) : PE B Γ s A w R o2 := e ▸ h

/-! ### slots -/
structure ValAt (Γ : Ctx σ) (i : Nat) (R : Rp α) (p : σ → α) : Prop where
  get : ∀ {F : Fr} {js : List Nat} {env : DL.Env} {m : Mem} {s : σ}, Γ F js env m s → ∃ d, env[i]? = some (some d) ∧ R.r F.P m d (p s)
structure ParAt (Γ : Ctx σ) (i : Nat) (R : Rp α) (p : σ → α) : Prop where
  get : ∀ {F : Fr} {js : List Nat} {env : DL.Env} {m : Mem} {s : σ}, Γ F js env m s → ∃ d, env[i]? = some (some d) ∧ R.r F.Q m d (p s)
/-- an owned one: read, changed -/
structure OwnAt (Γ : Ctx σ) (i : Nat) (C : Rc α) (p : σ → α) (u : σ → α → σ) : Prop where
  get : ∀ {F : Fr} {js : List Nat} {env : DL.Env} {m : Mem} {s : σ}, Γ F js env m s → ∃ k ob, env[i]? = some (some (.ref k)) ∧ k ∈ js ∧ m[k]? = some ob ∧ C.c F.Q m ob (p s)
  set : ∀ {F : Fr} {js : List Nat} {env : DL.Env} {m m' : Mem} {s : σ} {k : Nat} {ob : MO} {x : α}, Γ F js env m s → js.Nodup → (∀ i, F.Q i → F.P i) → env[i]? = some (some (.ref k)) → (∀ j o, (¬ F.Q j ∨ (j ∈ js ∧ j ≠ k)) → m[j]? = some o → m'[j]? = some o) → m'[k]? = some ob → C.c F.Q m' ob x → Γ F js env m' (u s x)
section
variable {C : Rc α} {C' : Rc β} {R' : Rp β} {p : σ → α} {u : σ → α → σ} {i : Nat} {l : Option Nat} {k : Nat} {ob : MO}
theorem v0 : ValAt (valC R Γ) 0 R Prod.fst := ⟨fun ⟨d, e, h1, h2, h3⟩ => ⟨d, by rw [h1]; rfl, h2⟩⟩
theorem vD (h : ValAt Γ i R p) : ValAt (deadC Γ) (i + 1) R p := ⟨fun ⟨_, e, h1, h2⟩ => by obtain ⟨d, g1, g2⟩ := h.get h2; exact ⟨d, by rw [h1]; exact g1, g2⟩⟩
theorem vV (h : ValAt Γ i R p) : ValAt (valC R' Γ) (i + 1) R (fun s => p s.2) := ⟨fun ⟨_, e, h1, _, h2⟩ => by obtain ⟨d, g1, g2⟩ := h.get h2; exact ⟨d, by rw [h1]; exact g1, g2⟩⟩
theorem vP (h : ValAt Γ i R p) : ValAt (parC R' Γ) (i + 1) R (fun s => p s.2) := ⟨fun ⟨_, e, h1, _, h2⟩ => by obtain ⟨d, g1, g2⟩ := h.get h2; exact ⟨d, by rw [h1]; exact g1, g2⟩⟩
theorem vO (h : ValAt Γ i R p) : ValAt (ownC l C' Γ) (i + 1) R (fun s => p s.2) := ⟨fun ⟨_, _, e, _, _, h1, _, _, _, h2⟩ => by obtain ⟨d, g1, g2⟩ := h.get h2; exact ⟨d, by rw [h1]; exact g1, g2⟩⟩
theorem vL (h : ValAt Γ i R p) : ValAt (lokC C' k ob Γ) (i + 1) R (fun s => p s.2) := ⟨fun ⟨_, e, _, h1, _, _, _, h2⟩ => by obtain ⟨d, g1, g2⟩ := h.get h2; exact ⟨d, by rw [h1]; exact g1, g2⟩⟩
theorem p0 : ParAt (parC R Γ) 0 R Prod.fst := ⟨fun ⟨d, e, h1, h2, h3⟩ => ⟨d, by rw [h1]; rfl, h2⟩⟩
theorem pD (h : ParAt Γ i R p) : ParAt (deadC Γ) (i + 1) R p := ⟨fun ⟨_, e, h1, h2⟩ => by obtain ⟨d, g1, g2⟩ := h.get h2; exact ⟨d, by rw [h1]; exact g1, g2⟩⟩
theorem pV (h : ParAt Γ i R p) : ParAt (valC R' Γ) (i + 1) R (fun s => p s.2) := ⟨fun ⟨_, e, h1, _, h2⟩ => by obtain ⟨d, g1, g2⟩ := h.get h2; exact ⟨d, by rw [h1]; exact g1, g2⟩⟩
theorem pP (h : ParAt Γ i R p) : ParAt (parC R' Γ) (i + 1) R (fun s => p s.2) := ⟨fun ⟨_, e, h1, _, h2⟩ => by obtain ⟨d, g1, g2⟩ := h.get h2; exact ⟨d, by rw [h1]; exact g1, g2⟩⟩
theorem pO (h : ParAt Γ i R p) : ParAt (ownC l C' Γ) (i + 1) R (fun s => p s.2) := ⟨fun ⟨_, _, e, _, _, h1, _, _, _, h2⟩ => by obtain ⟨d, g1, g2⟩ := h.get h2; exact ⟨d, by rw [h1]; exact g1, g2⟩⟩
theorem pL (h : ParAt Γ i R p) : ParAt (lokC C' k ob Γ) (i + 1) R (fun s => p s.2) := ⟨fun ⟨_, e, _, h1, _, _, _, h2⟩ => by obtain ⟨d, g1, g2⟩ := h.get h2; exact ⟨d, by rw [h1]; exact g1, g2⟩⟩
theorem o0 [ok : CtxOk Γ] : OwnAt (ownC l C Γ) 0 C Prod.fst (fun s x => (x, s.2)) := by
  refine ⟨fun ⟨k, js', e, ob, h1, h2, h3, h4, h5, h6⟩ => ⟨k, ob, by rw [h2]; rfl, by rw [h1]; exact List.mem_cons_self, h3, h4⟩, ?_⟩
  intro F js env m m' s k ob x ⟨k', js', e, ob', h1, h2, h3, h4, h5, h6⟩ nd qp hk st hob hc
  rw [h2] at hk
  have hkk : k' = k := by simpa using hk
  subst hkk
  refine ⟨k', js', e, ob, h1, h2, hob, hc, h5, ok.step qp (fun i o hi => st i o (hi.imp_right fun hm => ⟨by rw [h1]; exact List.mem_cons_of_mem _ hm, ?_⟩)) h6⟩
  rw [h1] at nd
  intro e
  rw [e] at hm
  exact (List.nodup_cons.mp nd).1 hm
theorem oD (h : OwnAt Γ i C p u) : OwnAt (deadC Γ) (i + 1) C p u := by
  refine ⟨fun ⟨_, e, h1, h2⟩ => by obtain ⟨k, ob, g1, g2⟩ := h.get h2; exact ⟨k, ob, by rw [h1]; exact g1, g2⟩, ?_⟩
  intro F js env m m' s k ob x ⟨z, e, h1, h2⟩ nd qp hk st hob hc
  rw [h1] at hk
  exact ⟨z, e, h1, h.set h2 nd qp (by simpa using hk) st hob hc⟩
theorem oV (h : OwnAt Γ i C p u) : OwnAt (valC R' Γ) (i + 1) C (fun s => p s.2) (fun s x => (s.1, u s.2 x)) := by
  refine ⟨fun ⟨_, e, h1, _, h2⟩ => by obtain ⟨k, ob, g1, g2⟩ := h.get h2; exact ⟨k, ob, by rw [h1]; exact g1, g2⟩, ?_⟩
  intro F js env m m' s k ob x ⟨d, e, h1, hr, h2⟩ nd qp hk st hob hc
  rw [h1] at hk
  exact ⟨d, e, h1, R'.step (fun i o hp => st i o (.inl fun q => hp (qp i q))) hr, h.set h2 nd qp (by simpa using hk) st hob hc⟩
theorem oP (h : OwnAt Γ i C p u) : OwnAt (parC R' Γ) (i + 1) C (fun s => p s.2) (fun s x => (s.1, u s.2 x)) := by
  refine ⟨fun ⟨_, e, h1, _, h2⟩ => by obtain ⟨k, ob, g1, g2⟩ := h.get h2; exact ⟨k, ob, by rw [h1]; exact g1, g2⟩, ?_⟩
  intro F js env m m' s k ob x ⟨d, e, h1, hr, h2⟩ nd qp hk st hob hc
  rw [h1] at hk
  exact ⟨d, e, h1, R'.step (fun i o hp => st i o (.inl hp)) hr, h.set h2 nd qp (by simpa using hk) st hob hc⟩
theorem oO (h : OwnAt Γ i C p u) : OwnAt (ownC l C' Γ) (i + 1) C (fun s => p s.2) (fun s x => (s.1, u s.2 x)) := by
  refine ⟨fun ⟨_, _, e, _, hj, h1, _, _, _, h2⟩ => by obtain ⟨k, ob, g1, g2, g3⟩ := h.get h2; exact ⟨k, ob, by rw [h1]; exact g1, by rw [hj]; exact List.mem_cons_of_mem _ g2, g3⟩, ?_⟩
  intro F js env m m' s k ob x ⟨k', js', e, ob', h1, h2, h3, h4, h5, h6⟩ nd qp hk st hob hc
  rw [h2] at hk
  have hk' : e[i]? = some (some (.ref k)) := by simpa using hk
  obtain ⟨k2, ob2, g1, g2, g3⟩ := h.get h6
  have : k2 = k := by rw [g1] at hk'; simpa using hk'
  subst this
  rw [h1] at nd
  have hne : k' ≠ k2 := fun q => (List.nodup_cons.mp nd).1 (by rw [q]; exact g2)
  refine ⟨k', js', e, ob', h1, h2, st k' ob' (.inr ⟨by rw [h1]; exact List.mem_cons_self, hne⟩) h3, C'.step (fun i o hp => st i o (.inl hp)) h4, h5, h.set h6 (List.nodup_cons.mp nd).2 qp hk' (fun j o hj => st j o (hj.imp_right fun q => ⟨by rw [h1]; exact List.mem_cons_of_mem _ q.1, q.2⟩)) hob hc⟩
theorem oL {b : MO} (h : OwnAt Γ i C p u) : OwnAt (lokC C' k b Γ) (i + 1) C (fun s => p s.2) (fun s x => (s.1, u s.2 x)) := by
  refine ⟨fun ⟨_, e, hj, h1, _, _, _, h2⟩ => by obtain ⟨k, ob, g1, g2, g3⟩ := h.get h2; exact ⟨k, ob, by rw [h1]; exact g1, by rw [hj]; exact List.mem_cons_of_mem _ g2, g3⟩, ?_⟩
  intro F js env m m' s k1 ob x ⟨js', e, h1, h2, h3, h4, h5, h6⟩ nd qp hk st hob hc
  rw [h2] at hk
  have hk' : e[i]? = some (some (.ref k1)) := by simpa using hk
  obtain ⟨k2, ob2, g1, g2, g3⟩ := h.get h6
  have : k2 = k1 := by rw [g1] at hk'; simpa using hk'
  subst this
  rw [h1] at nd
  have hne : k ≠ k2 := fun q => (List.nodup_cons.mp nd).1 (by rw [q]; exact g2)
  refine ⟨js', e, h1, h2, st k b (.inr ⟨by rw [h1]; exact List.mem_cons_self, hne⟩) h3, C'.step (fun i o hp => st i o (.inl hp)) h4, h5, h.set h6 (List.nodup_cons.mp nd).2 qp hk' (fun j o hj => st j o (hj.imp_right fun q => ⟨by rw [h1]; exact List.mem_cons_of_mem _ q.1, q.2⟩)) hob hc⟩
/-- one that is walked may be read -/
structure LokAt (Γ : Ctx σ) (i : Nat) (C : Rc α) (p : σ → α) : Prop where
  get : ∀ {F : Fr} {js : List Nat} {env : DL.Env} {m : Mem} {s : σ}, Γ F js env m s → ∃ k ob, env[i]? = some (some (.ref k)) ∧ k ∈ js ∧ m[k]? = some ob ∧ C.c F.Q m ob (p s)
theorem OwnAt.lok (h : OwnAt Γ i C p u) : LokAt Γ i C p := ⟨fun g => h.get g⟩
theorem l0 : LokAt (lokC C k ob Γ) 0 C Prod.fst := ⟨fun ⟨js', e, h1, h2, h3, h4, h5, h6⟩ => ⟨k, ob, by rw [h2]; rfl, by rw [h1]; exact List.mem_cons_self, h3, h4⟩⟩
theorem lD (h : LokAt Γ i C p) : LokAt (deadC Γ) (i + 1) C p := ⟨fun ⟨_, e, h1, h2⟩ => by obtain ⟨k, ob, g1, g2⟩ := h.get h2; exact ⟨k, ob, by rw [h1]; exact g1, g2⟩⟩
theorem lV (h : LokAt Γ i C p) : LokAt (valC R' Γ) (i + 1) C (fun s => p s.2) := ⟨fun ⟨_, e, h1, _, h2⟩ => by obtain ⟨k, ob, g1, g2⟩ := h.get h2; exact ⟨k, ob, by rw [h1]; exact g1, g2⟩⟩
theorem lP (h : LokAt Γ i C p) : LokAt (parC R' Γ) (i + 1) C (fun s => p s.2) := ⟨fun ⟨_, e, h1, _, h2⟩ => by obtain ⟨k, ob, g1, g2⟩ := h.get h2; exact ⟨k, ob, by rw [h1]; exact g1, g2⟩⟩
theorem lO (h : LokAt Γ i C p) : LokAt (ownC l C' Γ) (i + 1) C (fun s => p s.2) := ⟨fun ⟨_, _, e, _, hj, h1, _, _, _, h2⟩ => by obtain ⟨k, ob, g1, g2, g3⟩ := h.get h2; exact ⟨k, ob, by rw [h1]; exact g1, by rw [hj]; exact List.mem_cons_of_mem _ g2, g3⟩⟩
theorem lL {k' : Nat} {b : MO} (h : LokAt Γ i C p) : LokAt (lokC C' k' b Γ) (i + 1) C (fun s => p s.2) := ⟨fun ⟨_, e, hj, h1, _, _, _, h2⟩ => by obtain ⟨k, ob, g1, g2, g3⟩ := h.get h2; exact ⟨k, ob, by rw [h1]; exact g1, by rw [hj]; exact List.mem_cons_of_mem _ g2, g3⟩⟩
end
/-! ### names, constants -/
theorem pe_var {i : Nat} {p : σ → α} (h : ValAt Γ i R p) (e : o = some (p s) := by rfl) : PE B Γ s (eVar i) .str R o := fun F js env m g v hv => by
  subst e; cases hv
  obtain ⟨d, h1, h2⟩ := h.get g.1
  exact ⟨d, m, by simp only [eVar, h1], Grw.refl m, h2⟩
theorem pe_par {i : Nat} {p : σ → α} (h : ParAt Γ i R p) (e : o = some (p s) := by rfl) : PE B Γ s (eVar i) .q R o := fun F js env m g v hv => by
  subst e; cases hv
  obtain ⟨d, h1, h2⟩ := h.get g.1
  exact ⟨d, m, by simp only [eVar, h1], Grw.refl m, h2⟩
theorem pe_own {i : Nat} {o : Option (List α)} {p : σ → List α} (h : LokAt Γ i (CLst R) p) (e : o = some (p s) := by rfl) : PE B Γ s (eVar i) .any (RLst R) o := fun F js env m g v hv => by
  subst e; cases hv
  obtain ⟨k, ob, h1, h2, h3, ds, rfl, h4⟩ := h.get g.1
  exact ⟨.ref k, m, by simp only [eVar, h1], Grw.refl m, k, ds, rfl, fun q => q, h3, h4.imp fun _ _ => Rp.any⟩
theorem pe_ownD {i : Nat} {o : Option (List (Key × α))} {p : σ → List (Key × α)} (h : LokAt Γ i (CDic R) p) (e : o = some (p s) := by rfl) : PE B Γ s (eVar i) .any (RDic R) o := fun F js env m g v hv => by
  subst e; cases hv
  obtain ⟨k, ob, h1, h2, h3, ds, rfl, h4⟩ := h.get g.1
  exact ⟨.ref k, m, by simp only [eVar, h1], Grw.refl m, k, ds, rfl, fun q => q, h3, h4.imp fun _ _ q => ⟨q.1, Rp.any q.2⟩⟩
theorem pe_int {o : Option Int} {i : Int} (e : o = some i := by rfl) : PE B Γ s (eC (.int i)) .new RInt o := fun F js env m g v hv => by
  subst e; cases hv; exact ⟨_, m, rfl, Grw.refl m, rfl⟩
theorem pe_bl {o : Option Bool} {i : Bool} (e : o = some i := by rfl) : PE B Γ s (eC (.bl i)) .new RBl o := fun F js env m g v hv => by
  subst e; cases hv; exact ⟨_, m, rfl, Grw.refl m, rfl⟩
theorem pe_str {o : Option Str} {i : Str} (hz : PyData.canLay0 (.str i) = true := by decide +kernel) (e : o = some i := by rfl) : PE B Γ s (eC (.str i)) .new RStr o := fun F js env m g v hv => by
  subst e; cases hv; exact ⟨_, m, rfl, Grw.refl m, rfl, hz⟩
theorem pe_non {o : Option Unit} (e : o = some () := by rfl) : PE B Γ s (eC .non) .new RNon o := fun F js env m g v hv => by
  subst e; cases hv; exact ⟨_, m, rfl, Grw.refl m, rfl⟩
theorem pe_none {o : Option (Option α)} (e : o = some none := by rfl) : PE B Γ s (eC .non) .new (ROpt R) o := fun F js env m g v hv => by
  subst e; cases hv; exact ⟨_, m, rfl, Grw.refl m, rfl⟩
theorem pe_some {o' : Option (Option α)} (h : PE B Γ s A w R o) (e : o' = o.map some := by rfl) : PE B Γ s A w (ROpt R) o' := fun F js env m g v hv => by
  subst e
  obtain ⟨x, h1, rfl⟩ := Option.map_eq_some_iff.mp hv
  exact h F js env m g x h1

/-! ### operators -/
structure U1 (f : D1) (R : Rp α) (S : Rp β) (g : α → Option β) : Prop where
  run : ∀ {m d x v}, R.r (fun _ => False) m d x → g x = some v → ∃ d' m', f d m = .ok d' m' ∧ Grw m m' ∧ S.r (fun i => i < m.length) m' d' v
structure U2 (f : D2) (R : Rp α) (S : Rp β) (V : Rp γ) (g : α → β → Option γ) : Prop where
  run : ∀ {m d e x y v}, R.r (fun _ => False) m d x → S.r (fun _ => False) m e y → g x y = some v → ∃ d' m', f d e m = .ok d' m' ∧ Grw m m' ∧ V.r (fun i => i < m.length) m' d' v
theorem pe_un {f : D1} {g : α → Option β} (u : U1 f R S g) (h : PE B Γ s A w R o) (e : o' = o.bind g := by rfl) : PE B Γ s (eUn f A) .new S o' := fun F js env m gg v hv => by
  subst e
  obtain ⟨x, h1, h2⟩ := Option.bind_eq_some_iff.mp hv
  obtain ⟨d, m1, g1, g2, g3⟩ := h F js env m gg x h1
  obtain ⟨d', m2, k1, k2, k3⟩ := u.run (Rp.any g3) h2
  exact ⟨d', m2, by simp only [eUn, g1, Out.bind_ok, k1], g2.trans k2, Rp.old k3 g2.1⟩
theorem pe_bin [ok : CtxOk Γ] {f : D2} {g : α → β → Option γ} {ob : Option γ} (u : U2 f R S V g) (h : PE B Γ s A w R o) (h' : PE B Γ s A' w' S o') (e : ob = o.bind fun x => o'.bind fun y => g x y := by rfl) : PE B Γ s (eBin f A A') .new V ob := fun F js env m gg v hv => by
  subst e
  obtain ⟨x, h1, h2⟩ := Option.bind_eq_some_iff.mp hv
  obtain ⟨y, h3, h4⟩ := Option.bind_eq_some_iff.mp h2
  obtain ⟨d, m1, g1, g2, g3⟩ := h F js env m gg x h1
  obtain ⟨d2, m2, k1, k2, k3⟩ := h' F js env m1 (gg.grw g2) y h3
  obtain ⟨d', m3, l1, l2, l3⟩ := u.run (Rp.grw (Rp.any g3) k2) (Rp.any k3) h4
  exact ⟨d', m3, by simp only [eBin, g1, Out.bind_ok, k1, l1], (g2.trans k2).trans l2, Rp.old l3 (g2.trans k2).1⟩
/-! ### tests -/
theorem pt_tst {o : Option Bool} {p : Option Bool} (h : PE B Γ s A w RBl o) (e : p = o := by rfl) : PT B Γ s (tst A) p := fun F js env m gg v hv => by
  subst e
  obtain ⟨d, m1, g1, g2, g3⟩ := h F js env m gg v hv
  cases (show d = .bl v from g3)
  exact ⟨m1, by simp only [tst, g1, Out.bind_ok], g2⟩
structure Tru (R : Rp α) (g : α → Option Bool) : Prop where
  run : ∀ {m d x v}, R.r (fun _ => False) m d x → g x = some v → truD d m = .ok v m
theorem pt_tru {g : α → Option Bool} {p : Option Bool} (u : Tru R g) (h : PE B Γ s A w R o) (e : p = o.bind g := by rfl) : PT B Γ s (tru A) p := fun F js env m gg v hv => by
  subst e
  obtain ⟨x, h1, h2⟩ := Option.bind_eq_some_iff.mp hv
  obtain ⟨d, m1, g1, g2, g3⟩ := h F js env m gg x h1
  exact ⟨m1, by simp only [tru, g1, Out.bind_ok, u.run (Rp.any g3) h2], g2⟩
theorem pt_not {o p : Option Bool} (h : PT B Γ s T o) (e : p = o.bind fun b => some (!b) := by rfl) : PT B Γ s (tNot' T) p := fun F js env m gg v hv => by
  subst e
  obtain ⟨x, h1, h2⟩ := Option.bind_eq_some_iff.mp hv
  obtain ⟨m1, g1, g2⟩ := h F js env m gg x h1
  cases h2
  exact ⟨m1, by simp only [tNot', g1, Out.bind_ok], g2⟩
theorem pt_and [ok : CtxOk Γ] {o o' p : Option Bool} (h : PT B Γ s T o) (h' : PT B Γ s U o') (e : p = o.bind fun b => if b then o' else some false := by rfl) : PT B Γ s (tAnd' T U) p := fun F js env m gg v hv => by
  subst e
  obtain ⟨x, h1, h2⟩ := Option.bind_eq_some_iff.mp hv
  obtain ⟨m1, g1, g2⟩ := h F js env m gg x h1
  cases x with
  | true =>
    obtain ⟨m2, k1, k2⟩ := h' F js env m1 (gg.grw g2) v h2
    exact ⟨m2, by simp only [tAnd', g1, Out.bind_ok, if_true, k1], g2.trans k2⟩
  | false => cases h2; exact ⟨m1, by simp [tAnd', g1], g2⟩
theorem pt_or [ok : CtxOk Γ] {o o' p : Option Bool} (h : PT B Γ s T o) (h' : PT B Γ s U o') (e : p = o.bind fun b => if b then some true else o' := by rfl) : PT B Γ s (tOr' T U) p := fun F js env m gg v hv => by
  subst e
  obtain ⟨x, h1, h2⟩ := Option.bind_eq_some_iff.mp hv
  obtain ⟨m1, g1, g2⟩ := h F js env m gg x h1
  cases x with
  | false =>
    obtain ⟨m2, k1, k2⟩ := h' F js env m1 (gg.grw g2) v h2
    exact ⟨m2, by simp [tOr', g1, k1], g2.trans k2⟩
  | true => cases h2; exact ⟨m1, by simp [tOr', g1], g2⟩
theorem pt_yes {p : Option Bool} (e : p = some true := by rfl) : PT B Γ s tYesD p := fun F js env m gg v hv => by subst e; cases hv; exact ⟨m, rfl, Grw.refl m⟩
/-- as values -/
theorem pe_and [ok : CtxOk Γ] {o o' p : Option Bool} (h : PE B Γ s A w RBl o) (h' : PE B Γ s A' w' RBl o') (e : p = o.bind fun b => if b then o' else some false := by rfl) : PE B Γ s (eAndV A A') .new RBl p := fun F js env m gg v hv => by
  subst e
  obtain ⟨x, h1, h2⟩ := Option.bind_eq_some_iff.mp hv
  obtain ⟨d, m1, g1, g2, g3⟩ := h F js env m gg x h1
  cases (show d = .bl x from g3)
  cases x with
  | true =>
    obtain ⟨d2, m2, k1, k2, k3⟩ := h' F js env m1 (gg.grw g2) v h2
    exact ⟨d2, m2, by simp only [eAndV, g1, Out.bind_ok, k1], g2.trans k2, k3⟩
  | false => cases h2; exact ⟨.bl false, m1, by simp only [eAndV, g1, Out.bind_ok], g2, rfl⟩
theorem pe_or [ok : CtxOk Γ] {o o' p : Option Bool} (h : PE B Γ s A w RBl o) (h' : PE B Γ s A' w' RBl o') (e : p = o.bind fun b => if b then some true else o' := by rfl) : PE B Γ s (eOrV A A') .new RBl p := fun F js env m gg v hv => by
  subst e
  obtain ⟨x, h1, h2⟩ := Option.bind_eq_some_iff.mp hv
  obtain ⟨d, m1, g1, g2, g3⟩ := h F js env m gg x h1
  cases (show d = .bl x from g3)
  cases x with
  | false =>
    obtain ⟨d2, m2, k1, k2, k3⟩ := h' F js env m1 (gg.grw g2) v h2
    exact ⟨d2, m2, by simp only [eOrV, g1, Out.bind_ok, k1], g2.trans k2, k3⟩
  | true => cases h2; exact ⟨.bl true, m1, by simp only [eOrV, g1, Out.bind_ok], g2, rfl⟩
theorem pe_not {o p : Option Bool} (h : PE B Γ s A w RBl o) (e : p = o.bind fun b => some (!b) := by rfl) : PE B Γ s (eNotV A) .new RBl p := fun F js env m gg v hv => by
  subst e
  obtain ⟨x, h1, h2⟩ := Option.bind_eq_some_iff.mp hv
  obtain ⟨d, m1, g1, g2, g3⟩ := h F js env m gg x h1
  cases (show d = .bl x from g3)
  cases h2
  exact ⟨_, m1, by simp only [eNotV, g1, Out.bind_ok], g2, rfl⟩
theorem pe_if [ok : CtxOk Γ] {c : Option Bool} {o1 o2 p : Option α} (h : PT B Γ s T c) (h1 : PE B Γ s A w R o1) (h2 : PE B Γ s A' w' R o2) (hw : w.ok = true := by rfl) (hw' : w'.ok = true := by rfl) (e : p = c.bind fun b => if b then o1 else o2 := by rfl) : PE B Γ s (eIf T A A') .str R p := fun F js env m gg v hv => by
  subst e
  obtain ⟨x, e1, e2⟩ := Option.bind_eq_some_iff.mp hv
  obtain ⟨m1, g1, g2⟩ := h F js env m gg x e1
  cases x with
  | true =>
    obtain ⟨d, m2, k1, k2, k3⟩ := h1 F js env m1 (gg.grw g2) v e2
    exact ⟨d, m2, by simp only [eIf, g1, Out.bind_ok, if_true, k1], g2.trans k2, Rp.lvs (gg.grw g2).2 hw k3⟩
  | false =>
    obtain ⟨d, m2, k1, k2, k3⟩ := h2 F js env m1 (gg.grw g2) v e2
    exact ⟨d, m2, by simp [eIf, g1, k1], g2.trans k2, Rp.lvs (gg.grw g2).2 hw' k3⟩
theorem pe_ifQ [ok : CtxOk Γ] {c : Option Bool} {o1 o2 p : Option α} (h : PT B Γ s T c) (h1 : PE B Γ s A w R o1) (h2 : PE B Γ s A' w' R o2) (hw : w.qk = true := by rfl) (hw' : w'.qk = true := by rfl) (e : p = c.bind fun b => if b then o1 else o2 := by rfl) : PE B Γ s (eIf T A A') .q R p := fun F js env m gg v hv => by
  subst e
  obtain ⟨x, e1, e2⟩ := Option.bind_eq_some_iff.mp hv
  obtain ⟨m1, g1, g2⟩ := h F js env m gg x e1
  cases x with
  | true =>
    obtain ⟨d, m2, k1, k2, k3⟩ := h1 F js env m1 (gg.grw g2) v e2
    exact ⟨d, m2, by simp only [eIf, g1, Out.bind_ok, if_true, k1], g2.trans k2, Rp.lvq (gg.grw g2).2 hw k3⟩
  | false =>
    obtain ⟨d, m2, k1, k2, k3⟩ := h2 F js env m1 (gg.grw g2) v e2
    exact ⟨d, m2, by simp [eIf, g1, k1], g2.trans k2, Rp.lvq (gg.grw g2).2 hw' k3⟩
theorem Lv.lt {F : Fr} {m : Mem} {js : List Nat} (w : Lv) (g : Wf B F js m) : ∀ i, w.p F m i → i < m.length := fun i hi => by
  cases w with
  | new => exact hi
  | str => exact g.pl i hi
  | q => exact g.pl i (g.qp i hi)
  | any => exact hi.elim
/-! ### arguments, calls -/
structure Ra (σ : Type) where
  r : (Nat → Prop) → Mem → List DV → σ → Prop
  step : ∀ {P : Nat → Prop} {m m' : Mem} {d : List DV} {x : σ}, (∀ i o, ¬ P i → m[i]? = some o → m'[i]? = some o) → r P m d x → r P m' d x
  anti : ∀ {P P' : Nat → Prop} {m : Mem} {d : List DV} {x : σ}, (∀ i, i < m.length → P' i → P i) → r P m d x → r P' m d x
def RaN : Ra Unit := ⟨fun _ _ ds _ => ds = [], fun _ h => h, fun _ h => h⟩
def RaC {α τ : Type} (R : Rp α) (Rs : Ra τ) : Ra (α × τ) := ⟨fun P m ds x => ∃ d es, ds = d :: es ∧ R.r P m d x.1 ∧ Rs.r P m es x.2, fun k ⟨d, es, e, h1, h2⟩ => ⟨d, es, e, R.step k h1, Rs.step k h2⟩, fun k ⟨d, es, e, h1, h2⟩ => ⟨d, es, e, R.anti k h1, Rs.anti k h2⟩⟩
def RaL {α : Type} (R : Rp α) : Ra (List α) := ⟨fun P m ds xs => Fa (R.r P m) ds xs, fun k h => h.imp fun _ _ => R.step k, fun k h => h.imp fun _ _ => R.anti k⟩
def PA (B : Bs) (Γ : Ctx σ) (s : σ) (As : DA) (w : Lv) (R : Ra τ) (o : Option τ) : Prop :=
  ∀ F js env m, RG B Γ F js env m s → ∀ v, o = some v → ∃ ds m', As env m = .ok ds m' ∧ Grw m m' ∧ R.r (w.p F m) m' ds v
theorem pa_nil {o : Option Unit} (e : o = some () := by rfl) : PA B Γ s aNil w RaN o := fun F js env m gg v hv => ⟨[], m, rfl, Grw.refl m, rfl⟩
theorem Lv.mid {F : Fr} {m m1 : Mem} (w : Lv) (g : Grw m m1) : ∀ i, w.p F m i → w.p F m1 i := fun i h => by
  cases w with
  | new => exact Nat.lt_of_lt_of_le h g.1
  | str => exact h
  | q => exact h
  | any => exact h
theorem pa_cons [ok : CtxOk Γ] {Rs : Ra τ} {o' : Option τ} {p : Option (α × τ)} (h : PE B Γ s A w R o) (h' : PA B Γ s As w Rs o') (e : p = o.bind fun x => o'.bind fun xs => some (x, xs) := by rfl) : PA B Γ s (aCons A As) w (RaC R Rs) p := fun F js env m gg v hv => by
  subst e
  obtain ⟨x, h1, h2⟩ := Option.bind_eq_some_iff.mp hv
  obtain ⟨y, h3, h4⟩ := Option.bind_eq_some_iff.mp h2
  cases h4
  obtain ⟨d, m1, g1, g2, g3⟩ := h F js env m gg x h1
  obtain ⟨ds, m2, k1, k2, k3⟩ := h' F js env m1 (gg.grw g2) y h3
  exact ⟨d :: ds, m2, by simp only [aCons, g1, Out.bind_ok, k1], g2.trans k2, d, ds, rfl, Rp.grw g3 k2, Rs.anti (fun i _ hi => w.mid g2 i hi) k3⟩
/-- so many values -/
def PAL (B : Bs) (Γ : Ctx σ) (s : σ) (As : DA) (w : Lv) (R : Rp α) (o : Option (List α)) (n : Nat) : Prop := PA B Γ s As w (RaL R) o ∧ ∀ v, o = some v → v.length = n
theorem pal_nil {o : Option (List α)} (e : o = some [] := by rfl) : PAL B Γ s aNil w R o 0 := ⟨fun F js env m gg v hv => by subst e; cases hv; exact ⟨[], m, rfl, Grw.refl m, .nil⟩, fun v hv => by subst e; cases hv; rfl⟩
theorem pal_cons [ok : CtxOk Γ] {o' p : Option (List α)} {n : Nat} (h : PE B Γ s A w R o) (h' : PAL B Γ s As w R o' n) (e : p = o.bind fun x => o'.bind fun xs => some (x :: xs) := by rfl) : PAL B Γ s (aCons A As) w R p (n + 1) := by
  refine ⟨fun F js env m gg v hv => ?_, fun v hv => ?_⟩
  rotate_left
  · subst e
    obtain ⟨x, h1, h2⟩ := Option.bind_eq_some_iff.mp hv
    obtain ⟨y, h3, h4⟩ := Option.bind_eq_some_iff.mp h2
    cases h4
    simp [h'.2 y h3]
  subst e
  obtain ⟨x, h1, h2⟩ := Option.bind_eq_some_iff.mp hv
  obtain ⟨y, h3, h4⟩ := Option.bind_eq_some_iff.mp h2
  cases h4
  obtain ⟨d, m1, g1, g2, g3⟩ := h F js env m gg x h1
  obtain ⟨ds, m2, k1, k2, k3⟩ := h'.1 F js env m1 (gg.grw g2) y h3
  exact ⟨d :: ds, m2, by simp only [aCons, g1, Out.bind_ok, k1], g2.trans k2, .cons (Rp.grw g3 k2) ((RaL R).anti (fun i _ hi => w.mid g2 i hi) k3)⟩
structure Fun (D : DF) (Rs : Ra τ) (R : Rp ρ) (f : τ → Option ρ) : Prop where
  run : ∀ {P : Nat → Prop} {m ds x v}, (∀ i, P i → i < m.length) → Rs.r P m ds x → f x = some v → ∃ d m', D ds m = .ok d m' ∧ Grw m m' ∧ R.r P m' d v
theorem pe_call {D : DF} {Rs : Ra τ} {V : Rp ρ} {f : τ → Option ρ} {o : Option τ} {p : Option ρ} (u : Fun D Rs V f) (h : PA B Γ s As w Rs o) (e : p = o.bind f := by rfl) : PE B Γ s (eCall D As) w V p := fun F js env m gg v hv => by
  subst e
  obtain ⟨x, h1, h2⟩ := Option.bind_eq_some_iff.mp hv
  obtain ⟨ds, m1, g1, g2, g3⟩ := h F js env m gg x h1
  obtain ⟨d', m2, k1, k2, k3⟩ := u.run (fun i hi => Nat.lt_of_lt_of_le (w.lt gg.2 i hi) g2.1) g3 h2
  exact ⟨d', m2, by simp only [eCall, g1, Out.bind_ok, k1], g2.trans k2, k3⟩
theorem f1_fun {f : D1} {g : α → Option β} (u : U1 f R S g) : Fun (f1 f) (RaC R RaN) S (fun x => g x.1) := ⟨fun {P m ds x v} hP ⟨d, es, e, h1, h2⟩ hv => by
  cases (show es = [] from h2)
  subst e
  obtain ⟨d', m', k1, k2, k3⟩ := u.run (Rp.any h1) hv
  exact ⟨d', m', k1, k2, S.anti (fun i _ hi => hP i hi) k3⟩⟩
theorem f2_fun {f : D2} {g : α → β → Option γ} (u : U2 f R S V g) : Fun (f2 f) (RaC R (RaC S RaN)) V (fun x => g x.1 x.2.1) := ⟨fun {P m ds x v} hP ⟨d, es, e, h1, d2, es2, e2, h2, h3⟩ hv => by
  cases (show es2 = [] from h3)
  subst e e2
  obtain ⟨d', m', k1, k2, k3⟩ := u.run (Rp.any h1) (Rp.any h2) hv
  exact ⟨d', m', k1, k2, V.anti (fun i _ hi => hP i hi) k3⟩⟩
/-! ### displays -/
@[irreducible] def szO (n : Nat) : Option Unit := if n ≤ 16777216 then some () else none
@[simp] theorem szO_of {n : Nat} (h : n ≤ 16777216) : szO n = some () := by unfold szO; exact if_pos h
theorem szO_iff {n : Nat} {u : Unit} : szO n = some u ↔ n ≤ 16777216 := by unfold szO; split <;> simp [*]
theorem Fa.len' {α β : Type} {R : α → β → Prop} {as : List α} {bs : List β} (h : Fa R as bs) : as.length = bs.length := h.len
theorem pe_tupL [ok : CtxOk Γ] {o p : Option (List α)} {n : Nat} (h : PAL B Γ s As w R o n) (e : p = o := by rfl) (hn : Nat.ble n 16777216 = true := by rfl) : PE B Γ s (eTup As) w (RTup R) p := fun F js env m gg v hv => by
  subst e
  obtain ⟨ds, m1, g1, g2, g3⟩ := h.1 F js env m gg v hv
  exact ⟨.tup ds, m1, by simp only [eTup, g1, Out.bind_ok]; rw [if_pos (by rw [Fa.len g3, h.2 v hv]; exact Nat.le_of_ble_eq_true hn)], g2, ds, rfl, g3⟩
theorem pe_tup2 {p : Option (α × β)} {o : Option (α × β × Unit)} (h : PA B Γ s As w (RaC R (RaC S RaN)) o) (e : p = o.bind fun x => some (x.1, x.2.1) := by rfl) : PE B Γ s (eTup As) w (RP2 R S) p := fun F js env m gg v hv => by
  subst e
  obtain ⟨x, h1, h2⟩ := Option.bind_eq_some_iff.mp hv
  cases h2
  obtain ⟨ds, m1, g1, g2, d, es, e1, q1, d2, es2, e2, q2, q3⟩ := h F js env m gg x h1
  cases (show es2 = [] from q3)
  subst e1 e2
  exact ⟨_, m1, by simp only [eTup, g1, Out.bind_ok]; rw [if_pos (by simp)], g2, d, d2, rfl, q1, q2⟩
theorem pe_tup3 {p : Option (α × β × γ)} {o : Option (α × β × γ × Unit)} (h : PA B Γ s As w (RaC R (RaC S (RaC V RaN))) o) (e : p = o.bind fun x => some (x.1, x.2.1, x.2.2.1) := by rfl) : PE B Γ s (eTup As) w (RP3 R S V) p := fun F js env m gg v hv => by
  subst e
  obtain ⟨x, h1, h2⟩ := Option.bind_eq_some_iff.mp hv
  cases h2
  obtain ⟨ds, m1, g1, g2, d, es, e1, q1, d2, es2, e2, q2, d3, es3, e3, q3, q4⟩ := h F js env m gg x h1
  cases (show es3 = [] from q4)
  subst e1 e2 e3
  exact ⟨_, m1, by simp only [eTup, g1, Out.bind_ok]; rw [if_pos (by simp)], g2, d, d2, d3, rfl, q1, q2, q3⟩
theorem pe_tup4 {δ : Type} {W : Rp δ} {p : Option (α × β × γ × δ)} {o : Option (α × β × γ × δ × Unit)} (h : PA B Γ s As w (RaC R (RaC S (RaC V (RaC W RaN)))) o) (e : p = o.bind fun x => some (x.1, x.2.1, x.2.2.1, x.2.2.2.1) := by rfl) : PE B Γ s (eTup As) w (RP4 R S V W) p := fun F js env m gg v hv => by
  subst e
  obtain ⟨x, h1, h2⟩ := Option.bind_eq_some_iff.mp hv
  cases h2
  obtain ⟨ds, m1, g1, g2, d, es, e1, q1, d2, es2, e2, q2, d3, es3, e3, q3, d4, es4, e4, q4, q5⟩ := h F js env m gg x h1
  cases (show es4 = [] from q5)
  subst e1 e2 e3 e4
  exact ⟨_, m1, by simp only [eTup, g1, Out.bind_ok]; rw [if_pos (by simp)], g2, d, d2, d3, d4, rfl, q1, q2, q3, q4⟩
theorem pe_tup5 {δ ε : Type} {W : Rp δ} {Z : Rp ε} {p : Option (α × β × γ × δ × ε)} {o : Option (α × β × γ × δ × ε × Unit)} (h : PA B Γ s As w (RaC R (RaC S (RaC V (RaC W (RaC Z RaN))))) o) (e : p = o.bind fun x => some (x.1, x.2.1, x.2.2.1, x.2.2.2.1, x.2.2.2.2.1) := by rfl) : PE B Γ s (eTup As) w (RP5 R S V W Z) p := fun F js env m gg v hv => by
  subst e
  obtain ⟨x, h1, h2⟩ := Option.bind_eq_some_iff.mp hv
  cases h2
  obtain ⟨ds, m1, g1, g2, d, es, e1, q1, d2, es2, e2, q2, d3, es3, e3, q3, d4, es4, e4, q4, d5, es5, e5, q5, q6⟩ := h F js env m gg x h1
  cases (show es5 = [] from q6)
  subst e1 e2 e3 e4 e5
  exact ⟨_, m1, by simp only [eTup, g1, Out.bind_ok]; rw [if_pos (by simp)], g2, d, d2, d3, d4, d5, rfl, q1, q2, q3, q4, q5⟩
theorem pe_lst {o p : Option (List α)} {n : Nat} (h : PAL B Γ s As w R o n) (hw : w.ok = true := by rfl) (e : p = o := by rfl) (hn : Nat.ble n 16777216 = true := by rfl) : PE B Γ s (eLst As) .str (RLst R) p := fun F js env m gg v hv => by
  subst e
  obtain ⟨ds, m1, g1, g2, g3⟩ := h.1 F js env m gg v hv
  refine ⟨.ref m1.length, m1 ++ [.lst ds], by simp only [eLst, g1, Out.bind_ok]; rw [if_pos (by rw [Fa.len g3, h.2 v hv]; exact Nat.le_of_ble_eq_true hn)], g2.trans (Grw.app _ _), m1.length, ds, rfl, fun q => ?_, by simp [isL], Fa.imp (fun a b r => Rp.grw (Rp.lvs gg.2 hw r) (Grw.app _ _)) g3⟩
  have := gg.2.pl _ q
  have := g2.1
  omega
/-- of what holds no list: new -/
theorem pe_lstF [i : Flat R] {o p : Option (List α)} {n : Nat} (h : PAL B Γ s As w R o n) (e : p = o := by rfl) (hn : Nat.ble n 16777216 = true := by rfl) : PE B Γ s (eLst As) .new (RLst R) p := fun F js env m gg v hv => by
  subst e
  obtain ⟨ds, m1, g1, g2, g3⟩ := h.1 F js env m gg v hv
  refine ⟨.ref m1.length, m1 ++ [.lst ds], by simp only [eLst, g1, Out.bind_ok]; rw [if_pos (by rw [Fa.len g3, h.2 v hv]; exact Nat.le_of_ble_eq_true hn)], g2.trans (Grw.app _ _), m1.length, ds, rfl, fun q => ?_, by simp [isL], Fa.imp (fun a b r => i.flat r) g3⟩
  have q' : m1.length < m.length := q
  have := g2.1
  omega
end
end TM

end
section
set_option Elab.async false
set_option linter.all false
set_option maxRecDepth 100000
set_option maxHeartbeats 4000000
set_option autoImplicit false
/-! TM3: what is walked, targets, comprehensions. -/
namespace TM
open PySem PySem.Spec L2 DL
section
variable {σ τ α β γ δ ρ : Type} {B : Bs} {Γ : Ctx σ} {s : σ} {A A' D : DE} {As : DA} {T U : DT} {w w' : Lv} {R : Rp α} {S : Rp β} {V : Rp γ} {o : Option α} {o' : Option β}
def PI (B : Bs) (Γ : Ctx σ) (s : σ) (I : DI) (g el : Bool) (R : Rp α) (o : Option (List α)) : Prop :=
  ∀ F js env m, RG B Γ F js env m s → ∀ v, o = some v → ∃ it m', I env m = .ok it m' ∧ Grw m m' ∧ Fa (R.r (F.e el) m') it.ds v ∧ guard it.gs m' ∧ (g = true → ∀ p ∈ it.gs, ¬ F.Q p.1)
theorem guard0 (m : Mem) : guard [] m := fun p hp => by cases hp
theorem guard1 {m : Mem} {k : Nat} {ob : MO} (h : m[k]? = some ob) : guard [(k, ob)] m := fun p hp => by rw [List.mem_singleton.mp hp]; exact h
theorem pi_tup [i : Flat R] {o p : Option (List α)} (h : PE B Γ s A w (RTup R) o) (e : p = o := by rfl) : PI B Γ s (iAnyD A) true true R p := fun F js env m gg v hv => by
  subst e
  obtain ⟨d, m1, g1, g2, ds, rfl, g3⟩ := h F js env m gg v hv
  exact ⟨⟨ds, []⟩, m1, by simp only [iAnyD, g1, Out.bind_ok], g2, g3.imp fun _ _ => i.flat, guard0 m1, fun _ p hp => by cases hp⟩
/-- a list that is told strongly -/
theorem pi_lst {o p : Option (List α)} (h : PE B Γ s A w (RLst R) o) (hw : w.ok = true := by rfl) (e : p = o := by rfl) : PI B Γ s (iAnyD A) true true R p := fun F js env m gg v hv => by
  subst e
  obtain ⟨d, m1, g1, g2, g3⟩ := h F js env m gg v hv
  obtain ⟨k, ds, rfl, hp, hl, h4⟩ := Rp.lvs gg.2 hw g3
  exact ⟨⟨ds, [(k, .lst ds)]⟩, m1, by simp only [iAnyD, g1, Out.bind_ok, show m1[k]? = some (MO.lst ds) from hl], g2, h4, guard1 hl, fun _ p hp2 q => by rw [List.mem_singleton.mp hp2] at q; exact hp (gg.2.qp _ q)⟩
/-- any list of what holds no list -/
theorem pi_any [i : Flat R] {o p : Option (List α)} (h : PE B Γ s A w (RLst R) o) (e : p = o := by rfl) : PI B Γ s (iAnyD A) false true R p := fun F js env m gg v hv => by
  subst e
  obtain ⟨d, m1, g1, g2, g3⟩ := h F js env m gg v hv
  obtain ⟨k, ds, rfl, hp, hl, h4⟩ := g3
  exact ⟨⟨ds, [(k, .lst ds)]⟩, m1, by simp only [iAnyD, g1, Out.bind_ok, show m1[k]? = some (MO.lst ds) from hl], g2, h4.imp fun _ _ => i.flat, guard1 hl, fun q => by cases q⟩
/-- a list that was given -/
theorem pi_par [i : Flat R] {j : Nat} {o : Option (List α)} {p : σ → List α} (h : ParAt Γ j (RLst R) p) (e : o = some (p s) := by rfl) : PI B Γ s (iAnyD (eVar j)) true true R o := fun F js env m gg v hv => by
  subst e; cases hv
  obtain ⟨d, h1, k, ds, rfl, hp, hl, h4⟩ := h.get gg.1
  exact ⟨⟨ds, [(k, .lst ds)]⟩, m, by simp only [iAnyD, eVar, h1, Out.bind_ok, show m[k]? = some (MO.lst ds) from hl], Grw.refl m, h4.imp fun _ _ => i.flat, guard1 hl, fun _ p hp2 q => by rw [List.mem_singleton.mp hp2] at q; exact hp q⟩
theorem pi_weak {I : DI} {g : Bool} {o p : Option (List α)} {el : Bool} (h : PI B Γ s I g el R o) (e : p = o := by rfl) : PI B Γ s I false el R p := fun F js env m gg v hv => by
  subst e
  obtain ⟨it, m', h1, h2, h3, h4, h5⟩ := h F js env m gg v hv
  exact ⟨it, m', h1, h2, h3, h4, fun q => by cases q⟩
@[irreducible] def rngO (a b : Int) : Option (List Int) := if (-1000000000 ≤ a ∧ a ≤ 1000000000) ∧ (-1000000000 ≤ b ∧ b ≤ 1000000000) then some ((List.range (b - a).toNat).map fun (i : Nat) => a + (i : Int)) else none
theorem fa_rng {P : Nat → Prop} {m : Mem} (a : Int) (n : Nat) : Fa (RInt.r P m) (rng a n) ((List.range n).map fun (i : Nat) => a + (i : Int)) := by
  have : ∀ ns : List Nat, Fa (RInt.r P m) (ns.map fun (i : Nat) => DV.int (a + (i : Int))) (ns.map fun (i : Nat) => a + (i : Int)) := by
    intro ns
    induction ns with
    | nil => exact .nil
    | cons n ns ih => exact .cons rfl ih
  exact this _
theorem pi_rng1 {o : Option Int} {p : Option (List Int)} (h : PE B Γ s A w RInt o) (e : p = o.bind fun n => rngO 0 n := by rfl) : PI B Γ s (iRng1D A) true true RInt p := fun F js env m gg v hv => by
  subst e
  obtain ⟨n, h1, h2⟩ := Option.bind_eq_some_iff.mp hv
  obtain ⟨d, m1, g1, g2, g3⟩ := h F js env m gg n h1
  cases (show d = .int n from g3)
  unfold rngO at h2
  split at h2
  · rename_i hi
    cases h2
    refine ⟨⟨rng 0 n.toNat, []⟩, m1, by simp only [iRng1D, g1, Out.bind_ok]; rw [if_pos (in62 hi.2.1 hi.2.2)], g2, ?_, guard0 m1, fun _ p hp => by cases hp⟩
    rw [Int.sub_zero]; exact fa_rng 0 n.toNat
  · cases h2
theorem pi_rng2 [ok : CtxOk Γ] {o o2 : Option Int} {p : Option (List Int)} (h : PE B Γ s A w RInt o) (h' : PE B Γ s A' w' RInt o2) (e : p = o.bind fun a => o2.bind fun b => rngO a b := by rfl) : PI B Γ s (iRng2D A A') true true RInt p := fun F js env m gg v hv => by
  subst e
  obtain ⟨a, h1, h2⟩ := Option.bind_eq_some_iff.mp hv
  obtain ⟨b, h3, h4⟩ := Option.bind_eq_some_iff.mp h2
  obtain ⟨d, m1, g1, g2, g3⟩ := h F js env m gg a h1
  obtain ⟨d2, m2, k1, k2, k3⟩ := h' F js env m1 (gg.grw g2) b h3
  cases (show d = .int a from g3)
  cases (show d2 = .int b from k3)
  unfold rngO at h4
  split at h4
  · rename_i hi
    cases h4
    exact ⟨⟨rng a (b - a).toNat, []⟩, m2, by simp only [iRng2D, g1, Out.bind_ok, k1]; rw [if_pos ⟨in62 hi.1.1 hi.1.2, in62 hi.2.1 hi.2.2⟩], g2.trans k2, fa_rng a _, guard0 m2, fun _ p hp => by cases hp⟩
  · cases h4
/-- signs of a text -/
def chars (z : Str) : List Str := z.cps.toList.map fun c => ⟨#[c]⟩
theorem pi_str (hc : ∀ z : Str, strG z → ∀ c ∈ chars z, strG c) {o : Option Str} {p : Option (List Str)} (h : PE B Γ s A w RStr o) (e : p = o.bind fun z => some (chars z) := by rfl) : PI B Γ s (iAnyD A) true true RStr p := fun F js env m gg v hv => by
  subst e
  obtain ⟨z, h1, h2⟩ := Option.bind_eq_some_iff.mp hv
  cases h2
  obtain ⟨d, m1, g1, g2, rfl, g3⟩ := h F js env m gg z h1
  have hz := hc z g3
  refine ⟨⟨(chars z).map DV.str, []⟩, m1, ?_, g2, ?_, guard0 m1, fun _ p hp => by cases hp⟩
  · simp only [iAnyD, g1, Out.bind_ok, chars, List.map_map]
    rfl
  · have : ∀ zs : List Str, (∀ c ∈ zs, strG c) → Fa (RStr.r F.P m1) (zs.map DV.str) zs := by
      intro zs
      induction zs with
      | nil => intro _; exact .nil
      | cons c zs ih => intro h; exact .cons ⟨rfl, h c List.mem_cons_self⟩ (ih fun c hc => h c (List.mem_cons_of_mem _ hc))
    exact this _ hz
/-- places and items -/
def enumL (xs : List α) : List (Int × α) := xs.zipIdx.map fun p => ((p.2 : Int), p.1)
theorem fa_enm {r : DV → α → Prop} {P : Nat → Prop} {m : Mem} {R : Rp α} : ∀ {ds : List DV} {xs : List α} (k : Nat), Fa (R.r P m) ds xs → Fa ((RP2 RInt R).r P m) (enm ds k) ((xs.zipIdx k).map fun p => ((p.2 : Int), p.1))
  | [], _, _, .nil => .nil
  | d :: ds, _, k, .cons p q => .cons ⟨_, _, rfl, rfl, p⟩ (fa_enm (r := r) (k + 1) q)
theorem pi_enumT [i : Flat R] {o : Option (List α)} {p : Option (List (Int × α))} (h : PE B Γ s A w (RTup R) o) (e : p = o.bind fun xs => some (enumL xs) := by rfl) : PI B Γ s (iEnumD A) true true (RP2 RInt R) p := fun F js env m gg v hv => by
  subst e
  obtain ⟨z, h1, h2⟩ := Option.bind_eq_some_iff.mp hv
  cases h2
  obtain ⟨d, m1, g1, g2, ds, rfl, g3⟩ := h F js env m gg z h1
  exact ⟨⟨enm ds 0, []⟩, m1, by simp only [iEnumD, g1, Out.bind_ok], g2, fa_enm (r := fun _ _ => True) 0 (g3.imp fun _ _ => i.flat), guard0 m1, fun _ p hp => by cases hp⟩
theorem pi_enumL {o : Option (List α)} {p : Option (List (Int × α))} (h : PE B Γ s A w (RLst R) o) (hw : w.ok = true := by rfl) (e : p = o.bind fun xs => some (enumL xs) := by rfl) : PI B Γ s (iEnumD A) true true (RP2 RInt R) p := fun F js env m gg v hv => by
  subst e
  obtain ⟨z, h1, h2⟩ := Option.bind_eq_some_iff.mp hv
  cases h2
  obtain ⟨d, m1, g1, g2, g3⟩ := h F js env m gg z h1
  obtain ⟨k, ds, rfl, hp, hl, h4⟩ := Rp.lvs gg.2 hw g3
  exact ⟨⟨enm ds 0, [(k, .lst ds)]⟩, m1, by simp only [iEnumD, g1, Out.bind_ok, show m1[k]? = some (MO.lst ds) from hl], g2, fa_enm (r := fun _ _ => True) 0 h4, guard1 hl, fun _ p hp2 q => by rw [List.mem_singleton.mp hp2] at q; exact hp (gg.2.qp _ q)⟩
theorem pi_enumW [i : Flat R] {o : Option (List α)} {p : Option (List (Int × α))} (h : PE B Γ s A w (RLst R) o) (e : p = o.bind fun xs => some (enumL xs) := by rfl) : PI B Γ s (iEnumD A) false true (RP2 RInt R) p := fun F js env m gg v hv => by
  subst e
  obtain ⟨z, h1, h2⟩ := Option.bind_eq_some_iff.mp hv
  cases h2
  obtain ⟨d, m1, g1, g2, k, ds, rfl, hp, hl, h4⟩ := h F js env m gg z h1
  exact ⟨⟨enm ds 0, [(k, .lst ds)]⟩, m1, by simp only [iEnumD, g1, Out.bind_ok, show m1[k]? = some (MO.lst ds) from hl], g2, fa_enm (r := fun _ _ => True) 0 (h4.imp fun _ _ => i.flat), guard1 hl, fun q => by cases q⟩

/-! ### targets -/
structure Tg {el : Bool} (Γ : Ctx σ) (R : Rp α) (G : DG) (Γ' : Ctx τ) (e : σ → α → τ) : Prop where
  run : ∀ {F : Fr} {js : List Nat} {env : DL.Env} {m : Mem} {d : DV} {s : σ} {x : α}, Γ F js env m s → R.r (F.e el) m d x → ∃ env', G d env m = .ok env' m ∧ Γ' F js env' m (e s x)
/-- a slot is given a value -/
structure St {el : Bool} (Γ : Ctx σ) (i : Nat) (R : Rp α) (Γ' : Ctx τ) (e : σ → α → τ) : Prop where
  run : ∀ {F : Fr} {js : List Nat} {env : DL.Env} {m : Mem} {d : DV} {s : σ} {x : α}, Γ F js env m s → R.r (F.e el) m d x → Γ' F js (env.set i (some d)) m (e s x)
section
variable {C : Rc δ} {R' : Rp β} {Γ' : Ctx τ} {e : σ → α → τ} {i : Nat} {l : Option Nat} {k : Nat} {ob : MO}
theorem s0 : St (el := true) (deadC Γ) 0 R (valC R Γ) (fun s x => (x, s)) := ⟨fun {F js env m d s x} ⟨_, e, h1, h2⟩ r => ⟨d, e, by rw [h1]; rfl, r, h2⟩⟩
theorem s1 : St (el := true) (valC R' Γ) 0 R (valC R Γ) (fun s x => (x, s.2)) := ⟨fun {F js env m d s x} ⟨_, e, h1, _, h2⟩ r => ⟨d, e, by rw [h1]; rfl, r, h2⟩⟩
theorem s2 : St (el := true) (parC R' Γ) 0 R (valC R Γ) (fun s x => (x, s.2)) := ⟨fun {F js env m d s x} ⟨_, e, h1, _, h2⟩ r => ⟨d, e, by rw [h1]; rfl, r, h2⟩⟩
theorem s0q : St (el := false) (deadC Γ) 0 R (parC R Γ) (fun s x => (x, s)) := ⟨fun {F js env m d s x} ⟨_, e, h1, h2⟩ r => ⟨d, e, by rw [h1]; rfl, r, h2⟩⟩
theorem s1q : St (el := false) (valC R' Γ) 0 R (parC R Γ) (fun s x => (x, s.2)) := ⟨fun {F js env m d s x} ⟨_, e, h1, _, h2⟩ r => ⟨d, e, by rw [h1]; rfl, r, h2⟩⟩
theorem s2q : St (el := false) (parC R' Γ) 0 R (parC R Γ) (fun s x => (x, s.2)) := ⟨fun {F js env m d s x} ⟨_, e, h1, _, h2⟩ r => ⟨d, e, by rw [h1]; rfl, r, h2⟩⟩
theorem sD {el : Bool} (h : St (el := el) Γ i R Γ' e) : St (el := el) (deadC Γ) (i + 1) R (deadC Γ') e := ⟨fun ⟨z, en, h1, h2⟩ r => ⟨z, _, by rw [h1]; rfl, h.run h2 r⟩⟩
theorem sV {el : Bool} (h : St (el := el) Γ i R Γ' e) : St (el := el) (valC R' Γ) (i + 1) R (valC R' Γ') (fun s x => (s.1, e s.2 x)) := ⟨fun ⟨z, en, h1, h3, h2⟩ r => ⟨z, _, by rw [h1]; rfl, h3, h.run h2 r⟩⟩
theorem sP {el : Bool} (h : St (el := el) Γ i R Γ' e) : St (el := el) (parC R' Γ) (i + 1) R (parC R' Γ') (fun s x => (s.1, e s.2 x)) := ⟨fun ⟨z, en, h1, h3, h2⟩ r => ⟨z, _, by rw [h1]; rfl, h3, h.run h2 r⟩⟩
theorem sO {el : Bool} (h : St (el := el) Γ i R Γ' e) : St (el := el) (ownC l C Γ) (i + 1) R (ownC l C Γ') (fun s x => (s.1, e s.2 x)) := ⟨fun ⟨z, js', en, ob, h1, h3, h4, h5, h6, h2⟩ r => ⟨z, js', _, ob, h1, by rw [h3]; rfl, h4, h5, h6, h.run h2 r⟩⟩
theorem sL {el : Bool} (h : St (el := el) Γ i R Γ' e) : St (el := el) (lokC C k ob Γ) (i + 1) R (lokC C k ob Γ') (fun s x => (s.1, e s.2 x)) := ⟨fun ⟨js', en, h1, h3, h4, h5, h6, h2⟩ r => ⟨js', _, h1, by rw [h3]; rfl, h4, h5, h6, h.run h2 r⟩⟩
theorem t_var {el : Bool} (h : St (el := el) Γ i R Γ' e) : Tg (el := el) Γ R (gVar i) Γ' e := ⟨fun g r => ⟨_, rfl, h.run g r⟩⟩
end
theorem t_p2 {el : Bool} {Γ1 : Ctx τ} {Γ2 : Ctx ρ} {G1 G2 : DG} {e1 : σ → α → τ} {e2 : τ → β → ρ} (h1 : Tg (el := el) Γ R G1 Γ1 e1) (h2 : Tg (el := el) Γ1 S G2 Γ2 e2) : Tg (el := el) Γ (RP2 R S) (gTupD 2 (gsCons G1 (gsCons G2 gsNil))) Γ2 (fun s x => e2 (e1 s x.1) x.2) := ⟨fun {F js env m d s x} g ⟨a, b, e, r1, r2⟩ => by
  subst e
  obtain ⟨en1, k1, k2⟩ := h1.run g r1
  obtain ⟨en2, l1, l2⟩ := h2.run k2 r2
  exact ⟨en2, by simp [gTupD, gsCons, gsNil, k1, l1], l2⟩⟩
theorem t_p3 {el : Bool} {ρ' : Type} {Γ1 : Ctx τ} {Γ2 : Ctx ρ} {Γ3 : Ctx ρ'} {G1 G2 G3 : DG} {e1 : σ → α → τ} {e2 : τ → β → ρ} {e3 : ρ → γ → ρ'} (h1 : Tg (el := el) Γ R G1 Γ1 e1) (h2 : Tg (el := el) Γ1 S G2 Γ2 e2) (h3 : Tg (el := el) Γ2 V G3 Γ3 e3) : Tg (el := el) Γ (RP3 R S V) (gTupD 3 (gsCons G1 (gsCons G2 (gsCons G3 gsNil)))) Γ3 (fun s x => e3 (e2 (e1 s x.1) x.2.1) x.2.2) := ⟨fun {F js env m d s x} g ⟨a, b, c, e, r1, r2, r3⟩ => by
  subst e
  obtain ⟨en1, k1, k2⟩ := h1.run g r1
  obtain ⟨en2, l1, l2⟩ := h2.run k2 r2
  obtain ⟨en3, n1, n2⟩ := h3.run l2 r3
  exact ⟨en3, by simp [gTupD, gsCons, gsNil, k1, l1, n1], n2⟩⟩
theorem t_p4 {el : Bool} {ρ' ρ'' : Type} {W : Rp δ} {Γ1 : Ctx τ} {Γ2 : Ctx ρ} {Γ3 : Ctx ρ'} {Γ4 : Ctx ρ''} {G1 G2 G3 G4 : DG} {e1 : σ → α → τ} {e2 : τ → β → ρ} {e3 : ρ → γ → ρ'} {e4 : ρ' → δ → ρ''} (h1 : Tg (el := el) Γ R G1 Γ1 e1) (h2 : Tg (el := el) Γ1 S G2 Γ2 e2) (h3 : Tg (el := el) Γ2 V G3 Γ3 e3) (h4 : Tg (el := el) Γ3 W G4 Γ4 e4) : Tg (el := el) Γ (RP4 R S V W) (gTupD 4 (gsCons G1 (gsCons G2 (gsCons G3 (gsCons G4 gsNil))))) Γ4 (fun s x => e4 (e3 (e2 (e1 s x.1) x.2.1) x.2.2.1) x.2.2.2) := ⟨fun {F js env m d s x} g ⟨a, b, c, f, e, r1, r2, r3, r4⟩ => by
  subst e
  obtain ⟨en1, k1, k2⟩ := h1.run g r1
  obtain ⟨en2, l1, l2⟩ := h2.run k2 r2
  obtain ⟨en3, n1, n2⟩ := h3.run l2 r3
  obtain ⟨en4, q1, q2⟩ := h4.run n2 r4
  exact ⟨en4, by simp [gTupD, gsCons, gsNil, k1, l1, n1, q1], q2⟩⟩
theorem t_p5 {el : Bool} {ε ρ' ρ'' ρ3 : Type} {W : Rp δ} {X : Rp ε} {Γ1 : Ctx τ} {Γ2 : Ctx ρ} {Γ3 : Ctx ρ'} {Γ4 : Ctx ρ''} {Γ5 : Ctx ρ3} {G1 G2 G3 G4 G5 : DG} {e1 : σ → α → τ} {e2 : τ → β → ρ} {e3 : ρ → γ → ρ'} {e4 : ρ' → δ → ρ''} {e5 : ρ'' → ε → ρ3} (h1 : Tg (el := el) Γ R G1 Γ1 e1) (h2 : Tg (el := el) Γ1 S G2 Γ2 e2) (h3 : Tg (el := el) Γ2 V G3 Γ3 e3) (h4 : Tg (el := el) Γ3 W G4 Γ4 e4) (h5 : Tg (el := el) Γ4 X G5 Γ5 e5) : Tg (el := el) Γ (RP5 R S V W X) (gTupD 5 (gsCons G1 (gsCons G2 (gsCons G3 (gsCons G4 (gsCons G5 gsNil)))))) Γ5 (fun s x => e5 (e4 (e3 (e2 (e1 s x.1) x.2.1) x.2.2.1) x.2.2.2.1) x.2.2.2.2) := ⟨fun {F js env m d s x} g ⟨a, b, c, f, f5, e, r1, r2, r3, r4, r5⟩ => by
  subst e
  obtain ⟨en1, k1, k2⟩ := h1.run g r1
  obtain ⟨en2, l1, l2⟩ := h2.run k2 r2
  obtain ⟨en3, n1, n2⟩ := h3.run l2 r3
  obtain ⟨en4, q1, q2⟩ := h4.run n2 r4
  obtain ⟨en5, z1, z2⟩ := h5.run q2 r5
  exact ⟨en5, by simp [gTupD, gsCons, gsNil, k1, l1, n1, q1, z1], z2⟩⟩
/-- slots that hold nothing may be forgotten -/
structure DeadAt (Γ : Ctx σ) (i : Nat) : Prop where
  run : ∀ {F : Fr} {js : List Nat} {env : DL.Env} {m : Mem} {s : σ}, Γ F js env m s → Γ F js (env.set i none) m s
section
variable {C : Rc δ} {R' : Rp β} {i : Nat} {l : Option Nat} {k : Nat} {ob : MO}
theorem d0 : DeadAt (deadC Γ) 0 := ⟨fun ⟨_, e, h1, h2⟩ => ⟨none, e, by rw [h1]; rfl, h2⟩⟩
theorem dD (h : DeadAt Γ i) : DeadAt (deadC Γ) (i + 1) := ⟨fun ⟨z, en, h1, h2⟩ => ⟨z, _, by rw [h1]; rfl, h.run h2⟩⟩
theorem dV (h : DeadAt Γ i) : DeadAt (valC R' Γ) (i + 1) := ⟨fun ⟨z, en, h1, h3, h2⟩ => ⟨z, _, by rw [h1]; rfl, h3, h.run h2⟩⟩
theorem dP (h : DeadAt Γ i) : DeadAt (parC R' Γ) (i + 1) := ⟨fun ⟨z, en, h1, h3, h2⟩ => ⟨z, _, by rw [h1]; rfl, h3, h.run h2⟩⟩
theorem dO (h : DeadAt Γ i) : DeadAt (ownC l C Γ) (i + 1) := ⟨fun ⟨z, js', en, ob, h1, h3, h4, h5, h6, h2⟩ => ⟨z, js', _, ob, h1, by rw [h3]; rfl, h4, h5, h6, h.run h2⟩⟩
theorem dL (h : DeadAt Γ i) : DeadAt (lokC C k ob Γ) (i + 1) := ⟨fun ⟨js', en, h1, h3, h4, h5, h6, h2⟩ => ⟨js', _, h1, by rw [h3]; rfl, h4, h5, h6, h.run h2⟩⟩
end
structure WipeAt (Γ : Ctx σ) (vs : List Nat) : Prop where
  run : ∀ {F : Fr} {js : List Nat} {env : DL.Env} {m : Mem} {s : σ}, Γ F js env m s → Γ F js (wipeD vs env) m s
theorem w_nil : WipeAt Γ [] := ⟨fun h => h⟩
theorem w_cons {v : Nat} {vs : List Nat} (h : DeadAt Γ v) (k : WipeAt Γ vs) : WipeAt Γ (v :: vs) := ⟨fun g => h.run (k.run g)⟩

/-! ### comprehensions -/
def filO (xs : List α) (t : α → Option Bool) (f : α → Option β) : Option (List β) := match xs with
  | [] => some []
  | x :: r => (t x).bind fun b => if b then (f x).bind fun y => (filO r t f).bind fun ys => some (y :: ys) else filO r t f
def mapO (xs : List α) (f : α → Option β) : Option (List β) := match xs with
  | [] => some []
  | x :: r => (f x).bind fun y => (mapO r f).bind fun ys => some (y :: ys)
theorem filO_yes (xs : List α) (f : α → Option β) : filO xs (fun _ => some true) f = mapO xs f := by
  induction xs with
  | nil => rfl
  | cons x xs ih => simp [filO, mapO, ih]
/-- the frame in which a new list at k is filled -/
def Fr.add (F : Fr) (k : Nat) : Fr := ⟨fun i => F.P i ∨ i = k, fun i => F.Q i ∨ i = k, F.n⟩
theorem RG.add [ok : CtxOk Γ] {F : Fr} {js : List Nat} {env : DL.Env} {m : Mem} (h : RG B Γ F js env m s) {ob : MO} : RG B Γ (F.add m.length) js env (m ++ [ob]) s := by
  have g := Grw.app m [ob]
  have h1 : Γ (F.add m.length) js env m s := ok.fr (F := F) (F' := F.add m.length) rfl (fun i hi hp => by rcases hp with q | q; exact q; omega) (fun i hi hp => by rcases hp with q | q; exact q; omega) h.1
  refine ⟨ok.step (fun i hi => hi.imp_left (h.2.qp i)) (fun i o _ => g.2 i o) h1, h.2.nd, fun j hj => .inl (h.2.jq j hj), fun i hi => hi.imp_left (h.2.qp i), fun i hi => ?_, h.2.keep.grw g, fun i hi => .inl (h.2.old i hi), h.2.own, h.2.n0⟩
  simp only [List.length_append, List.length_cons, List.length_nil]
  rcases hi with q | q
  · have := h.2.pl i q; omega
  · omega
theorem set_offE {P : Nat → Prop} {m : Mem} {k : Nat} (hk : P k) {ob : MO} : ∀ (i : Nat) (o : MO), ¬ P i → m[i]? = some o → (m.set k ob)[i]? = some o := fun i o hi h => by
  rw [List.getElem?_set_ne (fun (z : k = i) => hi (z ▸ hk))]; exact h
theorem comp_core {el : Bool} {ρ' : Type} {Γx : Ctx ρ'} {e : σ → α → ρ'} {G : DG} {E : DE} {we : Lv} {t : α → Option Bool} {f : α → Option β} [ok : CtxOk Γ] [okx : CtxOk Γx] (hg : Tg (el := el) Γ R G Γx e) (hT : ∀ x, PT B Γx (e s x) T (t x)) (hE : ∀ x, PE B Γx (e s x) E we S (f x)) (hw : we.ok = true) {F : Fr} {js : List Nat} {env : DL.Env} {gs : List (Nat × MO)} {k : Nat} (hk : F.P k) (hkq : F.Q k) (hkn : F.n ≤ k) (hkj : k ∉ js) :
    ∀ (ds : List DV) (xs : List α) (m : Mem) (acc : List DV) (ys zs : List β), RG B Γ F js env m s → m[k]? = some (.lst acc) → Fa (S.r F.P m) acc ys → Fa (R.r (F.e el) m) ds xs → guard gs m → (∀ p ∈ gs, p.1 ≠ k) → acc.length + ds.length ≤ 16777216 → filO xs t f = some zs →
      ∃ m', compD gs G T E k env ds m = .ok () m' ∧ m.length ≤ m'.length ∧ (∀ i o, i ≠ k → m[i]? = some o → m'[i]? = some o) ∧ ∃ acc', m'[k]? = some (.lst acc') ∧ Fa (S.r F.P m') acc' (ys ++ zs)
  | [], _, m, acc, ys, zs, hr, hm, ha, .nil, hgs, hgk, hl, hz => by
    cases hz
    refine ⟨m, by unfold compD; rw [if_pos hgs], Nat.le_refl _, fun _ _ _ h => h, acc, hm, by simpa using ha⟩
  | d :: ds, x :: xs, m, acc, ys, zs, hr, hm, ha, .cons hd hds, hgs, hgk, hl, hz => by
    simp only [filO] at hz
    obtain ⟨b, h1, h2⟩ := Option.bind_eq_some_iff.mp hz
    obtain ⟨env1, k1, k2⟩ := hg.run hr.1 hd
    have hr1 : RG B Γx F js env1 m (e s x) := ⟨k2, hr.2⟩
    obtain ⟨m1, l1, l2⟩ := hT x F js env1 m hr1 b h1
    have hr2 := hr.grw l2
    have nx : ∀ {m2 : Mem} {α' : Type} (o : Out α'), o = o → True := fun _ _ => trivial
    cases b with
    | false =>
      simp only [Bool.false_eq_true, if_false] at h2
      obtain ⟨m', q1, q2, q3, q4⟩ := comp_core hg hT hE hw hk hkq hkn hkj ds xs m1 acc ys zs hr2 (l2.2 _ _ hm) (ha.imp fun _ _ r => Rp.grw r l2) (hds.imp fun _ _ r => Rp.grw r l2) (fun p hp => l2.2 _ _ (hgs p hp)) hgk (by simp only [List.length_cons] at hl; omega) h2
      refine ⟨m', ?_, Nat.le_trans l2.1 q2, fun i o hi h => q3 i o hi (l2.2 i o h), q4⟩
      unfold compD
      rw [if_pos hgs, k1]
      simp only [Out.nox, Out.bind_ok, l1, Bool.false_eq_true, if_false, q1]
    | true =>
      simp only [if_true] at h2
      obtain ⟨y, h3, h4⟩ := Option.bind_eq_some_iff.mp h2
      obtain ⟨zs', h5, h6⟩ := Option.bind_eq_some_iff.mp h4
      cases h6
      obtain ⟨dy, m2, n1, n2, n3⟩ := hE x F js env1 m1 (hr1.grw l2) y h3
      have n3' := Rp.lvs (hr1.grw l2).2 hw n3
      have g12 := l2.trans n2
      have hm2 : m2[k]? = some (.lst acc) := g12.2 _ _ hm
      have hlt : k < m2.length := (List.getElem?_eq_some_iff.mp hm2).1
      have hr3 := hr.grw g12
      have st : ∀ i o, i ≠ k → m2[i]? = some o → (m2.set k (.lst (acc ++ [dy])))[i]? = some o := fun i o hi h => by rw [List.getElem?_set_ne (fun q => hi q.symm)]; exact h
      have hr4 : RG B Γ F js env (m2.set k (.lst (acc ++ [dy]))) s := by
        refine ⟨ok.step hr3.2.qp (fun i o hi h => st i o ?_ h) hr3.1, hr3.2.nd, hr3.2.jq, hr3.2.qp, fun i hi => by simpa using hr3.2.pl i hi, ⟨by simpa using hr3.2.keep.1, fun i o hi h => st i o ?_ (hr3.2.keep.2 i o hi h)⟩, hr3.2.old, hr3.2.own, hr3.2.n0⟩
        · rintro rfl
          rcases hi with q | q
          · exact q hkq
          · exact hkj q
        · have := (List.getElem?_eq_some_iff.mp h).1
          have := hr.2.n0
          omega
      have fa : ∀ {α' : Type} {R' : Rp α'} {dd : DV} {xx : α'}, R'.r F.P m2 dd xx → R'.r F.P (m2.set k (.lst (acc ++ [dy]))) dd xx := fun {α' R' dd xx} r => R'.step (fun i o hi h => st i o (fun q => hi (q ▸ hk)) h) r
      obtain ⟨m', q1, q2, q3, q4⟩ := comp_core hg hT hE hw hk hkq hkn hkj ds xs (m2.set k (.lst (acc ++ [dy]))) (acc ++ [dy]) (ys ++ [y]) zs' hr4 (List.getElem?_set_self hlt) (Fa.app (ha.imp fun _ _ r => fa (Rp.grw r g12)) (.cons (fa n3') .nil)) (hds.imp fun _ _ r => R.step (set_offE (show F.e el k by cases el; exact hkq; exact hk)) (Rp.grw r g12)) (fun p hp => st _ _ (hgk p hp) (g12.2 _ _ (hgs p hp))) hgk (by simp only [List.length_cons, List.length_append, List.length_nil] at hl ⊢; omega) h5
      refine ⟨m', ?_, Nat.le_trans g12.1 (by simpa using q2), fun i o hi h => q3 i o hi (st i o hi (g12.2 i o h)), by simpa using q4⟩
      unfold compD
      rw [if_pos hgs, k1]
      simp only [Out.nox, Out.bind_ok, l1, if_true, n1, hm2]
      rw [if_pos (by simp only [List.length_cons] at hl; omega), q1]
theorem comp_main {el : Bool} {ρ' : Type} {Γx : Ctx ρ'} {e : σ → α → ρ'} {I : DI} {g : Bool} {G : DG} {E : DE} {we : Lv} {vs : List Nat} {oi : Option (List α)} {t : α → Option Bool} {f : α → Option β} [ok : CtxOk Γ] [okx : CtxOk Γx] (hi : PI B Γ s I g el R oi) (hv : WipeAt Γ vs) (hg : Tg (el := el) Γ R G Γx e) (hT : ∀ x, PT B Γx (e s x) T (t x)) (hE : ∀ x, PE B Γx (e s x) E we S (f x)) (hw : we.ok = true)
    {F : Fr} {js : List Nat} {env : DL.Env} {m : Mem} (gg : RG B Γ F js env m s) {zs : List β} (hz : (oi.bind fun xs => (szO xs.length).bind fun _ => filO xs t f) = some zs) :
    ∃ k m' acc, eComp I G T E vs env m = .ok (.ref k) m' ∧ Grw m m' ∧ m.length ≤ k ∧ m'[k]? = some (.lst acc) ∧ Fa (S.r (fun i => F.P i ∨ i = k) m') acc zs := by
  obtain ⟨xs, h1, h2⟩ := Option.bind_eq_some_iff.mp hz
  obtain ⟨_, h3, h4⟩ := Option.bind_eq_some_iff.mp h2
  obtain ⟨it, m1, k1, k2, k3, k4, k5⟩ := hi F js env m gg xs h1
  have gg1 := gg.grw k2
  have hr : RG B Γ (F.add m1.length) js (wipeD vs env) (m1 ++ [.lst []]) s := by
    have := gg1.add (ob := .lst [])
    exact ⟨hv.run this.1, this.2⟩
  have gA := Grw.app m1 [.lst []]
  have fa : Fa (R.r ((F.add m1.length).e el) (m1 ++ [.lst []])) it.ds xs := k3.imp fun _ _ r => Rp.grw (R.anti (fun i hi hp => by cases el <;> (rcases hp with q | q; exact q; omega)) r) gA
  obtain ⟨m', q1, q2, q3, acc', q4, q5⟩ := comp_core (t := t) (f := f) hg hT hE hw (F := F.add m1.length) (js := js) (env := wipeD vs env) (gs := it.gs) (k := m1.length) (.inr rfl) (.inr rfl) (by have := gg1.2.keep.1; have := gg1.2.n0; show F.n ≤ _; omega) (fun hj => by have := ok.len gg1.1 _ hj; omega)
    it.ds xs (m1 ++ [.lst []]) [] [] zs hr (by simp) .nil fa (fun p hp => gA.2 _ _ (k4 p hp)) (fun p hp => by have := (List.getElem?_eq_some_iff.mp (k4 p hp)).1; omega) (by rw [fa.len]; have := szO_iff.mp h3; simpa using this) h4
  refine ⟨m1.length, m', acc', ?_, ⟨?_, fun i o h => ?_⟩, k2.1, q4, by rw [List.nil_append] at q5; exact q5⟩
  · unfold eComp
    rw [k1]
    simp only [Out.bind_ok, q1]
  · have := k2.1; simp at q2; omega
  · have h' := k2.2 i o h
    have := (List.getElem?_eq_some_iff.mp h').1
    exact q3 i o (by omega) (gA.2 i o h')
theorem pe_comp {el : Bool} {ρ' : Type} {Γx : Ctx ρ'} {e : σ → α → ρ'} {I : DI} {g : Bool} {G : DG} {E : DE} {we : Lv} {vs : List Nat} {oi : Option (List α)} {t : α → Option Bool} {f : α → Option β} {p : Option (List β)} [ok : CtxOk Γ] [okx : CtxOk Γx] (hi : PI B Γ s I g el R oi) (hv : WipeAt Γ vs) (hg : Tg (el := el) Γ R G Γx e) (hT : ∀ x, PT B Γx (e s x) T (t x)) (hE : ∀ x, PE B Γx (e s x) E we S (f x)) (hw : we.ok = true := by rfl)
    (ho : p = oi.bind fun xs => (szO xs.length).bind fun _ => filO xs t f := by rfl) : PE B Γ s (eComp I G T E vs) .str (RLst S) p := fun F js env m gg v hv' => by
  subst ho
  obtain ⟨k, m', acc, h1, h2, h3, h4, h5⟩ := comp_main hi hv hg hT hE hw gg hv'
  refine ⟨.ref k, m', h1, h2, k, acc, rfl, fun q => ?_, h4, h5.imp fun _ _ => S.anti fun i _ hp => .inl hp⟩
  have := gg.2.pl _ q
  omega
theorem pe_compF {el : Bool} [fl : Flat S] {ρ' : Type} {Γx : Ctx ρ'} {e : σ → α → ρ'} {I : DI} {g : Bool} {G : DG} {E : DE} {we : Lv} {vs : List Nat} {oi : Option (List α)} {t : α → Option Bool} {f : α → Option β} {p : Option (List β)} [ok : CtxOk Γ] [okx : CtxOk Γx] (hi : PI B Γ s I g el R oi) (hv : WipeAt Γ vs) (hg : Tg (el := el) Γ R G Γx e) (hT : ∀ x, PT B Γx (e s x) T (t x)) (hE : ∀ x, PE B Γx (e s x) E we S (f x))
    (ho : p = oi.bind fun xs => (szO xs.length).bind fun _ => filO xs t f := by rfl) : PE B Γ s (eComp I G T E vs) .new (RLst S) p := fun F js env m gg v hv' => by
  subst ho
  obtain ⟨k, m', acc, h1, h2, h3, h4, h5⟩ := comp_main hi hv hg hT (fun x => (hE x).flat) rfl gg hv'
  refine ⟨.ref k, m', h1, h2, k, acc, rfl, fun q => ?_, h4, h5.imp fun _ _ => fl.flat⟩
  have : k < m.length := q
  omega
/-- .. without a test -/
theorem pe_map {el : Bool} [fl : Flat S] {ρ' : Type} {Γx : Ctx ρ'} {e : σ → α → ρ'} {I : DI} {g : Bool} {G : DG} {E : DE} {we : Lv} {vs : List Nat} {oi : Option (List α)} {f : α → Option β} {p : Option (List β)} [ok : CtxOk Γ] [okx : CtxOk Γx] (hi : PI B Γ s I g el R oi) (hv : WipeAt Γ vs) (hg : Tg (el := el) Γ R G Γx e) (hE : ∀ x, PE B Γx (e s x) E we S (f x))
    (ho : p = oi.bind fun xs => (szO xs.length).bind fun _ => mapO xs f := by rfl) : PE B Γ s (eComp I G tYesD E vs) .new (RLst S) p :=
  pe_compF hi hv hg (fun x => pt_yes) hE (by rw [ho]; simp only [filO_yes])
theorem pe_mapN {el : Bool} {ρ' : Type} {Γx : Ctx ρ'} {e : σ → α → ρ'} {I : DI} {g : Bool} {G : DG} {E : DE} {we : Lv} {vs : List Nat} {oi : Option (List α)} {f : α → Option β} {p : Option (List β)} [ok : CtxOk Γ] [okx : CtxOk Γx] (hi : PI B Γ s I g el R oi) (hv : WipeAt Γ vs) (hg : Tg (el := el) Γ R G Γx e) (hE : ∀ x, PE B Γx (e s x) E we S (f x)) (hw : we.ok = true := by rfl)
    (ho : p = oi.bind fun xs => (szO xs.length).bind fun _ => mapO xs f := by rfl) : PE B Γ s (eComp I G tYesD E vs) .str (RLst S) p :=
  pe_comp hi hv hg (fun x => pt_yes) hE hw (by rw [ho]; simp only [filO_yes])
end
end TM

end
section
set_option Elab.async false
set_option linter.all false
set_option maxRecDepth 100000
set_option maxHeartbeats 4000000
set_option autoImplicit false
/-! TM4: statements, loops, defs. -/
namespace TM
open PySem PySem.Spec L2 DL
inductive Lp (τ ρ : Type) where
  | nx (t : τ) | bk (t : τ) | rt (v : ρ)
section
variable {σ σ' τ τ' α β γ δ ρ κ : Type} {B : Bs} {Γ : Ctx σ} {Γ' : Ctx σ'} {s : σ} {s' : σ'} {A A' : DE} {As : DA} {T U : DT} {S S' S1 S2 : DS} {w w' : Lv} {R : Rp α} {R' : Rp β} {o : Option α} {o' : Option β}
def FrLe (F F' : Fr) (m : Mem) : Prop := ∀ i, i < m.length → (F'.P i → F.P i) ∧ (F'.Q i → F.Q i)
theorem FrLe.refl (F : Fr) (m : Mem) : FrLe F F m := fun _ _ => ⟨id, id⟩
theorem FrLe.trans {F F' F2 : Fr} {m m' : Mem} (h : FrLe F F' m) (k : FrLe F' F2 m') (hl : m.length ≤ m'.length) : FrLe F F2 m := fun i hi => ⟨fun q => (h i hi).1 ((k i (by omega)).1 q), fun q => (h i hi).2 ((k i (by omega)).2 q)⟩
abbrev En (κ : Type) := κ → Fr → Fl → Mem → Prop
def PB (B : Bs) (Γ : Ctx σ) (s : σ) (S : DS) (o : Option κ) (E : En κ) : Prop :=
  ∀ F js env m, RG B Γ F js env m s → ∀ v, o = some v → ∃ fl m' F', S env m = .ok fl m' ∧ E v F' fl m' ∧ Eff F.Q m m' ∧ FrLe F F' m
def eNx (B : Bs) (Γ : Ctx σ) (emb : τ → σ) : En τ := fun t F fl m => ∃ env js, fl = .nx env ∧ RG B Γ F js env m (emb t)
def eFn (B : Bs) (R : Rp ρ) : En ρ := fun v _ fl m => ∃ d, fl.val = some d ∧ R.r B.p0 m d v ∧ Keep B m
def eFnX (B : Bs) (k : Nat) (C : Rc τ) (R : Rp ρ) : En (ρ × τ) := fun v _ fl m => ∃ d ob, fl.val = some d ∧ R.r B.p0 m d v.1 ∧ m[k]? = some ob ∧ C.c (fun i => i = k) m ob v.2 ∧ Keep B m
/-- behind a turn -/
def eLp (B : Bs) (Γ : Ctx σ) (emb : τ → σ) (Er : En ρ) : En (Lp τ ρ) := fun l F fl m => match l with
  | .nx t => ∃ env js, (fl = .nx env ∨ fl = .ct env) ∧ RG B Γ F js env m (emb t)
  | .bk t => ∃ env js, fl = .bk env ∧ RG B Γ F js env m (emb t)
  | .rt v => Er v F fl m ∧ ∃ d, fl = .rt d
/-- behind a loop -/
def eLx (B : Bs) (Γ : Ctx σ) (emb : τ → σ) (Er : En ρ) : En (Lp τ ρ) := fun l F fl m => match l with
  | .nx t => ∃ env js, fl = .nx env ∧ RG B Γ F js env m (emb t)
  | .bk _ => False
  | .rt v => Er v F fl m ∧ ∃ d, fl = .rt d
/-- never goes on -/
def stc (E : En κ) : En κ := fun v F fl m => E v F fl m ∧ ∀ env, fl ≠ .nx env
theorem PB.un {o : Option κ} {E : En κ} (h : PB B Γ s S o (stc E)) : PB B Γ s S o E := fun F js env m g v hv => by
  obtain ⟨fl, m', F', h1, h2, h3⟩ := h F js env m g v hv
  exact ⟨fl, m', F', h1, h2.1, h3⟩

/-! ### forgetting -/
structure Wk (Γ : Ctx σ) (s : σ) (Γ' : Ctx σ') (s' : σ') : Prop where
  run : ∀ {B : Bs} {F : Fr} {js : List Nat} {env : DL.Env} {m : Mem}, RG B Γ F js env m s → ∃ F' js', RG B Γ' F' js' env m s' ∧ FrLe F F' m
structure Wk0 (Γ : Ctx σ) (s : σ) (Γ' : Ctx σ') (s' : σ') : Prop where
  run : ∀ {F : Fr} {js : List Nat} {env : DL.Env} {m : Mem}, Γ F js env m s → ∃ js', Γ' F js' env m s' ∧ js'.Sublist js
theorem Wk0.wk (h : Wk0 Γ s Γ' s') : Wk Γ s Γ' s' := ⟨fun {B F js env m} g => by
  obtain ⟨js', h1, h2⟩ := h.run g.1
  exact ⟨F, js', ⟨h1, h2.nodup g.2.nd, fun j hj => g.2.jq j (h2.subset hj), g.2.qp, g.2.pl, g.2.keep, g.2.old, fun j hj => g.2.own j (h2.subset hj), g.2.n0⟩, FrLe.refl F m⟩⟩
theorem Wk.id : Wk Γ s Γ s := ⟨fun {B F js env m} g => ⟨F, js, g, FrLe.refl F m⟩⟩
theorem Wk.trans {σ2 : Type} {Γ2 : Ctx σ2} {s2 : σ2} (h : Wk Γ s Γ' s') (k : Wk Γ' s' Γ2 s2) : Wk Γ s Γ2 s2 := ⟨fun {B F js env m} g => by
  obtain ⟨F1, js1, g1, l1⟩ := h.run g
  obtain ⟨F2, js2, g2, l2⟩ := k.run g1
  exact ⟨F2, js2, g2, l1.trans l2 (Nat.le_refl _)⟩⟩
section
variable {C : Rc α} {l : Option Nat} {k : Nat} {ob : MO} {x : α}
theorem kN : Wk0 nilC () nilC () := ⟨fun h => ⟨_, h, List.Sublist.refl _⟩⟩
theorem kD (h : Wk0 Γ s Γ' s') : Wk0 (deadC Γ) s (deadC Γ') s' := ⟨fun ⟨o, e, h1, h2⟩ => by obtain ⟨js', g1, g2⟩ := h.run h2; exact ⟨js', ⟨o, e, h1, g1⟩, g2⟩⟩
theorem kV (h : Wk0 Γ s Γ' s') : Wk0 (valC R Γ) (x, s) (valC R Γ') (x, s') := ⟨fun ⟨o, e, h1, h3, h2⟩ => by obtain ⟨js', g1, g2⟩ := h.run h2; exact ⟨js', ⟨o, e, h1, h3, g1⟩, g2⟩⟩
theorem kX (h : Wk0 Γ s Γ' s') : Wk0 (valC R Γ) (x, s) (deadC Γ') s' := ⟨fun ⟨o, e, h1, h3, h2⟩ => by obtain ⟨js', g1, g2⟩ := h.run h2; exact ⟨js', ⟨_, e, h1, g1⟩, g2⟩⟩
theorem kP (h : Wk0 Γ s Γ' s') : Wk0 (parC R Γ) (x, s) (parC R Γ') (x, s') := ⟨fun ⟨o, e, h1, h3, h2⟩ => by obtain ⟨js', g1, g2⟩ := h.run h2; exact ⟨js', ⟨o, e, h1, h3, g1⟩, g2⟩⟩
theorem kY (h : Wk0 Γ s Γ' s') : Wk0 (parC R Γ) (x, s) (deadC Γ') s' := ⟨fun ⟨o, e, h1, h3, h2⟩ => by obtain ⟨js', g1, g2⟩ := h.run h2; exact ⟨js', ⟨_, e, h1, g1⟩, g2⟩⟩
theorem kO (h : Wk0 Γ s Γ' s') : Wk0 (ownC l C Γ) (x, s) (ownC l C Γ') (x, s') := ⟨fun ⟨k, js, e, ob, h1, h2, h3, h4, h5, h6⟩ => by
  obtain ⟨js', g1, g2⟩ := h.run h6
  exact ⟨k :: js', ⟨k, js', e, ob, rfl, h2, h3, h4, h5, g1⟩, by rw [h1]; exact g2.cons_cons k⟩⟩
theorem kZ (h : Wk0 Γ s Γ' s') : Wk0 (ownC l C Γ) (x, s) (deadC Γ') s' := ⟨fun ⟨k, js, e, ob, h1, h2, h3, h4, h5, h6⟩ => by
  obtain ⟨js', g1, g2⟩ := h.run h6
  exact ⟨js', ⟨_, e, h2, g1⟩, by rw [h1]; exact g2.cons k⟩⟩
theorem kL (h : Wk0 Γ s Γ' s') : Wk0 (lokC C k ob Γ) (x, s) (lokC C k ob Γ') (x, s') := ⟨fun ⟨js, e, h1, h2, h3, h4, h5, h6⟩ => by
  obtain ⟨js', g1, g2⟩ := h.run h6
  exact ⟨k :: js', ⟨js', e, rfl, h2, h3, h4, h5, g1⟩, by rw [h1]; exact g2.cons_cons k⟩⟩
/-- what is no longer walked is one's own -/
theorem kU (h : Wk0 Γ s Γ' s') : Wk0 (lokC C k ob Γ) (x, s) (ownC none C Γ') (x, s') := ⟨fun ⟨js, e, h1, h2, h3, h4, h5, h6⟩ => by
  obtain ⟨js', g1, g2⟩ := h.run h6
  exact ⟨k :: js', ⟨k, js', e, ob, rfl, h2, h3, h4, h5, g1⟩, by rw [h1]; exact g2.cons_cons k⟩⟩
end
/-- what one owns becomes a value -/
structure Fz (Γ : Ctx σ) (Γ' : Ctx σ) : Prop where
  run : ∀ {F : Fr} {js : List Nat} {env : DL.Env} {m : Mem} {s : σ}, js.Nodup → (∀ j ∈ js, F.Q j) → Γ F js env m s → ∃ k js', F.n ≤ k ∧ k ∈ js ∧ js'.Sublist js ∧ k ∉ js' ∧ Γ' ⟨fun i => F.P i ∧ i ≠ k, fun i => F.Q i ∧ i ≠ k, F.n⟩ js' env m s
theorem Fz.wk {Γ2 : Ctx σ} (h : Fz Γ Γ2) {s : σ} : Wk Γ s Γ2 s := ⟨fun {B F js env m} g => by
  obtain ⟨k, js', h1, h2, h3, h4, h5⟩ := h.run g.2.nd g.2.jq g.1
  refine ⟨⟨fun i => F.P i ∧ i ≠ k, fun i => F.Q i ∧ i ≠ k, F.n⟩, js', ⟨h5, h3.nodup g.2.nd, fun j hj => ⟨g.2.jq j (h3.subset hj), fun e => h4 (e ▸ hj)⟩, fun i hi => ⟨g.2.qp i hi.1, hi.2⟩, fun i hi => g.2.pl i hi.1, g.2.keep, fun i hi => ⟨g.2.old i hi, ?_⟩, fun j hj => g.2.own j (h3.subset hj), g.2.n0⟩, fun i _ => ⟨fun q => q.1, fun q => q.1⟩⟩
  have := g.2.n0
  have := B.pz i hi
  omega⟩
section
variable {C : Rc β} {Γ1 Γ1' : Ctx σ} {l : Option Nat} {k : Nat} {ob : MO}
theorem z0 [ok : CtxOk Γ1] [i : Flat R] : Fz (ownC none (CLst R) Γ1) (valC (RLst R) Γ1) := ⟨fun {F js env m s} nd _ ⟨k, js', e, ob, h1, h2, h3, ⟨ds, h4, h4'⟩, h5, h6⟩ => by
  subst h4 h1
  refine ⟨k, js', h5, List.mem_cons_self, List.sublist_cons_self k js', (List.nodup_cons.mp nd).1, _, e, h2, ⟨k, ds, rfl, fun q => q.2 rfl, h3, h4'.imp fun _ _ => i.flat⟩, ok.fr (F := F) (F' := ⟨fun i => F.P i ∧ i ≠ k, fun i => F.Q i ∧ i ≠ k, F.n⟩) rfl (fun i _ q => q.1) (fun i _ q => q.1) h6⟩⟩
theorem z0D [ok : CtxOk Γ1] [i : Flat R] : Fz (ownC none (CDic R) Γ1) (valC (RDic R) Γ1) := ⟨fun {F js env m s} nd _ ⟨k, js', e, ob, h1, h2, h3, ⟨ds, h4, h4'⟩, h5, h6⟩ => by
  subst h4 h1
  refine ⟨k, js', h5, List.mem_cons_self, List.sublist_cons_self k js', (List.nodup_cons.mp nd).1, _, e, h2, ⟨k, ds, rfl, fun q => q.2 rfl, h3, h4'.imp fun _ _ q => ⟨q.1, i.flat q.2⟩⟩, ok.fr (F := F) (F' := ⟨fun i => F.P i ∧ i ≠ k, fun i => F.Q i ∧ i ≠ k, F.n⟩) rfl (fun i _ q => q.1) (fun i _ q => q.1) h6⟩⟩
theorem zD (h : Fz Γ1 Γ1') : Fz (deadC Γ1) (deadC Γ1') := ⟨fun nd hq ⟨o, e, h1, h2⟩ => by obtain ⟨k, js', g1, g2, g3, g4, g5⟩ := h.run nd hq h2; exact ⟨k, js', g1, g2, g3, g4, o, e, h1, g5⟩⟩
theorem zV (h : Fz Γ1 Γ1') : Fz (valC R' Γ1) (valC R' Γ1') := ⟨fun nd hq ⟨o, e, h1, h3, h2⟩ => by obtain ⟨k, js', g1, g2, g3, g4, g5⟩ := h.run nd hq h2; exact ⟨k, js', g1, g2, g3, g4, o, e, h1, R'.anti (fun _ _ q => q.1) h3, g5⟩⟩
theorem zP (h : Fz Γ1 Γ1') : Fz (parC R' Γ1) (parC R' Γ1') := ⟨fun nd hq ⟨o, e, h1, h3, h2⟩ => by obtain ⟨k, js', g1, g2, g3, g4, g5⟩ := h.run nd hq h2; exact ⟨k, js', g1, g2, g3, g4, o, e, h1, R'.anti (fun _ _ q => q.1) h3, g5⟩⟩
theorem zO (h : Fz Γ1 Γ1') : Fz (ownC l C Γ1) (ownC l C Γ1') := ⟨fun {F js env m s} nd hq ⟨k, js, e, ob, h1, h2, h3, h4, h5, h6⟩ => by
  subst h1
  obtain ⟨k', js', g1, g2, g3, g4, g5⟩ := h.run (List.nodup_cons.mp nd).2 (fun j hj => hq j (List.mem_cons_of_mem _ hj)) h6
  have hne : k' ≠ k := fun q => (List.nodup_cons.mp nd).1 (q ▸ g2)
  exact ⟨k', k :: js', g1, List.mem_cons_of_mem _ g2, g3.cons_cons k, fun q => by rcases List.mem_cons.mp q with z | z; exact hne z; exact g4 z, k, js', e, ob, rfl, h2, h3, C.anti (fun _ _ q => q.1) h4, h5, g5⟩⟩
theorem zL (h : Fz Γ1 Γ1') : Fz (lokC C k ob Γ1) (lokC C k ob Γ1') := ⟨fun {F js env m s} nd hq ⟨js, e, h1, h2, h3, h4, h5, h6⟩ => by
  subst h1
  obtain ⟨k', js', g1, g2, g3, g4, g5⟩ := h.run (List.nodup_cons.mp nd).2 (fun j hj => hq j (List.mem_cons_of_mem _ hj)) h6
  have hne : k' ≠ k := fun q => (List.nodup_cons.mp nd).1 (q ▸ g2)
  exact ⟨k', k :: js', g1, List.mem_cons_of_mem _ g2, g3.cons_cons k, fun q => by rcases List.mem_cons.mp q with z | z; exact hne z; exact g4 z, js', e, rfl, h2, h3, C.anti (fun _ _ q => q.1) h4, h5, g5⟩⟩
end
/-! ### new own lists -/
structure So (Γ : Ctx σ) (i : Nat) (C : Rc α) (Γ' : Ctx σ') (e : σ → α → σ') : Prop where
  run : ∀ {F : Fr} {js : List Nat} {env : DL.Env} {m : Mem} {s : σ} {k : Nat} {ob : MO} {x : α}, Γ F js env m s → F.n ≤ k → k ∉ js → m[k]? = some ob → C.c F.Q m ob x → ∃ js', Γ' F js' (env.set i (some (.ref k))) m (e s x) ∧ js'.Perm (k :: js)
section
variable {C : Rc α} {C' : Rc β} {e : σ → α → σ'} {i : Nat} {l : Option Nat} {k : Nat} {ob : MO}
theorem n0 : So (deadC Γ) 0 C (ownC none C Γ) (fun s x => (x, s)) := ⟨fun {F js env m s k ob x} ⟨_, e, h1, h2⟩ hn hj hm hc => ⟨k :: js, ⟨k, js, e, ob, rfl, by rw [h1]; rfl, hm, hc, hn, h2⟩, List.Perm.refl _⟩⟩
theorem n1 : So (valC R' Γ) 0 C (ownC none C Γ) (fun s x => (x, s.2)) := ⟨fun {F js env m s k ob x} ⟨_, e, h1, _, h2⟩ hn hj hm hc => ⟨k :: js, ⟨k, js, e, ob, rfl, by rw [h1]; rfl, hm, hc, hn, h2⟩, List.Perm.refl _⟩⟩
theorem nD (h : So Γ i C Γ' e) : So (deadC Γ) (i + 1) C (deadC Γ') e := ⟨fun ⟨o, en, h1, h2⟩ hn hj hm hc => by obtain ⟨js', g1, g2⟩ := h.run h2 hn hj hm hc; exact ⟨js', ⟨o, _, by rw [h1]; rfl, g1⟩, g2⟩⟩
theorem nV (h : So Γ i C Γ' e) : So (valC R' Γ) (i + 1) C (valC R' Γ') (fun s x => (s.1, e s.2 x)) := ⟨fun ⟨o, en, h1, h3, h2⟩ hn hj hm hc => by obtain ⟨js', g1, g2⟩ := h.run h2 hn hj hm hc; exact ⟨js', ⟨o, _, by rw [h1]; rfl, h3, g1⟩, g2⟩⟩
theorem nP (h : So Γ i C Γ' e) : So (parC R' Γ) (i + 1) C (parC R' Γ') (fun s x => (s.1, e s.2 x)) := ⟨fun ⟨o, en, h1, h3, h2⟩ hn hj hm hc => by obtain ⟨js', g1, g2⟩ := h.run h2 hn hj hm hc; exact ⟨js', ⟨o, _, by rw [h1]; rfl, h3, g1⟩, g2⟩⟩
theorem nO (h : So Γ i C Γ' e) : So (ownC l C' Γ) (i + 1) C (ownC l C' Γ') (fun s x => (s.1, e s.2 x)) := ⟨fun {F js env m s k1 ob1 x} ⟨k, js, en, ob, h1, h2, h3, h4, h5, h6⟩ hn hj hm hc => by
  subst h1
  obtain ⟨js', g1, g2⟩ := h.run h6 hn (fun q => hj (List.mem_cons_of_mem _ q)) hm hc
  exact ⟨k :: js', ⟨k, js', _, ob, rfl, by rw [h2]; rfl, h3, h4, h5, g1⟩, (g2.cons k).trans (List.Perm.swap _ _ _)⟩⟩
theorem nL (h : So Γ i C Γ' e) : So (lokC C' k ob Γ) (i + 1) C (lokC C' k ob Γ') (fun s x => (s.1, e s.2 x)) := ⟨fun {F js env m s k1 ob1 x} ⟨js, en, h1, h2, h3, h4, h5, h6⟩ hn hj hm hc => by
  subst h1
  obtain ⟨js', g1, g2⟩ := h.run h6 hn (fun q => hj (List.mem_cons_of_mem _ q)) hm hc
  exact ⟨k :: js', ⟨js', _, rfl, by rw [h2]; rfl, h3, h4, h5, g1⟩, (g2.cons k).trans (List.Perm.swap _ _ _)⟩⟩
end
/-- the frame with one more that one owns -/
theorem own_new [ok : CtxOk Γ] {F : Fr} {js : List Nat} {env : DL.Env} {m m' : Mem} (g : RG B Γ F js env m s) (gr : Grw m m') {k : Nat} (hk : m.length ≤ k) (hk' : k < m'.length) : RG B Γ (F.add k) js env m' s ∧ FrLe F (F.add k) m := by
  refine ⟨⟨?_, g.2.nd, fun j hj => .inl (g.2.jq j hj), fun i hi => hi.imp_left (g.2.qp i), fun i hi => ?_, g.2.keep.grw gr, fun i hi => .inl (g.2.old i hi), g.2.own, g.2.n0⟩, fun i hi => ⟨fun q => ?_, fun q => ?_⟩⟩
  · have h1 : Γ (F.add k) js env m s := ok.fr (F := F) (F' := F.add k) rfl (fun i hi hp => by rcases hp with q | q; exact q; omega) (fun i hi hp => by rcases hp with q | q; exact q; omega) g.1
    exact ok.step (fun i hi => hi.imp_left (g.2.qp i)) (fun i o _ => gr.2 i o) h1
  · rcases hi with q | q
    · have := g.2.pl i q; have := gr.1; omega
    · omega
  · rcases q with q | q; exact q; omega
  · rcases q with q | q; exact q; omega
theorem So.wf {C : Rc α} {i : Nat} {e : σ → α → σ'} (h : So Γ i C Γ' e) {F : Fr} {js : List Nat} {env : DL.Env} {m : Mem} {k : Nat} {ob : MO} {x : α} (g : RG B Γ (F.add k) js env m s) (hn : B.m0.length ≤ k) (hkj : k ∉ js) (hm : m[k]? = some ob) (hc : C.c (F.add k).Q m ob x) : ∃ js', RG B Γ' (F.add k) js' (env.set i (some (.ref k))) m (e s x) := by
  obtain ⟨js', h1, h2⟩ := h.run g.1 (by have := g.2.n0; omega) hkj hm hc
  refine ⟨js', h1, h2.symm.nodup (List.nodup_cons.mpr ⟨hkj, g.2.nd⟩), fun j hj => ?_, g.2.qp, g.2.pl, g.2.keep, g.2.old, fun j hj => ?_, g.2.n0⟩
  · rcases List.mem_cons.mp (h2.mem_iff.mp hj) with q | q
    · exact .inr q
    · exact g.2.jq j q
  · rcases List.mem_cons.mp (h2.mem_iff.mp hj) with q | q
    · rw [q]; exact .inl hn
    · exact g.2.own j q

/-! ### simple statements -/
theorem Ra.lve {el : Bool} {Rs : Ra τ} {F : Fr} {m m' : Mem} {js : List Nat} (h : Wf B F js m) {ds : List DV} {x : τ} (hw : w.elk el = true) (r : Rs.r (w.p F m) m' ds x) : Rs.r (F.e el) m' ds x := by
  cases el with
  | true =>
    cases w with
    | new => exact Rs.anti (fun i _ hp => h.pl i hp) r
    | str => exact r
    | q => cases hw
    | any => cases hw
  | false =>
    cases w with
    | new => exact Rs.anti (fun i _ hp => h.pl i (h.qp i hp)) r
    | str => exact Rs.anti (fun i _ hp => h.qp i hp) r
    | q => exact r
    | any => cases hw
variable {e : σ → α → σ'} {i : Nat}
theorem ps_set {el : Bool} [ok' : CtxOk Γ] (st : St (el := el) Γ i R Γ' e) (h : PE B Γ s A w R o) (hw : w.elk el = true := by rfl) : PB B Γ s (sSet i A) o (eNx B Γ' (e s)) := fun F js env m g v hv => by
  obtain ⟨d, m', h1, h2, h3⟩ := h F js env m g v hv
  have g' := g.grw h2
  exact ⟨_, m', F, by simp only [sSet, h1, Out.bind_ok], ⟨_, js, rfl, st.run g'.1 (Rp.lve g.2 hw h3), g'.2⟩, h2.eff, FrLe.refl F m⟩
theorem ps_asg {el : Bool} [ok' : CtxOk Γ] {G : DG} (st : Tg (el := el) Γ R G Γ' e) (h : PE B Γ s A w R o) (hw : w.elk el = true := by rfl) : PB B Γ s (sAsg A G) o (eNx B Γ' (e s)) := fun F js env m g v hv => by
  obtain ⟨d, m', h1, h2, h3⟩ := h F js env m g v hv
  have g' := g.grw h2
  obtain ⟨env', k1, k2⟩ := st.run g'.1 (Rp.lve g.2 hw h3)
  exact ⟨_, m', F, by simp only [sAsg, h1, Out.bind_ok, k1], ⟨_, js, rfl, k2, g'.2⟩, h2.eff, FrLe.refl F m⟩
theorem ps_own [ok' : CtxOk Γ] [fl : Flat R] {o : Option (List α)} {e : σ → List α → σ'} (st : So Γ i (CLst R) Γ' e) (h : PE B Γ s A .new (RLst R) o) : PB B Γ s (sSet i A) o (eNx B Γ' (e s)) := fun F js env m g v hv => by
  obtain ⟨d, m', h1, h2, k, ds, rfl, hk, hl, h4⟩ := h F js env m g v hv
  have hk1 : m.length ≤ k := Nat.le_of_not_lt hk
  have hk2 : k < m'.length := (List.getElem?_eq_some_iff.mp hl).1
  obtain ⟨g1, g2⟩ := own_new g h2 hk1 hk2
  obtain ⟨js', g3⟩ := st.wf g1 (by have := g.2.keep.1; omega) (fun hj => by have := ok'.len g.1 _ hj; omega) hl ⟨ds, rfl, h4.imp fun _ _ => fl.flat⟩
  exact ⟨_, m', F.add k, by simp only [sSet, h1, Out.bind_ok], ⟨_, js', rfl, g3⟩, h2.eff, g2⟩
theorem ps_ownD [ok' : CtxOk Γ] [fl : Flat R] {o : Option (List (Key × α))} {e : σ → List (Key × α) → σ'} (st : So Γ i (CDic R) Γ' e) (h : PE B Γ s A .new (RDic R) o) : PB B Γ s (sSet i A) o (eNx B Γ' (e s)) := fun F js env m g v hv => by
  obtain ⟨d, m', h1, h2, k, ds, rfl, hk, hl, h4⟩ := h F js env m g v hv
  have hk1 : m.length ≤ k := Nat.le_of_not_lt hk
  have hk2 : k < m'.length := (List.getElem?_eq_some_iff.mp hl).1
  obtain ⟨g1, g2⟩ := own_new g h2 hk1 hk2
  obtain ⟨js', g3⟩ := st.wf g1 (by have := g.2.keep.1; omega) (fun hj => by have := ok'.len g.1 _ hj; omega) hl ⟨ds, rfl, h4.imp fun _ _ q => ⟨q.1, fl.flat q.2⟩⟩
  exact ⟨_, m', F.add k, by simp only [sSet, h1, Out.bind_ok], ⟨_, js', rfl, g3⟩, h2.eff, g2⟩
/-- a, b = x, y -/
theorem ps_par {el : Bool} [ok' : CtxOk Γ] {j : Nat} {σ2 : Type} {Γ2 : Ctx σ2} {e2 : σ' → β → σ2} {o : Option (α × β × Unit)} (st : St (el := el) Γ i R Γ' e) (st2 : St (el := el) Γ' j R' Γ2 e2) (h : PA B Γ s As w (RaC R (RaC R' RaN)) o) (hw : w.elk el = true := by rfl) : PB B Γ s (sPar i j As) o (eNx B Γ2 (fun x => e2 (e s x.1) x.2.1)) := fun F js env m g v hv => by
  obtain ⟨ds, m', h1, h2, h3⟩ := h F js env m g v hv
  have h3' : (RaC R (RaC R' RaN)).r (F.e el) m' ds v := Ra.lve g.2 hw h3
  obtain ⟨d1, es1, e1, q1, d2, es2, e2', q2, q3⟩ := h3'
  cases (show es2 = [] from q3)
  subst e1 e2'
  have g' := g.grw h2
  exact ⟨_, m', F, by simp only [sPar, h1, Out.bind_ok], ⟨_, js, rfl, st2.run (st.run g'.1 q1) q2, g'.2⟩, h2.eff, FrLe.refl F m⟩
theorem ps_par3 {el : Bool} [ok' : CtxOk Γ] {j l : Nat} {σ2 σ3 : Type} {R2 : Rp γ} {Γ2 : Ctx σ2} {Γ3 : Ctx σ3} {e2 : σ' → β → σ2} {e3 : σ2 → γ → σ3} {o : Option (α × β × γ × Unit)} (st : St (el := el) Γ i R Γ' e) (st2 : St (el := el) Γ' j R' Γ2 e2) (st3 : St (el := el) Γ2 l R2 Γ3 e3) (h : PA B Γ s As w (RaC R (RaC R' (RaC R2 RaN))) o) (hw : w.elk el = true := by rfl) : PB B Γ s (sPar3 i j l As) o (eNx B Γ3 (fun x => e3 (e2 (e s x.1) x.2.1) x.2.2.1)) := fun F js env m g v hv => by
  obtain ⟨ds, m', h1, h2, h3⟩ := h F js env m g v hv
  have h3' : (RaC R (RaC R' (RaC R2 RaN))).r (F.e el) m' ds v := Ra.lve g.2 hw h3
  obtain ⟨d1, es1, e1, q1, d2, es2, e2', q2, d3, es3, e3', q3, q4⟩ := h3'
  cases (show es3 = [] from q4)
  subst e1 e2' e3'
  have g' := g.grw h2
  exact ⟨_, m', F, by simp only [sPar3, h1, Out.bind_ok], ⟨_, js, rfl, st3.run (st2.run (st.run g'.1 q1) q2) q3, g'.2⟩, h2.eff, FrLe.refl F m⟩
/-- x += e -/
theorem ps_aug [ok' : CtxOk Γ] {R2 : Rp γ} {f : D2} {gg : α → β → Option γ} {e : σ → γ → σ'} {p : σ → α} (u : U2 f R R' R2 gg) (va : ValAt Γ i R p) (st : St (el := true) Γ i R2 Γ' e) (h : PE B Γ s A w R' o') : PB B Γ s (sAug i f A) (o'.bind fun y => gg (p s) y) (eNx B Γ' (e s)) := fun F js env m g v hv => by
  obtain ⟨y, h1, h2⟩ := Option.bind_eq_some_iff.mp hv
  obtain ⟨d0, k1, k2⟩ := va.get g.1
  obtain ⟨d, m1, l1, l2, l3⟩ := h F js env m g y h1
  obtain ⟨d', m2, n1, n2, n3⟩ := u.run (Rp.any (Rp.grw k2 l2)) (Rp.any l3) h2
  have g' := g.grw (l2.trans n2)
  exact ⟨_, m2, F, by simp only [sAug, k1, l1, Out.bind_ok, n1], ⟨_, js, rfl, st.run g'.1 (g.2.new (Rp.old n3 l2.1)), g'.2⟩, (l2.trans n2).eff, FrLe.refl F m⟩
theorem ps_expr [ok' : CtxOk Γ] (h : PE B Γ s A w R o) : PB B Γ s (sExpr A) (o.bind fun _ => some ()) (eNx B Γ (fun _ => s)) := fun F js env m g v hv => by
  obtain ⟨y, h1, h2⟩ := Option.bind_eq_some_iff.mp hv
  obtain ⟨d, m1, l1, l2, l3⟩ := h F js env m g y h1
  exact ⟨_, m1, F, by simp only [sExpr, l1, Out.bind_ok], ⟨_, js, rfl, g.grw l2⟩, l2.eff, FrLe.refl F m⟩
/-- what one owns is changed -/
theorem own_put {C : Rc α} {p : σ → α} {u : σ → α → σ} {i : Nat} (oa : OwnAt Γ i C p u) {F : Fr} {js : List Nat} {env : DL.Env} {m : Mem} (g : RG B Γ F js env m s) {k : Nat} (hk : env[i]? = some (some (.ref k))) (hkj : k ∈ js) (hkl : k < m.length) {ob : MO} {x : α} (hc : C.c F.Q (m.set k ob) ob x) : RG B Γ F js env (m.set k ob) (u s x) ∧ Eff F.Q m (m.set k ob) := by
  have st : ∀ j o, j ≠ k → m[j]? = some o → (m.set k ob)[j]? = some o := fun j o hj h => by rw [List.getElem?_set_ne (fun q => hj q.symm)]; exact h
  have kq := g.2.jq k hkj
  refine ⟨⟨oa.set g.1 g.2.nd g.2.qp hk (fun j o hj h => st j o ?_ h) (List.getElem?_set_self hkl) hc, g.2.nd, g.2.jq, g.2.qp, fun i hi => by simpa using g.2.pl i hi, ⟨by simpa using g.2.keep.1, fun i o hi h => st i o ?_ (g.2.keep.2 i o hi h)⟩, g.2.old, g.2.own, g.2.n0⟩, by simp, fun i o hi h => st i o (fun q => hi (q ▸ kq)) h⟩
  · rcases hj with q | q
    · exact fun z => q (z ▸ kq)
    · exact q.2
  · rintro rfl
    rcases g.2.own i hkj with q | q
    · have := (List.getElem?_eq_some_iff.mp h).1; omega
    · exact hi q
theorem set_off {P : Nat → Prop} {m : Mem} {k : Nat} (hk : P k) {ob : MO} : ∀ (i : Nat) (o : MO), ¬ P i → m[i]? = some o → (m.set k ob)[i]? = some o := fun i o hi h => by
  rw [List.getElem?_set_ne (fun (z : k = i) => hi (z ▸ hk))]; exact h
theorem ps_app [ok' : CtxOk Γ] {p : σ → List α} {u : σ → List α → σ} (oa : OwnAt Γ i (CLst R) p u) (h : PE B Γ s A w R o) (hw : w.ok = true := by rfl) : PB B Γ s (sExpr (eAppend (eVar i) A)) (o.bind fun y => (szO ((p s).length + 1)).bind fun _ => some (p s ++ [y])) (eNx B Γ (u s)) := fun F js env m g v hv => by
  obtain ⟨y, h1, h2⟩ := Option.bind_eq_some_iff.mp hv
  obtain ⟨_, h3, h4⟩ := Option.bind_eq_some_iff.mp h2
  cases h4
  obtain ⟨d, m1, l1, l2, l3⟩ := h F js env m g y h1
  have g' := g.grw l2
  obtain ⟨k0, ob0, a1, a2, a3, ds0, rfl, a4⟩ := oa.get g.1
  obtain ⟨k, ob, q1, q2, q3, ds, rfl, q4⟩ := oa.get g'.1
  rw [a1] at q1
  have : k0 = k := by simpa using q1
  subst this
  have hlt := (List.getElem?_eq_some_iff.mp q3).1
  have kq := g.2.jq _ a2
  have hl : ds.length < 16777216 := by have := szO_iff.mp h3; have := q4.len; omega
  have fa : Fa (R.r F.Q (m1.set k0 (.lst (ds ++ [d])))) (ds ++ [d]) (p s ++ [y]) := Fa.app (q4.imp fun _ _ => R.step (set_off kq))
    (.cons (R.anti (fun i _ hi => g.2.qp i hi) (R.step (set_off (g.2.qp _ kq)) (Rp.lvs g.2 hw l3))) .nil)
  obtain ⟨r1, r2⟩ := own_put oa g' a1 a2 hlt (ob := .lst (ds ++ [d])) (x := p s ++ [y]) ⟨_, rfl, fa⟩
  refine ⟨_, m1.set k0 (.lst (ds ++ [d])), F, ?_, ⟨env, js, rfl, r1⟩, l2.eff.trans r2 (fun _ _ h => h), FrLe.refl F m⟩
  have e1 : eAppend (eVar i) A env m = .ok .non (m1.set k0 (.lst (ds ++ [d]))) := eAppend_eq (by simp only [eVar, a1]) a3 l1 q3 hl
  simp only [sExpr, e1, Out.bind_ok]
def ixO (n : Nat) (j : Int) : Option Nat := ixN n j
theorem ps_setL [ok' : CtxOk Γ] {I : DE} {w2 : Lv} {oi : Option Int} {p : σ → List α} {u : σ → List α → σ} (oa : OwnAt Γ i (CLst R) p u) (h : PE B Γ s A w R o) (hi : PE B Γ s I w2 RInt oi) (hw : w.ok = true := by rfl) : PB B Γ s (sAsg A (gSetL (eVar i) I)) (o.bind fun y => oi.bind fun j => (ixO (p s).length j).bind fun n => some ((p s).set n y)) (eNx B Γ (u s)) := fun F js env m g v hv => by
  obtain ⟨y, h1, h2⟩ := Option.bind_eq_some_iff.mp hv
  obtain ⟨j, h3, h4⟩ := Option.bind_eq_some_iff.mp h2
  obtain ⟨n, h5, h6⟩ := Option.bind_eq_some_iff.mp h4
  cases h6
  obtain ⟨d, m1, l1, l2, l3⟩ := h F js env m g y h1
  obtain ⟨di, m2, n1, n2, n3⟩ := hi F js env m1 (g.grw l2) j h3
  cases (show di = .int j from n3)
  have g' := g.grw (l2.trans n2)
  obtain ⟨k0, ob0, a1, a2, a3, ds0, rfl, a4⟩ := oa.get g.1
  obtain ⟨k, ob, q1, q2, q3, ds, rfl, q4⟩ := oa.get g'.1
  rw [a1] at q1
  have : k0 = k := by simpa using q1
  subst this
  have hlt := (List.getElem?_eq_some_iff.mp q3).1
  have kq := g.2.jq _ a2
  have l3' := Rp.grw (Rp.lvs g.2 hw l3) n2
  have fa : Fa (R.r F.Q (m2.set k0 (.lst (ds.set n d)))) (ds.set n d) ((p s).set n y) := Fa.set (R.anti (fun i _ hi => g.2.qp i hi) (R.step (set_off (g.2.qp _ kq)) l3')) n
    (q4.imp fun _ _ => R.step (set_off kq))
  obtain ⟨r1, r2⟩ := own_put oa g' a1 a2 hlt (ob := .lst (ds.set n d)) (x := (p s).set n y) ⟨_, rfl, fa⟩
  refine ⟨_, m2.set k0 (.lst (ds.set n d)), F, ?_, ⟨env, js, rfl, r1⟩, (l2.trans n2).eff.trans r2 (fun _ _ h => h), FrLe.refl F m⟩
  have e1 : ixN ds.length j = some n := by rw [q4.len]; exact h5
  simp only [sAsg, l1, Out.bind_ok, gSetL, eVar, a1, n1, setL, q3, e1]

/-! ### ends, order -/
structure AccN (B : Bs) (Γ : Ctx σ) (s : σ) (E : En κ) (v : κ) : Prop where
  run : ∀ {F : Fr} {js : List Nat} {env : DL.Env} {m : Mem}, RG B Γ F js env m s → ∃ F', E v F' (.nx env) m ∧ FrLe F F' m
structure AccC (B : Bs) (Γ : Ctx σ) (s : σ) (E : En κ) (v : κ) : Prop where
  run : ∀ {F : Fr} {js : List Nat} {env : DL.Env} {m : Mem}, RG B Γ F js env m s → ∃ F', E v F' (.ct env) m ∧ FrLe F F' m
structure AccB (B : Bs) (Γ : Ctx σ) (s : σ) (E : En κ) (v : κ) : Prop where
  run : ∀ {F : Fr} {js : List Nat} {env : DL.Env} {m : Mem}, RG B Γ F js env m s → ∃ F', E v F' (.bk env) m ∧ FrLe F F' m
structure AccR (B : Bs) (Γ : Ctx σ) (s : σ) (E : En κ) (R : Rp ρ) (g : ρ → κ) : Prop where
  run : ∀ {F : Fr} {js : List Nat} {env : DL.Env} {m : Mem} {d : DV} {v : ρ}, RG B Γ F js env m s → R.r B.p0 m d v → E (g v) F (.rt d) m
section
variable {emb : τ → σ'} {t : τ} {Er : En ρ} {E : En κ}
theorem accN_nx (h : Wk Γ s Γ' (emb t)) : AccN B Γ s (eNx B Γ' emb) t := ⟨fun g => by obtain ⟨F', js', g1, g2⟩ := h.run g; exact ⟨F', ⟨_, js', rfl, g1⟩, g2⟩⟩
theorem accN_lp (h : Wk Γ s Γ' (emb t)) : AccN B Γ s (eLp B Γ' emb Er) (.nx t) := ⟨fun g => by obtain ⟨F', js', g1, g2⟩ := h.run g; exact ⟨F', ⟨_, js', .inl rfl, g1⟩, g2⟩⟩
theorem accN_lx (h : Wk Γ s Γ' (emb t)) : AccN B Γ s (eLx B Γ' emb Er) (.nx t) := ⟨fun g => by obtain ⟨F', js', g1, g2⟩ := h.run g; exact ⟨F', ⟨_, js', rfl, g1⟩, g2⟩⟩
theorem accN_fn : AccN B Γ s (eFn B RNon) () := ⟨fun {F js env m} g => ⟨F, ⟨.non, rfl, rfl, g.2.keep⟩, FrLe.refl F m⟩⟩
theorem accC_lp (h : Wk Γ s Γ' (emb t)) : AccC B Γ s (eLp B Γ' emb Er) (.nx t) := ⟨fun g => by obtain ⟨F', js', g1, g2⟩ := h.run g; exact ⟨F', ⟨_, js', .inr rfl, g1⟩, g2⟩⟩
theorem accB_lp (h : Wk Γ s Γ' (emb t)) : AccB B Γ s (eLp B Γ' emb Er) (.bk t) := ⟨fun g => by obtain ⟨F', js', g1, g2⟩ := h.run g; exact ⟨F', ⟨_, js', rfl, g1⟩, g2⟩⟩
theorem accR_fn {R : Rp ρ} : AccR B Γ s (eFn B R) R id := ⟨fun {F js env m d v} g r => ⟨d, rfl, r, g.2.keep⟩⟩
theorem accR_lp {R : Rp β} {g : β → ρ} (h : AccR B Γ s Er R g) : AccR B Γ s (eLp B Γ' emb Er) R (fun v => .rt (g v)) := ⟨fun {F js env m d v} gg r => ⟨h.run gg r, d, rfl⟩⟩
theorem accR_lx {R : Rp β} {g : β → ρ} (h : AccR B Γ s Er R g) : AccR B Γ s (eLx B Γ' emb Er) R (fun v => .rt (g v)) := ⟨fun {F js env m d v} gg r => ⟨h.run gg r, d, rfl⟩⟩
/-- an io def's end: the slot of what it changes -/
structure IoAt (Γ : Ctx σ) (k : Nat) (C : Rc α) (p : σ → α) : Prop where
  get : ∀ {F : Fr} {js : List Nat} {env : DL.Env} {m : Mem} {s : σ}, Γ F js env m s → k ∈ js ∧ ∃ ob, m[k]? = some ob ∧ C.c F.Q m ob (p s)
theorem io0 {C : Rc α} {k : Nat} : IoAt (ownC (some k) C Γ) k C Prod.fst := ⟨fun ⟨k', js', e, ob, h1, h2, h3, h4, h5, h6⟩ => by
  cases (show k' = k from h5)
  exact ⟨by rw [h1]; exact List.mem_cons_self, ob, h3, h4⟩⟩
theorem accR_io {C : Rc α} {k : Nat} {p : σ → α} {R : Rp ρ} (h : IoAt Γ k C p) : AccR B Γ s (eFnX B k C R) R (fun v => (v, p s)) := ⟨fun {F js env m d v} g r => by
  obtain ⟨h1, ob, h2, h3⟩ := h.get g.1
  exact ⟨d, ob, rfl, r, h2, C.anti (fun i _ hi => by rw [hi]; exact g.2.jq k h1) h3, g.2.keep⟩⟩
theorem accN_io {C : Rc α} {k : Nat} {p : σ → α} (h : IoAt Γ k C p) : AccN B Γ s (eFnX B k C RNon) ((), p s) := ⟨fun {F js env m} g => by
  obtain ⟨h1, ob, h2, h3⟩ := h.get g.1
  exact ⟨F, ⟨.non, ob, rfl, rfl, h2, C.anti (fun i _ hi => by rw [hi]; exact g.2.jq k h1) h3, g.2.keep⟩, FrLe.refl F m⟩⟩
theorem ps_ret [ok' : CtxOk Γ] {g : α → κ} (a : AccR B Γ s E R g) (h : PE B Γ s A w R o) (hw : w.ok = true := by rfl) {p : Option κ} (e : p = o.bind fun v => some (g v) := by rfl) : PB B Γ s (sRet A) p (stc E) := fun F js env m gg v hv => by
  subst e
  obtain ⟨y, h1, h2⟩ := Option.bind_eq_some_iff.mp hv
  cases h2
  obtain ⟨d, m1, l1, l2, l3⟩ := h F js env m gg y h1
  have gg' := gg.grw l2
  exact ⟨_, m1, F, by simp only [sRet, l1, Out.bind_ok], ⟨a.run gg' (R.anti (fun i _ hi => gg.2.old i hi) (Rp.lvs gg.2 hw l3)), fun env h => by cases h⟩, l2.eff, FrLe.refl F m⟩
theorem ps_retN {g : Unit → κ} (a : AccR B Γ s E RNon g) {p : Option κ} (e : p = some (g ()) := by rfl) : PB B Γ s sRetN p (stc E) := fun F js env m gg v hv => by
  subst e; cases hv
  exact ⟨_, m, F, rfl, ⟨a.run gg rfl, fun env h => by cases h⟩, Eff.refl m, FrLe.refl F m⟩
theorem ps_skip {v : κ} (a : AccN B Γ s E v) {p : Option κ} (e : p = some v := by rfl) : PB B Γ s sSkip p E := fun F js env m gg x hv => by
  subst e; cases hv
  obtain ⟨F', h1, h2⟩ := a.run gg
  exact ⟨_, m, F', rfl, h1, Eff.refl m, h2⟩
theorem ps_cont {v : κ} (a : AccC B Γ s E v) {p : Option κ} (e : p = some v := by rfl) : PB B Γ s sCont p (stc E) := fun F js env m gg x hv => by
  subst e; cases hv
  obtain ⟨F', h1, h2⟩ := a.run gg
  exact ⟨_, m, F', rfl, ⟨h1, fun env h => by cases h⟩, Eff.refl m, h2⟩
theorem ps_brk {v : κ} (a : AccB B Γ s E v) {p : Option κ} (e : p = some v := by rfl) : PB B Γ s sBreak p (stc E) := fun F js env m gg x hv => by
  subst e; cases hv
  obtain ⟨F', h1, h2⟩ := a.run gg
  exact ⟨_, m, F', rfl, ⟨h1, fun env h => by cases h⟩, Eff.refl m, h2⟩
theorem ps_fin {o1 : Option τ} {g : τ → κ} (h : PB B Γ s S o1 (eNx B Γ' emb)) (a : ∀ t, AccN B Γ' (emb t) E (g t)) {p : Option κ} (e : p = o1.bind fun t => some (g t) := by rfl) : PB B Γ s S p E := fun F js env m gg v hv => by
  subst e
  obtain ⟨t, h1, h2⟩ := Option.bind_eq_some_iff.mp hv
  cases h2
  obtain ⟨fl, m', F', k1, ⟨env', js', rfl, k2⟩, k3, k4⟩ := h F js env m gg t h1
  obtain ⟨F2, l1, l2⟩ := (a t).run k2
  exact ⟨_, m', F2, k1, l1, k3, k4.trans l2 k3.1⟩
theorem ps_seq {o1 : Option τ} {k : τ → Option κ} (h : PB B Γ s S1 o1 (eNx B Γ' emb)) (h2 : ∀ t, PB B Γ' (emb t) S2 (k t) E) {p : Option κ} (e : p = o1.bind k := by rfl) : PB B Γ s (sSeq S1 S2) p E := fun F js env m gg v hv => by
  subst e
  obtain ⟨t, h1, h3⟩ := Option.bind_eq_some_iff.mp hv
  obtain ⟨fl, m1, F1, k1, ⟨env', js', rfl, k2⟩, k3, k4⟩ := h F js env m gg t h1
  obtain ⟨fl2, m2, F2, l1, l2, l3, l4⟩ := h2 t F1 js' env' m1 k2 v h3
  exact ⟨fl2, m2, F2, by simp only [sSeq, k1, Out.bind_ok, l1], l2, k3.trans l3 (fun i hi q => (k4 i hi).2 q), k4.trans l4 k3.1⟩
/-- first forget -/
theorem ps_wk (h : Wk Γ s Γ' s') {o : Option κ} (h2 : PB B Γ' s' S o E) : PB B Γ s S o E := fun F js env m gg v hv => by
  obtain ⟨F1, js1, g1, g2⟩ := h.run gg
  obtain ⟨fl, m', F', k1, k2, k3, k4⟩ := h2 F1 js1 env m g1 v hv
  exact ⟨fl, m', F', k1, k2, ⟨k3.1, fun i o hi q => k3.2 i o (fun z => hi ((g2 i (List.getElem?_eq_some_iff.mp q).1).2 z)) q⟩, g2.trans k4 (Nat.le_refl _)⟩
/-- how a return of a loop's body goes on -/
structure Inj (Er : En ρ) (E : En κ) (g : ρ → κ) : Prop where
  run : ∀ {v : ρ} {F : Fr} {d : DV} {m : Mem}, Er v F (.rt d) m → E (g v) F (.rt d) m
theorem inj_id : Inj E E id := ⟨fun h => h⟩
theorem inj_lp {E2 : En α} {g : ρ → α} (h : Inj Er E2 g) : Inj Er (eLp B Γ' emb E2) (fun v => .rt (g v)) := ⟨fun {v F d m} q => ⟨h.run q, d, rfl⟩⟩
theorem inj_lx {E2 : En α} {g : ρ → α} (h : Inj Er E2 g) : Inj Er (eLx B Γ' emb E2) (fun v => .rt (g v)) := ⟨fun {v F d m} q => ⟨h.run q, d, rfl⟩⟩
def lpK (k : τ → Option κ) (g : ρ → κ) : Lp τ ρ → Option κ
  | .nx t => k t
  | .rt v => some (g v)
  | .bk _ => none
theorem ps_seqL {o1 : Option (Lp τ ρ)} {k : τ → Option κ} {g : ρ → κ} (h : PB B Γ s S1 o1 (eLx B Γ' emb Er)) (i : Inj Er E g) (h2 : ∀ t, PB B Γ' (emb t) S2 (k t) E) {p : Option κ} (e : p = o1.bind (lpK k g) := by rfl) : PB B Γ s (sSeq S1 S2) p E := fun F js env m gg v hv => by
  subst e
  obtain ⟨l, h1, h3⟩ := Option.bind_eq_some_iff.mp hv
  obtain ⟨fl, m1, F1, k1, ke, k3, k4⟩ := h F js env m gg l h1
  cases l with
  | nx t =>
    obtain ⟨env', js', rfl, k2⟩ := ke
    obtain ⟨fl2, m2, F2, l1, l2, l3, l4⟩ := h2 t F1 js' env' m1 k2 v h3
    exact ⟨fl2, m2, F2, by simp only [sSeq, k1, Out.bind_ok, l1], l2, k3.trans l3 (fun i hi q => (k4 i hi).2 q), k4.trans l4 k3.1⟩
  | bk t => exact ke.elim
  | rt x =>
    cases h3
    obtain ⟨k2, d, rfl⟩ := ke
    exact ⟨.rt d, m1, F1, by simp only [sSeq, k1, Out.bind_ok], i.run k2, k3, k4⟩
theorem ps_finL {o1 : Option (Lp τ ρ)} {k : τ → κ} {g : ρ → κ} (h : PB B Γ s S1 o1 (eLx B Γ' emb Er)) (i : Inj Er E g) (a : ∀ t, AccN B Γ' (emb t) E (k t)) {p : Option κ} (e : p = o1.bind (lpK (fun t => some (k t)) g) := by rfl) : PB B Γ s S1 p E := fun F js env m gg v hv => by
  subst e
  obtain ⟨l, h1, h3⟩ := Option.bind_eq_some_iff.mp hv
  obtain ⟨fl, m1, F1, k1, ke, k3, k4⟩ := h F js env m gg l h1
  cases l with
  | nx t =>
    cases h3
    obtain ⟨env', js', rfl, k2⟩ := ke
    obtain ⟨F2, l1, l2⟩ := (a t).run k2
    exact ⟨_, m1, F2, k1, l1, k3, k4.trans l2 k3.1⟩
  | bk t => exact ke.elim
  | rt x =>
    cases h3
    obtain ⟨k2, d, rfl⟩ := ke
    exact ⟨.rt d, m1, F1, k1, i.run k2, k3, k4⟩
theorem ps_if [ok' : CtxOk Γ] {c : Option Bool} {o1 o2 p : Option κ} (h : PT B Γ s T c) (h1 : PB B Γ s S1 o1 E) (h2 : PB B Γ s S2 o2 E) (e : p = c.bind fun b => if b then o1 else o2 := by rfl) : PB B Γ s (sIf T S1 S2) p E := fun F js env m gg v hv => by
  subst e
  obtain ⟨b, e1, e2⟩ := Option.bind_eq_some_iff.mp hv
  obtain ⟨m1, k1, k2⟩ := h F js env m gg b e1
  have gg' := gg.grw k2
  cases b with
  | true =>
    obtain ⟨fl, m2, F2, l1, l2, l3, l4⟩ := h1 F js env m1 gg' v e2
    exact ⟨fl, m2, F2, by simp only [sIf, k1, Out.bind_ok, if_true, l1], l2, Eff.trans (Q := F.Q) k2.eff l3 (fun _ _ h => h), fun i hi => l4 i (Nat.lt_of_lt_of_le hi k2.1)⟩
  | false =>
    obtain ⟨fl, m2, F2, l1, l2, l3, l4⟩ := h2 F js env m1 gg' v e2
    exact ⟨fl, m2, F2, by simp [sIf, k1, l1], l2, Eff.trans (Q := F.Q) k2.eff l3 (fun _ _ h => h), fun i hi => l4 i (Nat.lt_of_lt_of_le hi k2.1)⟩
/-- if c: (never goes on); the rest -/
theorem ps_ifR [ok' : CtxOk Γ] {c : Option Bool} {o1 o2 p : Option κ} (h : PT B Γ s T c) (h1 : PB B Γ s S1 o1 (stc E)) (h2 : PB B Γ s S2 o2 E) (e : p = c.bind fun b => if b then o1 else o2 := by rfl) : PB B Γ s (sSeq (sIf T S1 sSkip) S2) p E := fun F js env m gg v hv => by
  subst e
  obtain ⟨b, e1, e2⟩ := Option.bind_eq_some_iff.mp hv
  obtain ⟨m1, k1, k2⟩ := h F js env m gg b e1
  have gg' := gg.grw k2
  cases b with
  | true =>
    obtain ⟨fl, m2, F2, l1, l2, l3, l4⟩ := h1 F js env m1 gg' v e2
    refine ⟨fl, m2, F2, ?_, l2.1, Eff.trans (Q := F.Q) k2.eff l3 (fun _ _ h => h), fun i hi => l4 i (Nat.lt_of_lt_of_le hi k2.1)⟩
    simp only [sSeq, sIf, k1, Out.bind_ok, if_true, l1]
    cases fl with
    | nx env => exact absurd rfl (l2.2 env)
    | _ => rfl
  | false =>
    obtain ⟨fl, m2, F2, l1, l2, l3, l4⟩ := h2 F js env m1 gg' v e2
    exact ⟨fl, m2, F2, by simp [sSeq, sIf, sSkip, k1, l1], l2, Eff.trans (Q := F.Q) k2.eff l3 (fun _ _ h => h), fun i hi => l4 i (Nat.lt_of_lt_of_le hi k2.1)⟩
theorem ps_ifE [ok' : CtxOk Γ] {c : Option Bool} {o1 o2 p : Option κ} (h : PT B Γ s T c) (h1 : PB B Γ s S1 o1 (stc E)) (h2 : PB B Γ s (sSeq S2 S) o2 E) (e : p = c.bind fun b => if b then o1 else o2 := by rfl) : PB B Γ s (sSeq (sIf T S1 S2) S) p E := fun F js env m gg v hv => by
  subst e
  obtain ⟨b, e1, e2⟩ := Option.bind_eq_some_iff.mp hv
  obtain ⟨m1, k1, k2⟩ := h F js env m gg b e1
  have gg' := gg.grw k2
  cases b with
  | true =>
    obtain ⟨fl, m2, F2, l1, l2, l3, l4⟩ := h1 F js env m1 gg' v e2
    refine ⟨fl, m2, F2, ?_, l2.1, Eff.trans (Q := F.Q) k2.eff l3 (fun _ _ h => h), fun i hi => l4 i (Nat.lt_of_lt_of_le hi k2.1)⟩
    simp only [sSeq, sIf, k1, Out.bind_ok, if_true, l1]
    cases fl with
    | nx env => exact absurd rfl (l2.2 env)
    | _ => rfl
  | false =>
    obtain ⟨fl, m2, F2, l1, l2, l3, l4⟩ := h2 F js env m1 gg' v e2
    refine ⟨fl, m2, F2, ?_, l2, Eff.trans (Q := F.Q) k2.eff l3 (fun _ _ h => h), fun i hi => l4 i (Nat.lt_of_lt_of_le hi k2.1)⟩
    simp only [sSeq] at l1
    simp [sSeq, sIf, k1, l1]
end
end
end TM

end
section
set_option Elab.async false
set_option linter.all false
set_option maxRecDepth 100000
set_option maxHeartbeats 4000000
set_option autoImplicit false
/-! TM5: loops; defs. -/
namespace TM
open PySem PySem.Spec L2 DL
section
variable {σ σ' τ τ' α β γ δ ρ κ : Type} {B : Bs} {Γ : Ctx σ} {Γ' : Ctx σ'} {s : σ} {s' : σ'} {A A' : DE} {As : DA} {T U : DT} {S S' S1 S2 : DS} {w w' : Lv} {R : Rp α} {R' : Rp β} {o : Option α} {o' : Option β}
def forL (xs : List α) (t : τ) (b : τ → α → Option (Lp τ ρ)) : Option (Lp τ ρ) := match xs with
  | [] => some (.nx t)
  | x :: r => (b t x).bind fun l => match l with
    | .nx t' => forL r t' b
    | .bk t' => some (.nx t')
    | .rt v => some (.rt v)
def forO (xs : List α) (t : τ) (b : τ → α → Option τ) : Option τ := match xs with
  | [] => some t
  | x :: r => (b t x).bind fun t' => forO r t' b
theorem for_core {el : Bool} {ρ' : Type} {G : DG} {Γx : Ctx ρ'} {e : σ' → α → ρ'} {emb : τ → σ'} {Er : En ρ} {b : τ → α → Option (Lp τ ρ)} (hg : Tg (el := el) Γ' R G Γx e) (hb : ∀ t x, PB B Γx (e (emb t) x) S (b t x) (eLp B Γ' emb Er)) {F0 : Fr} {n : Nat} {gs : List (Nat × MO)} (hgs : (∀ p ∈ gs, p.1 < n ∧ ¬ F0.Q p.1) ∨ ∀ (F : Fr) (js : List Nat) (env : DL.Env) (m : Mem) (t : τ), Γ' F js env m (emb t) → guard gs m) :
    ∀ (ds : List DV) (xs : List α) (F : Fr) (js : List Nat) (env : DL.Env) (m : Mem) (t : τ), RG B Γ' F js env m (emb t) → n ≤ m.length → (∀ i, i < n → (F.P i → F0.P i) ∧ (F.Q i → F0.Q i)) → (∀ i, F0.Q i → F0.P i) → Fa (R.r (fun i => F0.e el i ∨ n ≤ i) m) ds xs → guard gs m →
      ∀ l, forL xs t b = some l → ∃ fl m' F', forD gs G S ds env m = .ok fl m' ∧ eLx B Γ' emb Er l F' fl m' ∧ Eff F.Q m m' ∧ FrLe F F' m
  | [], _, F, js, env, m, t, hr, hn, hf, hqp, .nil, hgd, l, hl => by
    cases hl
    exact ⟨.nx env, m, F, by unfold forD; rw [if_pos hgd], ⟨env, js, rfl, hr⟩, Eff.refl m, FrLe.refl F m⟩
  | d :: ds, x :: xs, F, js, env, m, t, hr, hn, hf, hqp, .cons hd hds, hgd, l, hl => by
    simp only [forL] at hl
    obtain ⟨l1, h1, h2⟩ := Option.bind_eq_some_iff.mp hl
    have hd' : R.r (F.e el) m d x := by
      refine R.anti (fun i hi hp => ?_) hd
      by_cases h : i < n
      · refine .inl ?_
        cases el with
        | true => exact (hf i h).1 hp
        | false => exact (hf i h).2 hp
      · exact .inr (by omega)
    obtain ⟨env1, k1, k2⟩ := hg.run hr.1 hd'
    obtain ⟨fl, m1, F1, q1, q2, q3, q4⟩ := hb t x F js env1 m ⟨k2, hr.2⟩ l1 h1
    have hds1 : Fa (R.r (fun i => F0.e el i ∨ n ≤ i) m1) ds xs := hds.imp fun _ _ => R.step fun i o hi h => q3.2 i o (fun z => hi (by
      by_cases hh : i < n
      · exact .inl (Fr.eq hqp i ((hf i hh).2 z))
      · exact .inr (by omega))) h
    have hf1 : ∀ i, i < n → (F1.P i → F0.P i) ∧ (F1.Q i → F0.Q i) := fun i hi => ⟨fun z => (hf i hi).1 ((q4 i (by omega)).1 z), fun z => (hf i hi).2 ((q4 i (by omega)).2 z)⟩
    cases l1 with
    | nx t' =>
      obtain ⟨env2, js2, hfl, k3⟩ := q2
      have hgd1 : guard gs m1 := by
        rcases hgs with h | h
        · exact fun p hp => q3.2 _ _ (fun z => (h p hp).2 ((hf _ (h p hp).1).2 z)) (hgd p hp)
        · exact h _ _ _ _ _ k3.1
      obtain ⟨fl2, m2, F2, r1, r2, r3, r4⟩ := for_core hg hb hgs ds xs F1 js2 env2 m1 t' k3 (Nat.le_trans hn q3.1) hf1 hqp hds1 hgd1 l h2
      refine ⟨fl2, m2, F2, ?_, r2, q3.trans r3 (fun i hi z => (q4 i hi).2 z), q4.trans r4 q3.1⟩
      unfold forD
      rw [if_pos hgd, k1]
      simp only [Out.bind_ok, q1]
      rcases hfl with rfl | rfl
      · exact r1
      · exact r1
    | bk t' =>
      cases h2
      obtain ⟨env2, js2, rfl, k3⟩ := q2
      refine ⟨.nx env2, m1, F1, ?_, ⟨env2, js2, rfl, k3⟩, q3, q4⟩
      unfold forD
      rw [if_pos hgd, k1]
      simp only [Out.bind_ok, q1]
    | rt v =>
      cases h2
      obtain ⟨k3, d, rfl⟩ := q2
      refine ⟨.rt d, m1, F1, ?_, ⟨k3, d, rfl⟩, q3, q4⟩
      unfold forD
      rw [if_pos hgd, k1]
      simp only [Out.bind_ok, q1]
theorem ps_for {el : Bool} [ok : CtxOk Γ] {ρ' : Type} {I : DI} {G : DG} {Γx : Ctx ρ'} {e : σ' → α → ρ'} {emb : τ → σ'} {Er : En ρ} {t0 : τ} {oi : Option (List α)} {b : τ → α → Option (Lp τ ρ)} (hi : PI B Γ s I true el R oi) (hw : Wk Γ s Γ' (emb t0)) (hg : Tg (el := el) Γ' R G Γx e) (hb : ∀ t x, PB B Γx (e (emb t) x) S (b t x) (eLp B Γ' emb Er))
    {p : Option (Lp τ ρ)} (ho : p = oi.bind fun xs => forL xs t0 b := by rfl) : PB B Γ s (sFor I G S) p (eLx B Γ' emb Er) := fun F js env m gg v hv => by
  subst ho
  obtain ⟨xs, h1, h2⟩ := Option.bind_eq_some_iff.mp hv
  obtain ⟨it, m1, k1, k2, k3, k4, k5⟩ := hi F js env m gg xs h1
  have gg1 := gg.grw k2
  obtain ⟨F1, js1, g1, g2⟩ := hw.run gg1
  obtain ⟨fl, m', F', q1, q2, q3, q4⟩ := for_core (n := m1.length) hg hb (F0 := F) (gs := it.gs) (.inl fun p hp => ⟨(List.getElem?_eq_some_iff.mp (k4 p hp)).1, k5 rfl p hp⟩) it.ds xs F1 js1 env m1 t0 g1 (Nat.le_refl _) (fun i hi => g2 i hi) gg.2.qp (k3.imp fun _ _ => R.anti fun i hi hp => by
    rcases hp with z | z
    · exact z
    · omega) k4 v h2
  refine ⟨fl, m', F', ?_, q2, Eff.trans (Q := F.Q) k2.eff q3 (fun i hi z => (g2 i (Nat.lt_of_lt_of_le hi k2.1)).2 z), fun i hi => ?_⟩
  · simp only [sFor, k1, Out.bind_ok, q1]
  · have h := q4 i (Nat.lt_of_lt_of_le hi k2.1)
    have h' := g2 i (Nat.lt_of_lt_of_le hi k2.1)
    exact ⟨fun z => h'.1 (h.1 z), fun z => h'.2 (h.2 z)⟩
theorem forL_O (xs : List α) (t : τ) (b : τ → α → Option τ) : forL xs t (fun t x => (b t x).bind fun t' => some (Lp.nx (ρ := Empty) t')) = (forO xs t b).map Lp.nx := by
  induction xs generalizing t with
  | nil => rfl
  | cons x xs ih =>
    simp only [forL, forO]
    cases h : b t x with
    | none => rfl
    | some t' => simpa using ih t'
/-- .. without return and break -/
theorem ps_forN {el : Bool} [ok : CtxOk Γ] {ρ' : Type} {I : DI} {G : DG} {Γx : Ctx ρ'} {e : σ' → α → ρ'} {emb : τ → σ'} {t0 : τ} {oi : Option (List α)} {b : τ → α → Option τ} (hi : PI B Γ s I true el R oi) (hw : Wk Γ s Γ' (emb t0)) (hg : Tg (el := el) Γ' R G Γx e) (hb : ∀ t x, PB B Γx (e (emb t) x) S (b t x) (eNx B Γ' emb))
    {p : Option τ} (ho : p = oi.bind fun xs => forO xs t0 b := by rfl) : PB B Γ s (sFor I G S) p (eNx B Γ' emb) := fun F js env m gg v hv => by
  subst ho
  obtain ⟨xs, h1, h2⟩ := Option.bind_eq_some_iff.mp hv
  have hb' : ∀ t x, PB B Γx (e (emb t) x) S ((b t x).bind fun t' => some (Lp.nx (ρ := Empty) t')) (eLp B Γ' emb (fun _ _ _ _ => False)) := fun t x => ps_fin (hb t x) (fun t => accN_lp Wk.id)
  obtain ⟨fl, m', F', k1, k2, k3, k4⟩ := ps_for hi hw hg hb' rfl F js env m gg (Lp.nx v) (by rw [h1]; simp only [Option.bind_some]; rw [forL_O, h2]; rfl)
  exact ⟨fl, m', F', k1, k2, k3, k4⟩
/-! a loop over what one owns: it is not changed meanwhile -/
structure LkAt (Γ : Ctx σ) (i : Nat) (C : Rc α) (Γk : Nat → MO → Ctx σ) : Prop where
  run : ∀ {F : Fr} {js : List Nat} {env : DL.Env} {m : Mem} {s : σ}, Γ F js env m s → ∃ k ob, env[i]? = some (some (.ref k)) ∧ m[k]? = some ob ∧ Γk k ob F js env m s
section
variable {C : Rc β} {C' : Rc γ} {i : Nat} {l : Option Nat} {k' : Nat} {ob' : MO} {Γk : Nat → MO → Ctx σ}
theorem lk0 : LkAt (ownC none C Γ) 0 C (fun k ob => lokC C k ob Γ) := ⟨fun ⟨k, js', e, ob, h1, h2, h3, h4, h5, h6⟩ => ⟨k, ob, by rw [h2]; rfl, h3, js', e, h1, h2, h3, h4, h5, h6⟩⟩
theorem lkD (h : LkAt Γ i C Γk) : LkAt (deadC Γ) (i + 1) C (fun k ob => deadC (Γk k ob)) := ⟨fun ⟨z, e, h1, h2⟩ => by obtain ⟨k, ob, g1, g2, g3⟩ := h.run h2; exact ⟨k, ob, by rw [h1]; exact g1, g2, z, e, h1, g3⟩⟩
theorem lkV (h : LkAt Γ i C Γk) : LkAt (valC R Γ) (i + 1) C (fun k ob => valC R (Γk k ob)) := ⟨fun ⟨z, e, h1, h3, h2⟩ => by obtain ⟨k, ob, g1, g2, g3⟩ := h.run h2; exact ⟨k, ob, by rw [h1]; exact g1, g2, z, e, h1, h3, g3⟩⟩
theorem lkP (h : LkAt Γ i C Γk) : LkAt (parC R Γ) (i + 1) C (fun k ob => parC R (Γk k ob)) := ⟨fun ⟨z, e, h1, h3, h2⟩ => by obtain ⟨k, ob, g1, g2, g3⟩ := h.run h2; exact ⟨k, ob, by rw [h1]; exact g1, g2, z, e, h1, h3, g3⟩⟩
theorem lkO (h : LkAt Γ i C Γk) : LkAt (ownC l C' Γ) (i + 1) C (fun k ob => ownC l C' (Γk k ob)) := ⟨fun ⟨z, js', e, o, h1, h2, h3, h4, h5, h6⟩ => by obtain ⟨k, ob, g1, g2, g3⟩ := h.run h6; exact ⟨k, ob, by rw [h2]; exact g1, g2, z, js', e, o, h1, h2, h3, h4, h5, g3⟩⟩
theorem lkL (h : LkAt Γ i C Γk) : LkAt (lokC C' k' ob' Γ) (i + 1) C (fun k ob => lokC C' k' ob' (Γk k ob)) := ⟨fun ⟨js', e, h1, h2, h3, h4, h5, h6⟩ => by obtain ⟨k, ob, g1, g2, g3⟩ := h.run h6; exact ⟨k, ob, by rw [h2]; exact g1, g2, js', e, h1, h2, h3, h4, h5, g3⟩⟩
end
/-- that the walked one stands where it stood -/
structure StdAt (Γk : Nat → MO → Ctx σ) : Prop where
  run : ∀ {k : Nat} {ob : MO} {F : Fr} {js : List Nat} {env : DL.Env} {m : Mem} {s : σ}, Γk k ob F js env m s → m[k]? = some ob
section
variable {C : Rc β} {C' : Rc γ} {l : Option Nat} {k' : Nat} {ob' : MO} {Γk : Nat → MO → Ctx σ}
theorem sd0 : StdAt (fun k ob => lokC C k ob Γ) := ⟨fun ⟨_, _, _, _, h, _⟩ => h⟩
theorem sdD (h : StdAt Γk) : StdAt (fun k ob => deadC (Γk k ob)) := ⟨fun ⟨_, _, _, g⟩ => h.run g⟩
theorem sdV (h : StdAt Γk) : StdAt (fun k ob => valC R (Γk k ob)) := ⟨fun ⟨_, _, _, _, g⟩ => h.run g⟩
theorem sdP (h : StdAt Γk) : StdAt (fun k ob => parC R (Γk k ob)) := ⟨fun ⟨_, _, _, _, g⟩ => h.run g⟩
theorem sdO (h : StdAt Γk) : StdAt (fun k ob => ownC l C' (Γk k ob)) := ⟨fun ⟨_, _, _, _, _, _, _, _, _, g⟩ => h.run g⟩
theorem sdL (h : StdAt Γk) : StdAt (fun k ob => lokC C' k' ob' (Γk k ob)) := ⟨fun ⟨_, _, _, _, _, _, _, g⟩ => h.run g⟩
end
/-- a loop over what one owns, not changed meanwhile -/
theorem ps_forOwn [ok : CtxOk Γ] [fl : Flat R] {σ2 : Type} {Γ2 : Ctx σ2} {ρ' : Type} {G : DG} {i : Nat} {pr : σ → List α} {Γk : Nat → MO → Ctx σ} {Γj : Nat → MO → Ctx σ2} {Γx : Nat → MO → Ctx ρ'} {e : σ2 → α → ρ'} {emb : τ → σ2} {Er : En ρ} {t0 : τ} {b : τ → α → Option (Lp τ ρ)}
    (la : LokAt Γ i (CLst R) pr) (lk : LkAt Γ i (CLst R) Γk) (hw : ∀ k ob, Wk (Γk k ob) s (Γj k ob) (emb t0)) (sd : StdAt Γj) (hg : ∀ k ob, Tg (el := true) (Γj k ob) R G (Γx k ob) e) (hb : ∀ k ob t x, PB B (Γx k ob) (e (emb t) x) S (b t x) (eLp B (Γj k ob) emb Er)) (hu : ∀ k ob t, Wk (Γj k ob) (emb t) Γ2 (emb t))
    {p : Option (Lp τ ρ)} (ho : p = forL (pr s) t0 b := by rfl) : PB B Γ s (sFor (iAnyD (eVar i)) G S) p (eLx B Γ2 emb Er) := fun F js env m gg v hv => by
  subst ho
  obtain ⟨k, ob, h1, h2, h3⟩ := lk.run gg.1
  obtain ⟨k', ob', a1, a2, a3, ds, rfl, a4⟩ := la.get gg.1
  rw [h1] at a1
  have : k = k' := by simpa using a1
  subst this
  rw [a3] at h2
  cases h2
  obtain ⟨F1, js1, g1, g2⟩ := (hw k (.lst ds)).run ⟨h3, gg.2⟩
  obtain ⟨fl, m', F', q1, q2, q3, q4⟩ := for_core (n := m.length) (hg k (.lst ds)) (hb k (.lst ds)) (F0 := F) (gs := [(k, .lst ds)]) (.inr fun F js env m t g p hp => by rw [List.mem_singleton.mp hp]; exact sd.run g) ds (pr s) F1 js1 env m t0 g1 (Nat.le_refl _) (fun i hi => g2 i hi) gg.2.qp (a4.imp fun _ _ => fl.flat) (fun p hp => by rw [List.mem_singleton.mp hp]; exact a3) v hv
  have hs : sFor (iAnyD (eVar i)) G S env m = .ok fl m' := by
    simp only [sFor, iAnyD, eVar, h1, Out.bind_ok, a3, q1]
  have q3' : Eff F.Q m m' := ⟨q3.1, fun i o hi e => q3.2 i o (fun z => hi ((g2 i (List.getElem?_eq_some_iff.mp e).1).2 z)) e⟩
  have q4' : FrLe F F' m := g2.trans q4 (Nat.le_refl _)
  cases v with
  | nx t =>
    obtain ⟨env', js', rfl, k2⟩ := q2
    obtain ⟨F2, js2, l1, l2⟩ := (hu k (.lst ds) t).run k2
    exact ⟨_, m', F2, hs, ⟨env', js2, rfl, l1⟩, q3', q4'.trans l2 q3'.1⟩
  | bk t => exact q2.elim
  | rt v => exact ⟨fl, m', F', hs, q2, q3', q4'⟩
theorem ps_forOwnN [ok : CtxOk Γ] [fl : Flat R] {σ2 : Type} {Γ2 : Ctx σ2} {ρ' : Type} {G : DG} {i : Nat} {pr : σ → List α} {Γk : Nat → MO → Ctx σ} {Γj : Nat → MO → Ctx σ2} {Γx : Nat → MO → Ctx ρ'} {e : σ2 → α → ρ'} {emb : τ → σ2} {t0 : τ} {b : τ → α → Option τ}
    (la : LokAt Γ i (CLst R) pr) (lk : LkAt Γ i (CLst R) Γk) (hw : ∀ k ob, Wk (Γk k ob) s (Γj k ob) (emb t0)) (sd : StdAt Γj) (hg : ∀ k ob, Tg (el := true) (Γj k ob) R G (Γx k ob) e) (hb : ∀ k ob t x, PB B (Γx k ob) (e (emb t) x) S (b t x) (eNx B (Γj k ob) emb)) (hu : ∀ k ob t, Wk (Γj k ob) (emb t) Γ2 (emb t))
    {p : Option τ} (ho : p = forO (pr s) t0 b := by rfl) : PB B Γ s (sFor (iAnyD (eVar i)) G S) p (eNx B Γ2 emb) := fun F js env m gg v hv => by
  subst ho
  have hb' : ∀ k ob t x, PB B (Γx k ob) (e (emb t) x) S ((b t x).bind fun t' => some (Lp.nx (ρ := Empty) t')) (eLp B (Γj k ob) emb (fun _ _ _ _ => False)) := fun k ob t x => ps_fin (hb k ob t x) (fun t => accN_lp Wk.id)
  obtain ⟨fl, m', F', k1, k2, k3, k4⟩ := ps_forOwn la lk hw sd hg hb' hu rfl F js env m gg (Lp.nx v) (by rw [forL_O, hv]; rfl)
  exact ⟨fl, m', F', k1, k2, k3, k4⟩
/-! while -/
def whileLN (c : τ → Option Bool) (b : τ → Option (Lp τ ρ)) : Nat → τ → Option (Lp τ ρ)
  | 0, _ => none
  | n + 1, t => (c t).bind fun x => if x then (b t).bind fun l => (match l with
      | .nx t' => whileLN c b n t'
      | .bk t' => some (.nx t')
      | .rt v => some (.rt v)) else some (.nx t)
theorem while_core {emb : τ → σ'} {Er : En ρ} {c : τ → Option Bool} {b : τ → Option (Lp τ ρ)} [ok' : CtxOk Γ'] (hc : ∀ t, PT B Γ' (emb t) T (c t)) (hb : ∀ t, PB B Γ' (emb t) S (b t) (eLp B Γ' emb Er)) :
    ∀ (n : Nat) (F : Fr) (js : List Nat) (env : DL.Env) (m : Mem) (t : τ), RG B Γ' F js env m (emb t) → ∀ l, whileLN c b n t = some l → ∃ fl m' F', whileN T S n env m = .ok fl m' ∧ eLx B Γ' emb Er l F' fl m' ∧ Eff F.Q m m' ∧ FrLe F F' m
  | 0, F, js, env, m, t, hr, l, hl => by cases hl
  | n + 1, F, js, env, m, t, hr, l, hl => by
    simp only [whileLN] at hl
    obtain ⟨x, h1, h2⟩ := Option.bind_eq_some_iff.mp hl
    obtain ⟨m1, k1, k2⟩ := hc t F js env m hr x h1
    have hr1 := hr.grw k2
    cases x with
    | false =>
      cases h2
      exact ⟨.nx env, m1, F, by simp [whileN, k1], ⟨env, js, rfl, hr1⟩, k2.eff, FrLe.refl F m⟩
    | true =>
      simp only [if_true] at h2
      obtain ⟨l1, h3, h4⟩ := Option.bind_eq_some_iff.mp h2
      obtain ⟨fl, m2, F2, q1, q2, q3, q4⟩ := hb t F js env m1 hr1 l1 h3
      have q3' : Eff F.Q m m2 := Eff.trans (Q := F.Q) k2.eff q3 (fun _ _ h => h)
      have q4' : FrLe F F2 m := fun i hi => q4 i (Nat.lt_of_lt_of_le hi k2.1)
      cases l1 with
      | nx t' =>
        obtain ⟨env2, js2, hfl, k3⟩ := q2
        obtain ⟨fl2, m3, F3, r1, r2, r3, r4⟩ := while_core hc hb n F2 js2 env2 m2 t' k3 l h4
        refine ⟨fl2, m3, F3, ?_, r2, q3'.trans r3 (fun i hi z => (q4' i hi).2 z), q4'.trans r4 q3'.1⟩
        simp only [whileN, k1, Out.bind_ok, if_true, q1]
        rcases hfl with rfl | rfl
        · exact r1
        · exact r1
      | bk t' =>
        cases h4
        obtain ⟨env2, js2, rfl, k3⟩ := q2
        exact ⟨.nx env2, m2, F2, by simp only [whileN, k1, Out.bind_ok, if_true, q1], ⟨env2, js2, rfl, k3⟩, q3', q4'⟩
      | rt v =>
        cases h4
        obtain ⟨k3, d, rfl⟩ := q2
        exact ⟨.rt d, m2, F2, by simp only [whileN, k1, Out.bind_ok, if_true, q1], ⟨k3, d, rfl⟩, q3', q4'⟩
open Classical in
/-- as many turns as it takes -/
noncomputable def whileL (t : τ) (c : τ → Option Bool) (b : τ → Option (Lp τ ρ)) : Option (Lp τ ρ) := if h : ∃ n, whileLN c b n t ≠ none then whileLN c b h.choose t else none
theorem whileLN_mono {c : τ → Option Bool} {b : τ → Option (Lp τ ρ)} : ∀ (n k : Nat) (t : τ) (l : Lp τ ρ), n ≤ k → whileLN c b n t = some l → whileLN c b k t = some l
  | 0, _, _, _, _, h => by cases h
  | n + 1, 0, _, _, hl, _ => absurd hl (by omega)
  | n + 1, k + 1, t, l, hl, h => by
    simp only [whileLN] at h ⊢
    obtain ⟨x, h1, h2⟩ := Option.bind_eq_some_iff.mp h
    rw [h1]
    simp only [Option.bind_some]
    cases x with
    | false => exact h2
    | true =>
      simp only [if_true] at h2 ⊢
      obtain ⟨l1, h3, h4⟩ := Option.bind_eq_some_iff.mp h2
      rw [h3]
      simp only [Option.bind_some]
      cases l1 with
      | nx t' => exact whileLN_mono n k t' l (by omega) h4
      | bk t' => exact h4
      | rt v => exact h4
theorem whileL_of {c : τ → Option Bool} {b : τ → Option (Lp τ ρ)} {t : τ} {n : Nat} {l : Lp τ ρ} (h : whileLN c b n t = some l) : whileL t c b = some l := by
  unfold whileL
  have hx : ∃ n, whileLN c b n t ≠ none := ⟨n, by rw [h]; exact fun z => by cases z⟩
  rw [dif_pos hx]
  cases h2 : whileLN c b hx.choose t with
  | none => exact absurd h2 hx.choose_spec
  | some l2 =>
    rcases Nat.le_total hx.choose n with q | q
    · have := whileLN_mono _ _ _ _ q h2
      rw [h] at this; exact this.symm
    · have := whileLN_mono _ _ _ _ q h
      rw [h2] at this; exact this
theorem whileL_some {c : τ → Option Bool} {b : τ → Option (Lp τ ρ)} {t : τ} {l : Lp τ ρ} (h : whileL t c b = some l) : ∃ n, whileLN c b n t = some l := by
  unfold whileL at h
  split at h
  · exact ⟨_, h⟩
  · cases h
theorem ps_while {emb : τ → σ'} {Er : En ρ} {t0 : τ} {c : τ → Option Bool} {b : τ → Option (Lp τ ρ)} [ok' : CtxOk Γ'] (hw : Wk Γ s Γ' (emb t0)) (hc : ∀ t, PT B Γ' (emb t) T (c t)) (hb : ∀ t, PB B Γ' (emb t) S (b t) (eLp B Γ' emb Er))
    {p : Option (Lp τ ρ)} (ho : p = whileL t0 c b := by rfl) : PB B Γ s (sWhile T S) p (eLx B Γ' emb Er) := fun F js env m gg v hv => by
  subst ho
  obtain ⟨n, hn⟩ := whileL_some hv
  obtain ⟨F1, js1, g1, g2⟩ := hw.run gg
  obtain ⟨fl, m', F', q1, q2, q3, q4⟩ := while_core hc hb n F1 js1 env m t0 g1 v hn
  refine ⟨fl, m', F', ?_, q2, ⟨q3.1, fun i o hi h => q3.2 i o (fun z => hi ((g2 i (List.getElem?_eq_some_iff.mp h).1).2 z)) h⟩, g2.trans q4 (Nat.le_refl _)⟩
  rw [sWhile_of (n := n) (by rw [q1]; exact fun z => by cases z), q1]
/-- without return and break -/
noncomputable def whileO (t : τ) (c : τ → Option Bool) (b : τ → Option τ) : Option τ := (whileL (ρ := Empty) t c (fun t => (b t).bind fun t' => some (.nx t'))).bind fun l => match l with
  | .nx t => some t
  | _ => none
theorem ps_whileN {emb : τ → σ'} {t0 : τ} {c : τ → Option Bool} {b : τ → Option τ} [ok' : CtxOk Γ'] (hw : Wk Γ s Γ' (emb t0)) (hc : ∀ t, PT B Γ' (emb t) T (c t)) (hb : ∀ t, PB B Γ' (emb t) S (b t) (eNx B Γ' emb))
    {p : Option τ} (ho : p = whileO t0 c b := by rfl) : PB B Γ s (sWhile T S) p (eNx B Γ' emb) := fun F js env m gg v hv => by
  subst ho
  unfold whileO at hv
  obtain ⟨l, h1, h2⟩ := Option.bind_eq_some_iff.mp hv
  have hb' : ∀ t, PB B Γ' (emb t) S ((b t).bind fun t' => some (Lp.nx (ρ := Empty) t')) (eLp B Γ' emb (fun _ _ _ _ => False)) := fun t => ps_fin (hb t) (fun t => accN_lp Wk.id)
  obtain ⟨fl, m', F', k1, k2, k3, k4⟩ := ps_while hw hc hb' rfl F js env m gg l h1
  cases l with
  | nx t => cases h2; exact ⟨fl, m', F', k1, k2, k3, k4⟩
  | _ => cases h2
/-- a rule of turns: a measure that falls -/
theorem whileO_of {c : τ → Option Bool} {b : τ → Option τ} (J : τ → Prop) (μ : τ → Nat) (hs : ∀ t, J t → (c t = some false) ∨ (c t = some true ∧ ∃ t', b t = some t' ∧ J t' ∧ μ t' < μ t)) {t : τ} (h : J t) : ∃ t', whileO t c b = some t' ∧ J t' ∧ c t' = some false := by
  have key : ∀ (n : Nat) (t : τ), μ t < n → J t → ∃ t', whileLN (ρ := Empty) c (fun t => (b t).bind fun t' => some (.nx t')) n t = some (.nx t') ∧ J t' ∧ c t' = some false := by
    intro n
    induction n with
    | zero => intro t h; omega
    | succ n ih =>
      intro t ht hj
      rcases hs t hj with h1 | ⟨h1, t', h2, h3, h4⟩
      · exact ⟨t, by simp [whileLN, h1], hj, h1⟩
      · obtain ⟨t2, g1, g2⟩ := ih t' (by omega) h3
        exact ⟨t2, by simp only [whileLN, h1, Option.bind_some, if_true, h2]; exact g1, g2⟩
  obtain ⟨t', h1, h2⟩ := key (μ t + 1) t (by omega) h
  exact ⟨t', by unfold whileO; rw [whileL_of h1]; rfl, h2⟩
theorem whileL_rule {c : τ → Option Bool} {b : τ → Option (Lp τ ρ)} (J : τ → Prop) (μ : τ → Nat) (P : Lp τ ρ → Prop) (hs : ∀ t, J t → (c t = some false ∧ P (.nx t)) ∨ (c t = some true ∧ ((∃ t', b t = some (.nx t') ∧ J t' ∧ μ t' < μ t) ∨ (∃ t', b t = some (.bk t') ∧ P (.nx t')) ∨ ∃ v, b t = some (.rt v) ∧ P (.rt v)))) {t : τ} (h : J t) : ∃ l, whileL t c b = some l ∧ P l := by
  have key : ∀ (n : Nat) (t : τ), μ t < n → J t → ∃ l, whileLN c b n t = some l ∧ P l := by
    intro n
    induction n with
    | zero => intro t h; omega
    | succ n ih =>
      intro t ht hj
      rcases hs t hj with ⟨h1, h2⟩ | ⟨h1, h2⟩
      · exact ⟨.nx t, by simp [whileLN, h1], h2⟩
      · rcases h2 with ⟨t', h2, h3, h4⟩ | ⟨t', h2, h3⟩ | ⟨v, h2, h3⟩
        · obtain ⟨l, g1, g2⟩ := ih t' (by omega) h3
          exact ⟨l, by simp only [whileLN, h1, Option.bind_some, if_true, h2]; exact g1, g2⟩
        · exact ⟨.nx t', by simp [whileLN, h1, h2], h3⟩
        · exact ⟨.rt v, by simp [whileLN, h1, h2], h3⟩
  obtain ⟨l, h1, h2⟩ := key (μ t + 1) t (by omega) h
  exact ⟨l, whileL_of h1, h2⟩

/-! ### defs -/
noncomputable def runT (N : Nat) (n : Nat) (S : DS) : DF := fun ds m => if ds.length = n then ((S (envOf N ds) m).bind fun fl m1 => match fl with
  | .rt d => .ok d m1
  | .nx _ => .ok .non m1
  | _ => .bad) else .bad
/-- the slots at the start -/
structure EnvS (Rs : Ra τ) (k n : Nat) (Γ : Ctx σ) (emb : τ → σ) : Prop where
  run : ∀ {F : Fr} {m : Mem} {ds : List DV} {x : τ}, Rs.r F.P m ds x → ds.length = n ∧ Γ F [] (ds.map some ++ List.replicate k none) m (emb x)
theorem es_n0 : EnvS RaN 0 0 nilC (fun _ => ()) := ⟨fun {F m ds x} h => by cases (show ds = [] from h); exact ⟨rfl, rfl, rfl⟩⟩
theorem es_nS {k : Nat} {emb : Unit → σ} (h : EnvS RaN k 0 Γ emb) : EnvS RaN (k + 1) 0 (deadC Γ) emb := ⟨fun {F m ds x} hh => by
  cases (show ds = [] from hh)
  exact ⟨rfl, none, List.replicate k none, rfl, (h.run (F := F) (m := m) (ds := []) (x := x) rfl).2⟩⟩
theorem es_p {Rs : Ra τ} {k n : Nat} {emb : τ → σ} (h : EnvS Rs k n Γ emb) : EnvS (RaC R Rs) k (n + 1) (valC R Γ) (fun x => (x.1, emb x.2)) := ⟨fun {F m ds x} ⟨d, es, e, h1, h2⟩ => by
  subst e
  obtain ⟨g1, g2⟩ := h.run h2
  exact ⟨by simp [g1], d, _, rfl, h1, g2⟩⟩
theorem es_x {Rs : Ra τ} {k n : Nat} {emb : τ → σ} (h : EnvS Rs k n Γ emb) : EnvS (RaC R Rs) k (n + 1) (deadC Γ) (fun x => emb x.2) := ⟨fun {F m ds x} ⟨d, es, e, h1, h2⟩ => by
  subst e
  obtain ⟨g1, g2⟩ := h.run h2
  exact ⟨by simp [g1], _, _, rfl, g2⟩⟩
abbrev Bs.of (m : Mem) (p0 : Nat → Prop) (pz : ∀ i, p0 i → i < m.length) : Bs := ⟨m, fun _ => False, p0, pz⟩
abbrev Bs.io1 (m : Mem) (p0 : Nat → Prop) (pz : ∀ i, p0 i → i < m.length) (q : Nat) : Bs := ⟨m, fun i => i = q, p0, pz⟩
theorem fun_of {Rs : Ra τ} {k n N : Nat} {emb : τ → σ} {Rr : Rp ρ} {f : τ → Option ρ} (st : EnvS Rs k n Γ emb) (hN : n + k = N) (h : ∀ m0 p0 pz x, PB (Bs.of m0 p0 pz) Γ (emb x) S (f x) (eFn (Bs.of m0 p0 pz) Rr)) : Fun (runT N n S) Rs Rr f := ⟨fun {P m ds x v} hP hr hv => by
  obtain ⟨g1, g2⟩ := st.run (F := ⟨P, fun _ => False, m.length⟩) hr
  have hrg : RG (Bs.of m P hP) Γ ⟨P, fun _ => False, m.length⟩ [] (envOf N ds) m (emb x) := by
    refine ⟨?_, List.nodup_nil, fun j hj => (by cases hj), fun i hi => hi.elim, fun i hi => hP i hi, ⟨Nat.le_refl _, fun i o _ e => e⟩, fun i hi => hi, fun j hj => (by cases hj), rfl⟩
    unfold envOf
    rw [show N - ds.length = k by omega]
    exact g2
  obtain ⟨fl, m', F', h1, ⟨d, h2, h3, h4⟩, h5, h6⟩ := h m P hP x _ [] _ m hrg v hv
  refine ⟨d, m', ?_, ⟨h5.1, fun i o e => h5.2 i o (fun z => z) e⟩, h3⟩
  unfold runT
  rw [if_pos g1, h1]
  simp only [Out.bind_ok]
  cases fl with
  | rt d' => cases h2; rfl
  | nx e => cases h2; rfl
  | bk e => cases h2
  | ct e => cases h2⟩
/-- a def that changes its first argument -/
structure FunX (D : DF) (C : Rc τ) (Rs : Ra σ) (R : Rp ρ) (f : τ → σ → Option (ρ × τ)) : Prop where
  run : ∀ {P : Nat → Prop} {m k ob ds t x v t'}, (∀ i, P i → i < m.length) → P k → m[k]? = some ob → C.c (fun i => i = k) m ob t → Rs.r P m ds x → f t x = some (v, t') →
    ∃ d m' ob', D (.ref k :: ds) m = .ok d m' ∧ m.length ≤ m'.length ∧ (∀ i o, i ≠ k → m[i]? = some o → m'[i]? = some o) ∧ m'[k]? = some ob' ∧ C.c (fun i => i = k) m' ob' t' ∧ R.r P m' d v
theorem funx_of {C : Rc τ'} {Rs : Ra τ} {k n N : Nat} {emb : τ → σ} {Rr : Rp ρ} {f : τ' → τ → Option (ρ × τ')} (st : EnvS Rs k n Γ emb) (hN : n + 1 + k = N) (h : ∀ m0 p0 pz q t x, PB (Bs.io1 m0 p0 pz q) (ownC (some q) C Γ) (t, emb x) S (f t x) (eFnX (Bs.io1 m0 p0 pz q) q C Rr)) : FunX (runT N (n + 1) S) C Rs Rr f := ⟨fun {P m q ob ds t x v t'} hP hPq hq hc hr hv => by
  obtain ⟨g1, g2⟩ := st.run (F := ⟨P, fun i => i = q, m.length⟩) hr
  have hql := (List.getElem?_eq_some_iff.mp hq).1
  have hrg : RG (Bs.io1 m P hP q) (ownC (some q) C Γ) ⟨P, fun i => i = q, m.length⟩ [q] (envOf N (.ref q :: ds)) m (t, emb x) := by
    refine ⟨?_, by simp, fun j hj => List.mem_singleton.mp hj, fun i hi => by rw [show i = q from hi]; exact hPq, fun i hi => hP i hi, ⟨Nat.le_refl _, fun i o _ e => e⟩, fun i hi => hi, fun j hj => .inr (List.mem_singleton.mp hj), rfl⟩
    unfold envOf
    rw [show N - (DV.ref q :: ds).length = k by simp; omega]
    exact ⟨q, [], _, ob, rfl, rfl, hq, hc, rfl, g2⟩
  obtain ⟨fl, m', F', h1, ⟨d, ob', h2, h3, h4, h5, h6⟩, h7, h8⟩ := h m P hP q t x _ [q] _ m hrg (v, t') hv
  refine ⟨d, m', ob', ?_, h7.1, fun i o hi e => h7.2 i o hi e, h4, h5, h3⟩
  unfold runT
  rw [if_pos (by simp [g1]), h1]
  simp only [Out.bind_ok]
  cases fl with
  | rt d' => cases h2; rfl
  | nx e => cases h2; rfl
  | bk e => cases h2
  | ct e => cases h2⟩
end
/-- a def that keeps its D-term, nothing forgotten -/
theorem fn_okT {G : Sg} {x qual : Str} {params : Arguments} {body : List Stmt} {scope : Scope} {kws : List (Str × V)} {f : Addr} {fd : FuncData} {N ps : List Str} {k : Nat} {S : DS} (F : FunD G.K x qual params body scope [] kws f fd) (sc : FnScope N ps scope)
    (hb : ∀ W, SSs (G.cn N scope k W) body S) : FnOk G.P G.w G.K G.mg G.base (L2.CX G.P G.w) (k + 1) f fd ps (spD G.K ps.length (runT N.length ps.length S)) := by
  refine F.ok sc (fun vs H Q E h => ?_) (fun cdv A outer s H vs Q E hr h => ?_)
  · obtain ⟨m, μ, ds, e, _⟩ := h
    exact e
  · obtain ⟨m, μ, ds, e, R, r, q⟩ := h
    obtain ⟨t, p, d⟩ := hb E
    have I : (G.cn N scope k E).Is (cxOf (L2.CX G.P G.w) G.P G.w G.K G.mg G.base N qual scope f cdv A outer s H E) :=
      ⟨rfl, rfl, rfl, rfl, rfl, rfl, sc.nd, rfl, rfl, hr, passes_of rfl, passes_call (takes_of rfl rfl rfl rfl) fun _ _ _ _ h => h, fun _ _ => rfl⟩
    refine ⟨t, p _ I, d.run (envOf N.length ds) m μ _ H _ R (re_start r) ?_⟩
    unfold runT at q
    rw [if_pos (by rw [r.length]; exact e)] at q
    have q2 := q
    cases o : S (envOf N.length ds) m with
    | ok fl m1 =>
      rw [o] at q2
      intro μ2 H2 e2 R2
      cases fl with
      | nx env => exact fun σ' E' => q2 .non μ2 H2 e2 R2 .non
      | rt d => exact fun v rv => q2 v μ2 H2 e2 R2 rv
      | bk env => exact q2.elim
      | ct env => exact q2.elim
    | exc x m1 => rw [o] at q2; exact q2
    | bad => rw [o] at q2; exact q2
theorem fn_mkT {G : Sg} {x qual : Str} {params : Arguments} {body : List Stmt} {scope : Scope} {f : Addr} {fd : FuncData} {N ps : List Str} {k n : Nat} {S : DS} (F : FunD G.K x qual params body scope [] [] f fd) (sc : FnScope N ps scope) (hg : G.mg x = some (.ref f))
    (hb : ∀ W, SSs (G.cn N scope k W) body S)
    (hbi : ∀ (kV doc pm : Value) (an : Option Addr) (cdv ct : Value) (us : List Value), us.length = ps.length → bindArgs (PySem.W.fnOf x qual params body scope .none kV doc pm an cdv ct) ⟨us, []⟩ = pure (ps.zip us)) (hn : ps.length = n := by rfl) : Fn G (k + 1) x n (runT N.length n S) := by
  subst hn
  exact ⟨f, fd, ps, rfl, fn_okT F sc hb, hg, F.kp, F.bindsN hbi⟩
end TM

end
section
set_option Elab.async false
set_option linter.all false
set_option maxRecDepth 100000
set_option maxHeartbeats 4000000
set_option autoImplicit false
/-! TM6: expressions that change what one owns (draws). -/
namespace TM
open PySem PySem.Spec L2 DL
section
variable {σ σ' τ τ' α β γ δ ρ κ : Type} {B : Bs} {Γ : Ctx σ} {Γ' : Ctx σ'} {s : σ} {s' : σ'} {A A' : DE} {As : DA} {T U : DT} {S S' S1 S2 : DS} {w w' : Lv} {R : Rp α} {R' : Rp β} {V : Rp γ} {emb : τ → σ}
def PX (B : Bs) (Γ : Ctx σ) (s : σ) (A : DE) (R : Rp α) (o : Option (α × τ)) (emb : τ → σ) : Prop :=
  ∀ F js env m, RG B Γ F js env m s → ∀ v, o = some v → ∃ d m', A env m = .ok d m' ∧ RG B Γ F js env m' (emb v.2) ∧ R.r F.P m' d v.1 ∧ Eff (· ∈ js) m m'
def PTX (B : Bs) (Γ : Ctx σ) (s : σ) (T : DT) (o : Option (Bool × τ)) (emb : τ → σ) : Prop :=
  ∀ F js env m, RG B Γ F js env m s → ∀ v, o = some v → ∃ m', T env m = .ok v.1 m' ∧ RG B Γ F js env m' (emb v.2) ∧ Eff (· ∈ js) m m'
def PXA (B : Bs) (Γ : Ctx σ) (s : σ) (As : DA) (R : Ra τ') (o : Option (τ' × τ)) (emb : τ → σ) : Prop :=
  ∀ F js env m, RG B Γ F js env m s → ∀ v, o = some v → ∃ ds m', As env m = .ok ds m' ∧ RG B Γ F js env m' (emb v.2) ∧ R.r F.P m' ds v.1 ∧ Eff (· ∈ js) m m'
def PIX (B : Bs) (Γ : Ctx σ) (s : σ) (I : DI) (R : Rp α) (o : Option (List α × τ)) (emb : τ → σ) : Prop :=
  ∀ F js env m, RG B Γ F js env m s → ∀ v, o = some v → ∃ it m', I env m = .ok it m' ∧ RG B Γ F js env m' (emb v.2) ∧ Fa (R.r F.P m') it.ds v.1 ∧ guard it.gs m' ∧ (∀ p ∈ it.gs, ¬ F.Q p.1) ∧ Eff (· ∈ js) m m'
theorem Eff.tr {js : List Nat} {a b c : Mem} (h : Eff (· ∈ js) a b) (k : Eff (· ∈ js) b c) : Eff (· ∈ js) a c := Eff.trans h k fun _ _ h => h
theorem Eff.q {F : Fr} {js : List Nat} {a b : Mem} (h : Eff (· ∈ js) a b) (k : ∀ j ∈ js, F.Q j) : Eff F.Q a b := ⟨h.1, fun i o hi e => h.2 i o (fun z => hi (k i z)) e⟩
theorem Rp.eff {F : Fr} {js : List Nat} {a b : Mem} (h : Eff (· ∈ js) a b) (g : Wf B F js a) {d : DV} {x : α} (r : R.r F.P a d x) : R.r F.P b d x := R.step (fun i o hi e => h.2 i o (fun z => hi (g.qp i (g.jq i z))) e) r
theorem px_pure [ok : CtxOk Γ] {o : Option α} {t0 : τ} (h : PE B Γ s A w R o) (hs : s = emb t0) (hw : w.ok = true := by rfl) {p : Option (α × τ)} (e : p = o.bind fun v => some (v, t0) := by rfl) : PX B Γ s A R p emb := fun F js env m g v hv => by
  subst e hs
  obtain ⟨y, h1, h2⟩ := Option.bind_eq_some_iff.mp hv
  cases h2
  obtain ⟨d, m1, l1, l2, l3⟩ := h F js env m g y h1
  exact ⟨d, m1, l1, g.grw l2, Rp.lvs g.2 hw l3, l2.eff⟩
theorem ptx_pure [ok : CtxOk Γ] {o : Option Bool} {t0 : τ} (h : PT B Γ s T o) (hs : s = emb t0) {p : Option (Bool × τ)} (e : p = o.bind fun v => some (v, t0) := by rfl) : PTX B Γ s T p emb := fun F js env m g v hv => by
  subst e hs
  obtain ⟨y, h1, h2⟩ := Option.bind_eq_some_iff.mp hv
  cases h2
  obtain ⟨m1, l1, l2⟩ := h F js env m g y h1
  exact ⟨m1, l1, g.grw l2, l2.eff⟩
theorem pix_pure [ok : CtxOk Γ] {I : DI} {o : Option (List α)} {t0 : τ} (h : PI B Γ s I true true R o) (hs : s = emb t0) {p : Option (List α × τ)} (e : p = o.bind fun v => some (v, t0) := by rfl) : PIX B Γ s I R p emb := fun F js env m g v hv => by
  subst e hs
  obtain ⟨y, h1, h2⟩ := Option.bind_eq_some_iff.mp hv
  cases h2
  obtain ⟨it, m1, l1, l2, l3, l4, l5⟩ := h F js env m g y h1
  exact ⟨it, m1, l1, g.grw l2, l3, l4, l5 rfl, l2.eff⟩
theorem px_un [ok : CtxOk Γ] {f : D1} {g : α → Option β} {o : Option (α × τ)} (u : U1 f R R' g) (h : PX B Γ s A R o emb) {p : Option (β × τ)} (e : p = o.bind fun q => (g q.1).bind fun v => some (v, q.2) := by rfl) : PX B Γ s (eUn f A) R' p emb := fun F js env m gg v hv => by
  subst e
  obtain ⟨q, h1, h2⟩ := Option.bind_eq_some_iff.mp hv
  obtain ⟨y, h3, h4⟩ := Option.bind_eq_some_iff.mp h2
  cases h4
  obtain ⟨d, m1, l1, l2, l3, l4⟩ := h F js env m gg q h1
  obtain ⟨d2, m2, n1, n2, n3⟩ := u.run (Rp.any l3) h3
  exact ⟨d2, m2, by simp only [eUn, l1, Out.bind_ok, n1], l2.grw n2, l2.2.new n3, l4.tr n2.eff⟩
theorem px_bin [ok : CtxOk Γ] {f : D2} {g : α → β → Option γ} {o : Option (α × τ)} {o' : τ → Option (β × τ)} (u : U2 f R R' V g) (h : PX B Γ s A R o emb) (h' : ∀ t, PX B Γ (emb t) A' R' (o' t) emb) {p : Option (γ × τ)} (e : p = o.bind fun q => (o' q.2).bind fun r => (g q.1 r.1).bind fun v => some (v, r.2) := by rfl) : PX B Γ s (eBin f A A') V p emb := fun F js env m gg v hv => by
  subst e
  obtain ⟨q, h1, h2⟩ := Option.bind_eq_some_iff.mp hv
  obtain ⟨r, h3, h4⟩ := Option.bind_eq_some_iff.mp h2
  obtain ⟨y, h5, h6⟩ := Option.bind_eq_some_iff.mp h4
  cases h6
  obtain ⟨d, m1, l1, l2, l3, l4⟩ := h F js env m gg q h1
  obtain ⟨d2, m2, n1, n2, n3, n4⟩ := h' q.2 F js env m1 l2 r h3
  obtain ⟨d3, m3, k1, k2, k3⟩ := u.run (Rp.any (Rp.eff n4 l2.2 l3)) (Rp.any n3) h5
  exact ⟨d3, m3, by simp only [eBin, l1, Out.bind_ok, n1, k1], n2.grw k2, n2.2.new k3, (l4.tr n4).tr k2.eff⟩
theorem pxa_nil {t0 : τ} (hs : s = emb t0) {p : Option (Unit × τ)} (e : p = some ((), t0) := by rfl) : PXA B Γ s aNil RaN p emb := fun F js env m gg v hv => by
  subst e hs; cases hv
  exact ⟨[], m, rfl, gg, rfl, Eff.refl m⟩
theorem pxa_cons {Rs : Ra τ'} {o : Option (α × τ)} {o' : τ → Option (τ' × τ)} (h : PX B Γ s A R o emb) (h' : ∀ t, PXA B Γ (emb t) As Rs (o' t) emb) {p : Option ((α × τ') × τ)} (e : p = o.bind fun q => (o' q.2).bind fun r => some ((q.1, r.1), r.2) := by rfl) : PXA B Γ s (aCons A As) (RaC R Rs) p emb := fun F js env m gg v hv => by
  subst e
  obtain ⟨q, h1, h2⟩ := Option.bind_eq_some_iff.mp hv
  obtain ⟨r, h3, h4⟩ := Option.bind_eq_some_iff.mp h2
  cases h4
  obtain ⟨d, m1, l1, l2, l3, l4⟩ := h F js env m gg q h1
  obtain ⟨d2, m2, n1, n2, n3, n4⟩ := h' q.2 F js env m1 l2 r h3
  exact ⟨d :: d2, m2, by simp only [aCons, l1, Out.bind_ok, n1], n2, ⟨d, d2, rfl, Rp.eff n4 l2.2 l3, n3⟩, l4.tr n4⟩
def PXL (B : Bs) (Γ : Ctx σ) (s : σ) (As : DA) (R : Rp α) (o : Option (List α × τ)) (emb : τ → σ) (n : Nat) : Prop := PXA B Γ s As (RaL R) o emb ∧ ∀ v, o = some v → v.1.length = n
theorem pxl_nil {t0 : τ} (hs : s = emb t0) {p : Option (List α × τ)} (e : p = some ([], t0) := by rfl) : PXL B Γ s aNil R p emb 0 := ⟨fun F js env m gg v hv => by
  subst e hs; cases hv
  exact ⟨[], m, rfl, gg, .nil, Eff.refl m⟩, fun v hv => by subst e; cases hv; rfl⟩
theorem pxl_cons {o : Option (α × τ)} {o' : τ → Option (List α × τ)} {n : Nat} (h : PX B Γ s A R o emb) (h' : ∀ t, PXL B Γ (emb t) As R (o' t) emb n) {p : Option (List α × τ)} (e : p = o.bind fun q => (o' q.2).bind fun r => some (q.1 :: r.1, r.2) := by rfl) : PXL B Γ s (aCons A As) R p emb (n + 1) := by
  refine ⟨fun F js env m gg v hv => ?_, fun v hv => ?_⟩
  rotate_left
  · subst e
    obtain ⟨x, h1, h2⟩ := Option.bind_eq_some_iff.mp hv
    obtain ⟨y, h3, h4⟩ := Option.bind_eq_some_iff.mp h2
    cases h4
    simp [(h' x.2).2 y h3]
  subst e
  obtain ⟨q, h1, h2⟩ := Option.bind_eq_some_iff.mp hv
  obtain ⟨r, h3, h4⟩ := Option.bind_eq_some_iff.mp h2
  cases h4
  obtain ⟨d, m1, l1, l2, l3, l4⟩ := h F js env m gg q h1
  obtain ⟨d2, m2, n1, n2, n3, n4⟩ := (h' q.2).1 F js env m1 l2 r h3
  exact ⟨d :: d2, m2, by simp only [aCons, l1, Out.bind_ok, n1], n2, .cons (Rp.eff n4 l2.2 l3) n3, l4.tr n4⟩
theorem px_call [ok : CtxOk Γ] {D : DF} {Rs : Ra τ'} {Rr : Rp ρ} {f : τ' → Option ρ} {o : Option (τ' × τ)} (u : Fun D Rs Rr f) (h : PXA B Γ s As Rs o emb) {p : Option (ρ × τ)} (e : p = o.bind fun q => (f q.1).bind fun v => some (v, q.2) := by rfl) : PX B Γ s (eCall D As) Rr p emb := fun F js env m gg v hv => by
  subst e
  obtain ⟨q, h1, h2⟩ := Option.bind_eq_some_iff.mp hv
  obtain ⟨y, h3, h4⟩ := Option.bind_eq_some_iff.mp h2
  cases h4
  obtain ⟨d, m1, l1, l2, l3, l4⟩ := h F js env m gg q h1
  obtain ⟨d2, m2, n1, n2, n3⟩ := u.run (P := F.P) l2.2.pl l3 h3
  exact ⟨d2, m2, by simp only [eCall, l1, Out.bind_ok, n1], l2.grw n2, n3, l4.tr n2.eff⟩
theorem px_tupL {o : Option (List α × τ)} {n : Nat} (h : PXL B Γ s As R o emb n) {p : Option (List α × τ)} (e : p = o := by rfl) (hn : Nat.ble n 16777216 = true := by rfl) : PX B Γ s (eTup As) (RTup R) p emb := fun F js env m gg v hv => by
  subst e
  obtain ⟨ds, m1, l1, l2, l3, l4⟩ := h.1 F js env m gg v hv
  exact ⟨.tup ds, m1, by simp only [eTup, l1, Out.bind_ok]; rw [if_pos (by rw [Fa.len l3, h.2 v hv]; exact Nat.le_of_ble_eq_true hn)], l2, ⟨ds, rfl, l3⟩, l4⟩
theorem px_lst [ok : CtxOk Γ] {o : Option (List α × τ)} {n : Nat} (h : PXL B Γ s As R o emb n) {p : Option (List α × τ)} (e : p = o := by rfl) (hn : Nat.ble n 16777216 = true := by rfl) : PX B Γ s (eLst As) (RLst R) p emb := fun F js env m gg v hv => by
  subst e
  obtain ⟨ds, m1, l1, l2, l3, l4⟩ := h.1 F js env m gg v hv
  refine ⟨.ref m1.length, m1 ++ [.lst ds], by simp only [eLst, l1, Out.bind_ok]; rw [if_pos (by rw [Fa.len l3, h.2 v hv]; exact Nat.le_of_ble_eq_true hn)], l2.grw (Grw.app _ _), ⟨m1.length, ds, rfl, fun z => ?_, by simp [isL], Fa.imp (fun a b r => Rp.grw r (Grw.app _ _)) l3⟩, l4.tr (Grw.app _ _).eff⟩
  have := l2.2.pl _ z
  omega
theorem px_tup2 {o : Option ((α × β × Unit) × τ)} (h : PXA B Γ s As (RaC R (RaC R' RaN)) o emb) {p : Option ((α × β) × τ)} (e : p = o.bind fun q => some ((q.1.1, q.1.2.1), q.2) := by rfl) : PX B Γ s (eTup As) (RP2 R R') p emb := fun F js env m gg v hv => by
  subst e
  obtain ⟨q, h1, h2⟩ := Option.bind_eq_some_iff.mp hv
  cases h2
  obtain ⟨ds, m1, l1, l2, ⟨d, es, e1, q1, d2, es2, e2, q2, q3⟩, l4⟩ := h F js env m gg q h1
  cases (show es2 = [] from q3)
  subst e1 e2
  exact ⟨_, m1, by simp only [eTup, l1, Out.bind_ok]; rw [if_pos (by simp)], l2, ⟨d, d2, rfl, q1, q2⟩, l4⟩
theorem px_tup3 {o : Option ((α × β × γ × Unit) × τ)} (h : PXA B Γ s As (RaC R (RaC R' (RaC V RaN))) o emb) {p : Option ((α × β × γ) × τ)} (e : p = o.bind fun q => some ((q.1.1, q.1.2.1, q.1.2.2.1), q.2) := by rfl) : PX B Γ s (eTup As) (RP3 R R' V) p emb := fun F js env m gg v hv => by
  subst e
  obtain ⟨q, h1, h2⟩ := Option.bind_eq_some_iff.mp hv
  cases h2
  obtain ⟨ds, m1, l1, l2, ⟨d, es, e1, q1, d2, es2, e2, q2, d3, es3, e3, q3, q4⟩, l4⟩ := h F js env m gg q h1
  cases (show es3 = [] from q4)
  subst e1 e2 e3
  exact ⟨_, m1, by simp only [eTup, l1, Out.bind_ok]; rw [if_pos (by simp)], l2, ⟨d, d2, d3, rfl, q1, q2, q3⟩, l4⟩
theorem px_tup4 {W : Rp δ} {o : Option ((α × β × γ × δ × Unit) × τ)} (h : PXA B Γ s As (RaC R (RaC R' (RaC V (RaC W RaN)))) o emb) {p : Option ((α × β × γ × δ) × τ)} (e : p = o.bind fun q => some ((q.1.1, q.1.2.1, q.1.2.2.1, q.1.2.2.2.1), q.2) := by rfl) : PX B Γ s (eTup As) (RP4 R R' V W) p emb := fun F js env m gg v hv => by
  subst e
  obtain ⟨q, h1, h2⟩ := Option.bind_eq_some_iff.mp hv
  cases h2
  obtain ⟨ds, m1, l1, l2, ⟨d, es, e1, q1, d2, es2, e2, q2, d3, es3, e3, q3, d4, es4, e4, q4, q5⟩, l4⟩ := h F js env m gg q h1
  cases (show es4 = [] from q5)
  subst e1 e2 e3 e4
  exact ⟨_, m1, by simp only [eTup, l1, Out.bind_ok]; rw [if_pos (by simp)], l2, ⟨d, d2, d3, d4, rfl, q1, q2, q3, q4⟩, l4⟩
theorem px_tup5 {ε : Type} {W : Rp δ} {Z : Rp ε} {o : Option ((α × β × γ × δ × ε × Unit) × τ)} (h : PXA B Γ s As (RaC R (RaC R' (RaC V (RaC W (RaC Z RaN))))) o emb) {p : Option ((α × β × γ × δ × ε) × τ)} (e : p = o.bind fun q => some ((q.1.1, q.1.2.1, q.1.2.2.1, q.1.2.2.2.1, q.1.2.2.2.2.1), q.2) := by rfl) : PX B Γ s (eTup As) (RP5 R R' V W Z) p emb := fun F js env m gg v hv => by
  subst e
  obtain ⟨q, h1, h2⟩ := Option.bind_eq_some_iff.mp hv
  cases h2
  obtain ⟨ds, m1, l1, l2, ⟨d, es, e1, q1, d2, es2, e2, q2, d3, es3, e3, q3, d4, es4, e4, q4, d5, es5, e5, q5, q6⟩, l4⟩ := h F js env m gg q h1
  cases (show es5 = [] from q6)
  subst e1 e2 e3 e4 e5
  exact ⟨_, m1, by simp only [eTup, l1, Out.bind_ok]; rw [if_pos (by simp)], l2, ⟨d, d2, d3, d4, d5, rfl, q1, q2, q3, q4, q5⟩, l4⟩
/-- a call that changes its first argument, one's own -/
theorem px_callX [ok : CtxOk Γ] {C : Rc τ} [mx : Mix C] {D : DF} {Rs : Ra τ'} {Rr : Rp ρ} {i : Nat} {p : σ → τ} {u : σ → τ → σ} {f : τ → τ' → Option (ρ × τ)} {o : Option τ'} (fx : FunX D C Rs Rr f) (oa : OwnAt Γ i C p u) (h : PA B Γ s As w Rs o) (hu : ∀ t, u s t = emb t := by intro _; rfl) (hw : w.ok = true := by rfl) {r : Option (ρ × τ)} (e : r = o.bind fun x => f (p s) x := by rfl) : PX B Γ s (eCall D (aCons (eVar i) As)) Rr r emb := fun F js env m gg v hv => by
  subst e
  obtain ⟨x, h1, h2⟩ := Option.bind_eq_some_iff.mp hv
  obtain ⟨k0, ob0, a1, a2, a3, a4⟩ := oa.get gg.1
  obtain ⟨ds, m1, l1, l2, l3⟩ := h F js env m gg x h1
  have gg' := gg.grw l2
  obtain ⟨k, ob, q1, q2, q3, q4⟩ := oa.get gg'.1
  rw [a1] at q1
  have : k0 = k := by simpa using q1
  subst this
  have l3' : Rs.r F.P m1 ds x := by
    cases w with
    | new => exact Rs.anti (fun i _ hp => gg.2.pl i hp) l3
    | str => exact l3
    | q => cases hw
    | any => cases hw
  have kq := gg.2.jq _ a2
  obtain ⟨d, m', ob', n1, n2, n3, n4, n5, n6⟩ := fx.run (P := F.P) gg'.2.pl (gg.2.qp _ kq) q3 (C.anti (fun i _ hi => by rw [hi]; exact kq) q4) l3' h2
  have st : ∀ i o, ¬ F.Q i → m1[i]? = some o → m'[i]? = some o := fun i o hi h => n3 i o (fun z => hi (z ▸ kq)) h
  have eff : Eff (· ∈ js) m1 m' := ⟨n2, fun i o hi h => n3 i o (fun z => hi (z ▸ a2)) h⟩
  refine ⟨d, m', by simp only [eCall, aCons, eVar, a1, Out.bind_ok, l1, n1], ⟨?_, gg.2.nd, gg.2.jq, gg.2.qp, fun i hi => Nat.lt_of_lt_of_le (gg'.2.pl i hi) n2, ⟨Nat.le_trans gg'.2.keep.1 n2, fun i o hi h => n3 i o ?_ (gg'.2.keep.2 i o hi h)⟩, gg.2.old, gg.2.own, gg.2.n0⟩, n6, l2.eff.tr eff⟩
  · rw [← hu]
    refine oa.set gg'.1 gg.2.nd gg.2.qp a1 (fun j o hj h => n3 j o ?_ h) n4 (mx.mix q4 n5 st)
    rcases hj with z | z
    · exact fun q => z (q ▸ kq)
    · exact z.2
  · rintro rfl
    rcases gg.2.own i a2 with z | z
    · have := (List.getElem?_eq_some_iff.mp h).1; omega
    · exact hi z
theorem ptx_tst {o : Option (Bool × τ)} (h : PX B Γ s A RBl o emb) {p : Option (Bool × τ)} (e : p = o := by rfl) : PTX B Γ s (tst A) p emb := fun F js env m gg v hv => by
  subst e
  obtain ⟨d, m1, l1, l2, l3, l4⟩ := h F js env m gg v hv
  cases (show d = .bl v.1 from l3)
  exact ⟨m1, by simp only [tst, l1, Out.bind_ok], l2, l4⟩
theorem ptx_tru {g : α → Option Bool} {o : Option (α × τ)} (u : Tru R g) (h : PX B Γ s A R o emb) {p : Option (Bool × τ)} (e : p = o.bind fun q => (g q.1).bind fun b => some (b, q.2) := by rfl) : PTX B Γ s (tru A) p emb := fun F js env m gg v hv => by
  subst e
  obtain ⟨q, h1, h2⟩ := Option.bind_eq_some_iff.mp hv
  obtain ⟨b, h3, h4⟩ := Option.bind_eq_some_iff.mp h2
  cases h4
  obtain ⟨d, m1, l1, l2, l3, l4⟩ := h F js env m gg q h1
  exact ⟨m1, by simp only [tru, l1, Out.bind_ok, u.run (Rp.any l3) h3], l2, l4⟩
theorem ptx_not {o : Option (Bool × τ)} (h : PTX B Γ s T o emb) {p : Option (Bool × τ)} (e : p = o.bind fun q => some (!q.1, q.2) := by rfl) : PTX B Γ s (tNot' T) p emb := fun F js env m gg v hv => by
  subst e
  obtain ⟨q, h1, h2⟩ := Option.bind_eq_some_iff.mp hv
  cases h2
  obtain ⟨m1, l1, l2, l3⟩ := h F js env m gg q h1
  exact ⟨m1, by simp only [tNot', l1, Out.bind_ok], l2, l3⟩
theorem ptx_and {o : Option (Bool × τ)} {o' : τ → Option (Bool × τ)} (h : PTX B Γ s T o emb) (h' : ∀ t, PTX B Γ (emb t) U (o' t) emb) {p : Option (Bool × τ)} (e : p = o.bind fun q => if q.1 then o' q.2 else some (false, q.2) := by rfl) : PTX B Γ s (tAnd' T U) p emb := fun F js env m gg v hv => by
  subst e
  obtain ⟨q, h1, h2⟩ := Option.bind_eq_some_iff.mp hv
  obtain ⟨m1, l1, l2, l3⟩ := h F js env m gg q h1
  obtain ⟨b, t⟩ := q
  cases b with
  | true =>
    obtain ⟨m2, n1, n2, n3⟩ := h' t F js env m1 l2 v h2
    exact ⟨m2, by simp only [tAnd', l1, Out.bind_ok, if_true, n1], n2, l3.tr n3⟩
  | false => cases h2; exact ⟨m1, by simp [tAnd', l1], l2, l3⟩
theorem ptx_or {o : Option (Bool × τ)} {o' : τ → Option (Bool × τ)} (h : PTX B Γ s T o emb) (h' : ∀ t, PTX B Γ (emb t) U (o' t) emb) {p : Option (Bool × τ)} (e : p = o.bind fun q => if q.1 then some (true, q.2) else o' q.2 := by rfl) : PTX B Γ s (tOr' T U) p emb := fun F js env m gg v hv => by
  subst e
  obtain ⟨q, h1, h2⟩ := Option.bind_eq_some_iff.mp hv
  obtain ⟨m1, l1, l2, l3⟩ := h F js env m gg q h1
  obtain ⟨b, t⟩ := q
  cases b with
  | false =>
    obtain ⟨m2, n1, n2, n3⟩ := h' t F js env m1 l2 v h2
    exact ⟨m2, by simp [tOr', l1, n1], n2, l3.tr n3⟩
  | true => cases h2; exact ⟨m1, by simp [tOr', l1], l2, l3⟩
theorem px_if {c : Option (Bool × τ)} {o1 o2 : τ → Option (α × τ)} (h : PTX B Γ s T c emb) (h1 : ∀ t, PX B Γ (emb t) A R (o1 t) emb) (h2 : ∀ t, PX B Γ (emb t) A' R (o2 t) emb) {p : Option (α × τ)} (e : p = c.bind fun q => if q.1 then o1 q.2 else o2 q.2 := by rfl) : PX B Γ s (eIf T A A') R p emb := fun F js env m gg v hv => by
  subst e
  obtain ⟨q, e1, e2⟩ := Option.bind_eq_some_iff.mp hv
  obtain ⟨m1, l1, l2, l3⟩ := h F js env m gg q e1
  obtain ⟨b, t⟩ := q
  cases b with
  | true =>
    obtain ⟨d, m2, n1, n2, n3, n4⟩ := h1 t F js env m1 l2 v e2
    exact ⟨d, m2, by simp only [eIf, l1, Out.bind_ok, if_true, n1], n2, n3, l3.tr n4⟩
  | false =>
    obtain ⟨d, m2, n1, n2, n3, n4⟩ := h2 t F js env m1 l2 v e2
    exact ⟨d, m2, by simp [eIf, l1, n1], n2, n3, l3.tr n4⟩
theorem pix_rng1 {o : Option (Int × τ)} (h : PX B Γ s A RInt o emb) {p : Option (List Int × τ)} (e : p = o.bind fun q => (rngO 0 q.1).bind fun v => some (v, q.2) := by rfl) : PIX B Γ s (iRng1D A) RInt p emb := fun F js env m gg v hv => by
  subst e
  obtain ⟨⟨n, t⟩, h1, h2⟩ := Option.bind_eq_some_iff.mp hv
  obtain ⟨y, h3, h4⟩ := Option.bind_eq_some_iff.mp h2
  cases h4
  obtain ⟨d, m1, g1, g2, g3, g4⟩ := h F js env m gg (n, t) h1
  cases (show d = .int n from g3)
  unfold rngO at h3
  split at h3
  · rename_i hi
    cases h3
    refine ⟨⟨rng 0 n.toNat, []⟩, m1, by simp only [iRng1D, g1, Out.bind_ok]; rw [if_pos (in62 hi.2.1 hi.2.2)], g2, ?_, guard0 m1, fun p hp => (by cases hp), g4⟩
    show Fa _ _ (List.map _ (List.range (n - 0).toNat))
    rw [Int.sub_zero]; exact fa_rng 0 n.toNat
  · cases h3
theorem pix_tup [i : Flat R] {o : Option (List α × τ)} (h : PX B Γ s A (RTup R) o emb) {p : Option (List α × τ)} (e : p = o := by rfl) : PIX B Γ s (iAnyD A) R p emb := fun F js env m gg v hv => by
  subst e
  obtain ⟨d, m1, g1, g2, ⟨ds, e, g3⟩, g4⟩ := h F js env m gg v hv
  subst e
  exact ⟨⟨ds, []⟩, m1, by simp only [iAnyD, g1, Out.bind_ok], g2, g3, guard0 m1, fun p hp => (by cases hp), g4⟩
theorem pix_lst {o : Option (List α × τ)} (h : PX B Γ s A (RLst R) o emb) {p : Option (List α × τ)} (e : p = o := by rfl) : PIX B Γ s (iAnyD A) R p emb := fun F js env m gg v hv => by
  subst e
  obtain ⟨d, m1, g1, g2, ⟨k, ds, e, hp, hl, g3⟩, g4⟩ := h F js env m gg v hv
  subst e
  exact ⟨⟨ds, [(k, .lst ds)]⟩, m1, by simp only [iAnyD, g1, Out.bind_ok, show m1[k]? = some (MO.lst ds) from hl], g2, g3, guard1 hl, fun p hp2 q => by rw [List.mem_singleton.mp hp2] at q; exact hp (g2.2.qp _ q), g4⟩

/-! ### comprehensions that draw -/
def filX (xs : List α) (t : τ) (c : τ → α → Option (Bool × τ)) (f : τ → α → Option (β × τ)) : Option (List β × τ) := match xs with
  | [] => some ([], t)
  | x :: r => (c t x).bind fun q => if q.1 then (f q.2 x).bind fun y => (filX r y.2 c f).bind fun ys => some (y.1 :: ys.1, ys.2) else filX r q.2 c f
def mapX (xs : List α) (t : τ) (f : τ → α → Option (β × τ)) : Option (List β × τ) := match xs with
  | [] => some ([], t)
  | x :: r => (f t x).bind fun y => (mapX r y.2 f).bind fun ys => some (y.1 :: ys.1, ys.2)
theorem filX_yes (xs : List α) (t : τ) (f : τ → α → Option (β × τ)) : filX xs t (fun t _ => some (true, t)) f = mapX xs t f := by
  induction xs generalizing t with
  | nil => rfl
  | cons x xs ih => simp [filX, mapX, ih]
theorem compX_core {ρ' : Type} {Γx : Ctx ρ'} {e : σ → α → ρ'} {G : DG} {E : DE} {c : τ → α → Option (Bool × τ)} {f : τ → α → Option (β × τ)} [ok : CtxOk Γ] (hg : Tg (el := true) Γ R G Γx e) (hu : ∀ {F : Fr} {js : List Nat} {env : DL.Env} {m m1 : Mem} {t t' : τ} {x : α} {d : DV}, Γ F js env m (emb t) → R.r F.P m d x → ∀ env1, G d env m = .ok env1 m → Γx F js env1 m1 (e (emb t') x) → (∀ i o, i ∉ js → m[i]? = some o → m1[i]? = some o) → Wf B F js m → Γ F js env m1 (emb t')) (hT : ∀ t x, PTX B Γx (e (emb t) x) T (c t x) (fun t => e (emb t) x)) (hE : ∀ t x, PX B Γx (e (emb t) x) E R' (f t x) (fun t => e (emb t) x)) {F : Fr} {js : List Nat} {env : DL.Env} {gs : List (Nat × MO)} {k : Nat} (hk : F.P k) (hkq : F.Q k) (hkn : F.n ≤ k) (hkj : k ∉ js) (hgs : ∀ p ∈ gs, p.1 ≠ k ∧ p.1 ∉ js) :
    ∀ (ds : List DV) (xs : List α) (m : Mem) (t : τ) (acc : List DV) (ys : List β) (zs : List β × τ), RG B Γ F js env m (emb t) → m[k]? = some (.lst acc) → Fa (R'.r F.P m) acc ys → Fa (R.r F.P m) ds xs → guard gs m → acc.length + ds.length ≤ 16777216 → filX xs t c f = some zs →
      ∃ m', compD gs G T E k env ds m = .ok () m' ∧ m.length ≤ m'.length ∧ (∀ i o, i ≠ k → i ∉ js → m[i]? = some o → m'[i]? = some o) ∧ RG B Γ F js env m' (emb zs.2) ∧ ∃ acc', m'[k]? = some (.lst acc') ∧ Fa (R'.r F.P m') acc' (ys ++ zs.1)
  | [], _, m, t, acc, ys, zs, hr, hm, ha, .nil, hgd, hl, hz => by
    cases hz
    exact ⟨m, by unfold compD; rw [if_pos hgd], Nat.le_refl _, fun _ _ _ _ h => h, hr, acc, hm, by simpa using ha⟩
  | d :: ds, x :: xs, m, t, acc, ys, zs, hr, hm, ha, .cons hd hds, hgd, hl, hz => by
    simp only [filX] at hz
    obtain ⟨⟨b, t1⟩, h1, h2⟩ := Option.bind_eq_some_iff.mp hz
    obtain ⟨env1, k1, k2⟩ := hg.run hr.1 hd
    have hr1 : RG B Γx F js env1 m (e (emb t) x) := ⟨k2, hr.2⟩
    obtain ⟨m1, l1, l2, l3⟩ := hT t x F js env1 m hr1 (b, t1) h1
    have g1 : RG B Γ F js env m1 (emb t1) := ⟨hu hr.1 hd env1 k1 l2.1 (fun i o hi h => l3.2 i o hi h) hr.2, l2.2⟩
    have fa1 : ∀ {α' : Type} {Rz : Rp α'} {dd : DV} {xx : α'}, Rz.r F.P m dd xx → Rz.r F.P m1 dd xx := fun {α' Rz dd xx} r => Rp.eff l3 hr.2 r
    cases b with
    | false =>
      simp only [Bool.false_eq_true, if_false] at h2
      obtain ⟨m', q1, q2, q3, q4, q5⟩ := compX_core hg hu hT hE hk hkq hkn hkj hgs ds xs m1 t1 acc ys zs g1 (l3.2 _ _ hkj hm) (ha.imp fun _ _ r => fa1 r) (hds.imp fun _ _ r => fa1 r) (fun p hp => l3.2 _ _ (hgs p hp).2 (hgd p hp)) (by simp only [List.length_cons] at hl; omega) h2
      refine ⟨m', ?_, Nat.le_trans l3.1 q2, fun i o hi hj h => q3 i o hi hj (l3.2 i o hj h), q4, q5⟩
      unfold compD
      rw [if_pos hgd, k1]
      simp only [Out.nox, Out.bind_ok, l1, Bool.false_eq_true, if_false, q1]
    | true =>
      simp only [if_true] at h2
      obtain ⟨y, h3, h4⟩ := Option.bind_eq_some_iff.mp h2
      obtain ⟨zs', h5, h6⟩ := Option.bind_eq_some_iff.mp h4
      cases h6
      obtain ⟨dy, m2, n1, n2, n3, n4⟩ := hE t1 x F js env1 m1 l2 y h3
      have e12 := l3.tr n4
      have g2 : RG B Γ F js env m2 (emb y.2) := ⟨hu hr.1 hd env1 k1 n2.1 (fun i o hi h => e12.2 i o hi h) hr.2, n2.2⟩
      have hm2 : m2[k]? = some (.lst acc) := e12.2 _ _ hkj hm
      have hlt : k < m2.length := (List.getElem?_eq_some_iff.mp hm2).1
      have st : ∀ i o, i ≠ k → m2[i]? = some o → (m2.set k (.lst (acc ++ [dy])))[i]? = some o := fun i o hi h => by rw [List.getElem?_set_ne (fun q => hi q.symm)]; exact h
      have hr4 : RG B Γ F js env (m2.set k (.lst (acc ++ [dy]))) (emb y.2) := by
        refine ⟨ok.step g2.2.qp (fun i o hi h => st i o ?_ h) g2.1, g2.2.nd, g2.2.jq, g2.2.qp, fun i hi => by simpa using g2.2.pl i hi, ⟨by simpa using g2.2.keep.1, fun i o hi h => st i o ?_ (g2.2.keep.2 i o hi h)⟩, g2.2.old, g2.2.own, g2.2.n0⟩
        · rintro rfl
          rcases hi with q | q
          · exact q hkq
          · exact hkj q
        · have := (List.getElem?_eq_some_iff.mp h).1
          have := hr.2.n0
          omega
      have fa : ∀ {α' : Type} {Rz : Rp α'} {dd : DV} {xx : α'}, Rz.r F.P m2 dd xx → Rz.r F.P (m2.set k (.lst (acc ++ [dy]))) dd xx := fun {α' Rz dd xx} r => Rz.step (set_off hk) r
      have fa2 : ∀ {α' : Type} {Rz : Rp α'} {dd : DV} {xx : α'}, Rz.r F.P m dd xx → Rz.r F.P m2 dd xx := fun {α' Rz dd xx} r => Rp.eff e12 hr.2 r
      obtain ⟨m', q1, q2, q3, q4, q5⟩ := compX_core hg hu hT hE hk hkq hkn hkj hgs ds xs (m2.set k (.lst (acc ++ [dy]))) y.2 (acc ++ [dy]) (ys ++ [y.1]) zs' hr4 (List.getElem?_set_self hlt) (Fa.app (ha.imp fun _ _ r => fa (fa2 r)) (.cons (fa n3) .nil)) (hds.imp fun _ _ r => fa (fa2 r)) (fun p hp => st _ _ (hgs p hp).1 (e12.2 _ _ (hgs p hp).2 (hgd p hp))) (by simp only [List.length_cons, List.length_append, List.length_nil] at hl ⊢; omega) h5
      refine ⟨m', ?_, Nat.le_trans e12.1 (by simpa using q2), fun i o hi hj h => q3 i o hi hj (st i o hi (e12.2 i o hj h)), q4, by simpa using q5⟩
      unfold compD
      rw [if_pos hgd, k1]
      simp only [Out.nox, Out.bind_ok, l1, if_true, n1, hm2]
      rw [if_pos (by simp only [List.length_cons] at hl; omega), q1]
/-- what a comprehension's name hides -/
structure StB (Γ : Ctx σ) (i : Nat) (R : Rp α) (Γ' : Ctx σ') (e : σ → α → σ') : Prop where
  run : ∀ {F : Fr} {js : List Nat} {env : DL.Env} {m m1 : Mem} {d : DV} {s s' : σ} {x : α}, Γ F js env m s → Γ' F js (env.set i (some d)) m1 (e s' x) → Γ F js env m1 s'
section
variable {C : Rc δ} {Rv : Rp β} {e : σ → α → σ'} {i : Nat} {l : Option Nat} {k : Nat} {ob : MO}
theorem b0 : StB (deadC Γ) 0 R (valC R Γ) (fun s x => (x, s)) := ⟨fun {F js env m m1 d s s' x} ⟨o, en, h1, h2⟩ ⟨d', e', g1, g2, g3⟩ => by
  subst h1
  have : en = e' := (List.cons.inj g1).2
  subst this
  exact ⟨o, en, rfl, g3⟩⟩
theorem bD (h : StB Γ i R Γ' e) : StB (deadC Γ) (i + 1) R (deadC Γ') e := ⟨fun {F js env m m1 d s s' x} ⟨o, en, h1, h2⟩ ⟨d', e', g1, g3⟩ => by
  subst h1
  have := (List.cons.inj g1).2
  subst this
  exact ⟨o, en, rfl, h.run h2 g3⟩⟩
theorem bV (h : StB Γ i R Γ' e) : StB (valC Rv Γ) (i + 1) R (valC Rv Γ') (fun s x => (s.1, e s.2 x)) := ⟨fun {F js env m m1 d s s' x} ⟨o, en, h1, h3, h2⟩ ⟨d', e', g1, g2, g3⟩ => by
  subst h1
  have q := List.cons.inj g1
  have q1 := q.1
  have := q.2
  subst this
  cases q1
  exact ⟨o, en, rfl, g2, h.run h2 g3⟩⟩
theorem bP (h : StB Γ i R Γ' e) : StB (parC Rv Γ) (i + 1) R (parC Rv Γ') (fun s x => (s.1, e s.2 x)) := ⟨fun {F js env m m1 d s s' x} ⟨o, en, h1, h3, h2⟩ ⟨d', e', g1, g2, g3⟩ => by
  subst h1
  have q := List.cons.inj g1
  have q1 := q.1
  have := q.2
  subst this
  cases q1
  exact ⟨o, en, rfl, g2, h.run h2 g3⟩⟩
theorem bO (h : StB Γ i R Γ' e) : StB (ownC l C Γ) (i + 1) R (ownC l C Γ') (fun s x => (s.1, e s.2 x)) := ⟨fun {F js env m m1 d s s' x} ⟨k, js', en, ob, h0, h1, h3, h4, h5, h2⟩ ⟨k2, js2, e2, ob2, f0, f1, f3, f4, f5, f2⟩ => by
  subst h1 h0
  have q := List.cons.inj f1
  have q1 := q.1
  have := q.2
  subst this
  cases q1
  have := (List.cons.inj f0).2
  subst this
  exact ⟨k, js', en, ob2, rfl, rfl, f3, f4, f5, h.run h2 f2⟩⟩
theorem bL (h : StB Γ i R Γ' e) : StB (lokC C k ob Γ) (i + 1) R (lokC C k ob Γ') (fun s x => (s.1, e s.2 x)) := ⟨fun {F js env m m1 d s s' x} ⟨js', en, h0, h1, h3, h4, h5, h2⟩ ⟨js2, e2, f0, f1, f3, f4, f5, f2⟩ => by
  subst h1 h0
  have := (List.cons.inj f1).2
  subst this
  have := (List.cons.inj f0).2
  subst this
  exact ⟨js', en, rfl, rfl, f3, f4, f5, h.run h2 f2⟩⟩
end
structure TgB (Γ : Ctx σ) (R : Rp α) (G : DG) (Γ' : Ctx σ') (e : σ → α → σ') : Prop where
  run : ∀ {F : Fr} {js : List Nat} {env env1 : DL.Env} {m m1 : Mem} {d : DV} {s s' : σ} {x : α}, Γ F js env m s → R.r F.P m d x → G d env m = .ok env1 m → Γ' F js env1 m1 (e s' x) → Γ F js env m1 s'
theorem tb_var {i : Nat} {e : σ → α → σ'} (h : StB Γ i R Γ' e) : TgB Γ R (gVar i) Γ' e := ⟨fun g _ he g' => by
  cases he
  exact h.run g g'⟩
structure DeadB (Γ : Ctx σ) (i : Nat) : Prop where
  run : ∀ {F F2 : Fr} {js : List Nat} {env : DL.Env} {m m1 : Mem} {s s' : σ}, Γ F js env m s → Γ F2 js (env.set i none) m1 s' → Γ F2 js env m1 s'
section
variable {C : Rc δ} {Rv : Rp β} {i : Nat} {l : Option Nat} {k : Nat} {ob : MO}
theorem db0 : DeadB (deadC Γ) 0 := ⟨fun {F F2 js env m m1 s s'} ⟨o, en, h1, h2⟩ ⟨d', e', g1, g3⟩ => by
  subst h1
  have := (List.cons.inj g1).2
  subst this
  exact ⟨o, en, rfl, g3⟩⟩
theorem dbD (h : DeadB Γ i) : DeadB (deadC Γ) (i + 1) := ⟨fun {F F2 js env m m1 s s'} ⟨o, en, h1, h2⟩ ⟨d', e', g1, g3⟩ => by
  subst h1
  have := (List.cons.inj g1).2
  subst this
  exact ⟨o, en, rfl, h.run h2 g3⟩⟩
theorem dbV (h : DeadB Γ i) : DeadB (valC Rv Γ) (i + 1) := ⟨fun {F F2 js env m m1 s s'} ⟨o, en, h1, h3, h2⟩ ⟨d', e', g1, g2, g3⟩ => by
  subst h1
  have q := List.cons.inj g1
  have q1 := q.1
  have := q.2
  subst this
  cases q1
  exact ⟨o, en, rfl, g2, h.run h2 g3⟩⟩
theorem dbP (h : DeadB Γ i) : DeadB (parC Rv Γ) (i + 1) := ⟨fun {F F2 js env m m1 s s'} ⟨o, en, h1, h3, h2⟩ ⟨d', e', g1, g2, g3⟩ => by
  subst h1
  have q := List.cons.inj g1
  have q1 := q.1
  have := q.2
  subst this
  cases q1
  exact ⟨o, en, rfl, g2, h.run h2 g3⟩⟩
theorem dbO (h : DeadB Γ i) : DeadB (ownC l C Γ) (i + 1) := ⟨fun {F F2 js env m m1 s s'} ⟨k, js', en, ob, h0, h1, h3, h4, h5, h2⟩ ⟨k2, js2, e2, ob2, f0, f1, f3, f4, f5, f2⟩ => by
  subst h1 h0
  have q := List.cons.inj f1
  have q1 := q.1
  have := q.2
  subst this
  cases q1
  have := (List.cons.inj f0).2
  subst this
  exact ⟨k, js', en, ob2, rfl, rfl, f3, f4, f5, h.run h2 f2⟩⟩
theorem dbL (h : DeadB Γ i) : DeadB (lokC C k ob Γ) (i + 1) := ⟨fun {F F2 js env m m1 s s'} ⟨js', en, h0, h1, h3, h4, h5, h2⟩ ⟨js2, e2, f0, f1, f3, f4, f5, f2⟩ => by
  subst h1 h0
  have := (List.cons.inj f1).2
  subst this
  have := (List.cons.inj f0).2
  subst this
  exact ⟨js', en, rfl, rfl, f3, f4, f5, h.run h2 f2⟩⟩
end
structure WipeB (Γ : Ctx σ) (vs : List Nat) : Prop where
  run : ∀ {F F2 : Fr} {js : List Nat} {env : DL.Env} {m m1 : Mem} {s s' : σ}, Γ F js env m s → Γ F2 js (wipeD vs env) m1 s' → Γ F2 js env m1 s'
theorem wb_nil : WipeB Γ [] := ⟨fun _ h => h⟩
theorem wb_cons {v : Nat} {vs : List Nat} (hd : DeadB Γ v) (hk : WipeAt Γ vs) (k : WipeB Γ vs) : WipeB Γ (v :: vs) := ⟨fun g h => k.run g (hd.run (hk.run g) h)⟩
theorem compX_main {ρ' : Type} {Γx : Ctx ρ'} {e : σ → α → ρ'} {I : DI} {G : DG} {E : DE} {vs : List Nat} {oi : Option (List α × τ)} {c : τ → α → Option (Bool × τ)} {f : τ → α → Option (β × τ)} [ok : CtxOk Γ] (hi : PIX B Γ s I R oi emb) (hv : WipeAt Γ vs) (hvb : WipeB Γ vs) (hg : Tg (el := true) Γ R G Γx e) (hbk : TgB Γ R G Γx e) (hT : ∀ t x, PTX B Γx (e (emb t) x) T (c t x) (fun t => e (emb t) x)) (hE : ∀ t x, PX B Γx (e (emb t) x) E R' (f t x) (fun t => e (emb t) x))
    {p : Option (List β × τ)} (ho : p = oi.bind fun q => (szO q.1.length).bind fun _ => filX q.1 q.2 c f := by rfl) : PX B Γ s (eComp I G T E vs) (RLst R') p emb := fun F js env m gg v hv' => by
  subst ho
  obtain ⟨q, h1, h2⟩ := Option.bind_eq_some_iff.mp hv'
  obtain ⟨_, h3, h4⟩ := Option.bind_eq_some_iff.mp h2
  obtain ⟨it, m1, k1, k2, k3, k4, k5, k6⟩ := hi F js env m gg q h1
  have hr : RG B Γ (F.add m1.length) js (wipeD vs env) (m1 ++ [.lst []]) (emb q.2) := by
    have := k2.add (ob := .lst [])
    exact ⟨hv.run this.1, this.2⟩
  have gA := Grw.app m1 [.lst []]
  have fa : Fa (R.r (F.add m1.length).P (m1 ++ [.lst []])) it.ds q.1 := k3.imp fun _ _ r => Rp.grw (R.anti (fun i hi hp => by rcases hp with z | z; exact z; omega) r) gA
  obtain ⟨m', q1, q2, q3, q4, acc', q5, q6⟩ := compX_core (emb := emb) (c := c) (f := f) hg (fun {F js env m m1 t t' x d} g r env1 he g' _ _ => hbk.run g r he g') hT hE (F := F.add m1.length) (js := js) (env := wipeD vs env) (gs := it.gs) (k := m1.length) (.inr rfl) (.inr rfl) (by have := k2.2.keep.1; have := k2.2.n0; show F.n ≤ _; omega) (fun hj => by have := ok.len k2.1 _ hj; omega) (fun p hp => ⟨by have := (List.getElem?_eq_some_iff.mp (k4 p hp)).1; omega, fun hj => k5 p hp (k2.2.jq _ hj)⟩)
    it.ds q.1 (m1 ++ [.lst []]) q.2 [] [] v hr (by simp) .nil fa (fun p hp => gA.2 _ _ (k4 p hp)) (by rw [fa.len]; have := szO_iff.mp h3; simpa using this) h4
  have hlen : m1.length + 1 ≤ m'.length := by simpa using q2
  have eff : Eff (· ∈ js) m1 m' := ⟨by omega, fun i o hi h => q3 i o (by have := (List.getElem?_eq_some_iff.mp h).1; omega) hi (gA.2 i o h)⟩
  refine ⟨.ref m1.length, m', ?_, ⟨?_, k2.2.nd, k2.2.jq, k2.2.qp, fun i hi => by have := k2.2.pl i hi; omega, ?_, k2.2.old, k2.2.own, k2.2.n0⟩, ⟨m1.length, acc', rfl, fun z => ?_, q5, Fa.imp (fun a b r => R'.anti (fun i _ hp => Or.inl hp) r) (by rw [List.nil_append] at q6; exact q6)⟩, k6.tr eff⟩
  · unfold eComp
    rw [k1]
    simp only [Out.bind_ok, q1]
  · exact hvb.run k2.1 (ok.fr (F := F.add m1.length) (F' := F) rfl (fun i _ hp => Or.inl hp) (fun i _ hp => Or.inl hp) q4.1)
  · exact q4.2.keep
  · have := k2.2.pl _ z
    omega
theorem mapX_main {ρ' : Type} {Γx : Ctx ρ'} {e : σ → α → ρ'} {I : DI} {G : DG} {E : DE} {vs : List Nat} {oi : Option (List α × τ)} {f : τ → α → Option (β × τ)} [ok : CtxOk Γ] [okx : CtxOk Γx] (hi : PIX B Γ s I R oi emb) (hv : WipeAt Γ vs) (hvb : WipeB Γ vs) (hg : Tg (el := true) Γ R G Γx e) (hbk : TgB Γ R G Γx e) (hE : ∀ t x, PX B Γx (e (emb t) x) E R' (f t x) (fun t => e (emb t) x))
    {p : Option (List β × τ)} (ho : p = oi.bind fun q => (szO q.1.length).bind fun _ => mapX q.1 q.2 f := by rfl) : PX B Γ s (eComp I G tYesD E vs) (RLst R') p emb :=
  compX_main (c := fun t _ => some (true, t)) hi hv hvb hg hbk (fun t x => ptx_pure (t0 := t) (emb := fun t => e (emb t) x) pt_yes rfl) hE (by rw [ho]; simp only [filX_yes])

/-! ### statements -/
section
variable {S : DS} {E : En κ}
theorem ps_setX {i : Nat} {e : σ → α → σ'} {o : Option (α × τ)} (st : St (el := true) Γ i R Γ' e) (h : PX B Γ s A R o emb) : PB B Γ s (sSet i A) o (eNx B Γ' (fun q => e (emb q.2) q.1)) := fun F js env m g v hv => by
  obtain ⟨d, m', h1, h2, h3, h4⟩ := h F js env m g v hv
  exact ⟨_, m', F, by simp only [sSet, h1, Out.bind_ok], ⟨_, js, rfl, st.run h2.1 h3, h2.2⟩, h4.q g.2.jq, FrLe.refl F m⟩
theorem ps_asgX {G : DG} {e : σ → α → σ'} {o : Option (α × τ)} (st : Tg (el := true) Γ R G Γ' e) (h : PX B Γ s A R o emb) : PB B Γ s (sAsg A G) o (eNx B Γ' (fun q => e (emb q.2) q.1)) := fun F js env m g v hv => by
  obtain ⟨d, m', h1, h2, h3, h4⟩ := h F js env m g v hv
  obtain ⟨env', k1, k2⟩ := st.run h2.1 h3
  exact ⟨_, m', F, by simp only [sAsg, h1, Out.bind_ok, k1], ⟨_, js, rfl, k2, h2.2⟩, h4.q g.2.jq, FrLe.refl F m⟩
theorem ps_parX {i j : Nat} {e : σ → α → σ'} {σ2 : Type} {Γ2 : Ctx σ2} {e2 : σ' → β → σ2} {o : Option ((α × β × Unit) × τ)} (st : St (el := true) Γ i R Γ' e) (st2 : St (el := true) Γ' j R' Γ2 e2) (h : PXA B Γ s As (RaC R (RaC R' RaN)) o emb) : PB B Γ s (sPar i j As) o (eNx B Γ2 (fun q => e2 (e (emb q.2) q.1.1) q.1.2.1)) := fun F js env m g v hv => by
  obtain ⟨ds, m', h1, h2, ⟨d1, es1, e1, q1, d2, es2, e2', q2, q3⟩, h4⟩ := h F js env m g v hv
  cases (show es2 = [] from q3)
  subst e1 e2'
  exact ⟨_, m', F, by simp only [sPar, h1, Out.bind_ok], ⟨_, js, rfl, st2.run (st.run h2.1 q1) q2, h2.2⟩, h4.q g.2.jq, FrLe.refl F m⟩
theorem ps_exprX {o : Option (α × τ)} (h : PX B Γ s A R o emb) : PB B Γ s (sExpr A) (o.bind fun q => some q.2) (eNx B Γ emb) := fun F js env m g v hv => by
  obtain ⟨q, h1, h2⟩ := Option.bind_eq_some_iff.mp hv
  cases h2
  obtain ⟨d, m', h1, h2, h3, h4⟩ := h F js env m g q h1
  exact ⟨_, m', F, by simp only [sExpr, h1, Out.bind_ok], ⟨_, js, rfl, h2⟩, h4.q g.2.jq, FrLe.refl F m⟩
theorem ps_retX {g : τ → α → κ} {o : Option (α × τ)} (a : ∀ t, AccR B Γ (emb t) E R (g t)) (h : PX B Γ s A R o emb) {p : Option κ} (e : p = o.bind fun q => some (g q.2 q.1) := by rfl) : PB B Γ s (sRet A) p (stc E) := fun F js env m gg v hv => by
  subst e
  obtain ⟨q, h1, h2⟩ := Option.bind_eq_some_iff.mp hv
  cases h2
  obtain ⟨d, m1, l1, l2, l3, l4⟩ := h F js env m gg q h1
  exact ⟨_, m1, F, by simp only [sRet, l1, Out.bind_ok], ⟨(a q.2).run l2 (R.anti (fun i _ hi => gg.2.old i hi) l3), fun env h => by cases h⟩, l4.q gg.2.jq, FrLe.refl F m⟩
theorem ps_ifX {c : Option (Bool × τ)} {S1 S2 : DS} {o1 o2 : τ → Option κ} {p : Option κ} (h : PTX B Γ s T c emb) (h1 : ∀ t, PB B Γ (emb t) S1 (o1 t) E) (h2 : ∀ t, PB B Γ (emb t) S2 (o2 t) E) (e : p = c.bind fun q => if q.1 then o1 q.2 else o2 q.2 := by rfl) : PB B Γ s (sIf T S1 S2) p E := fun F js env m gg v hv => by
  subst e
  obtain ⟨⟨b, t⟩, e1, e2⟩ := Option.bind_eq_some_iff.mp hv
  obtain ⟨m1, k1, k2, k3⟩ := h F js env m gg (b, t) e1
  cases b with
  | true =>
    obtain ⟨fl, m2, F2, l1, l2, l3, l4⟩ := h1 t F js env m1 k2 v e2
    exact ⟨fl, m2, F2, by simp only [sIf, k1, Out.bind_ok, if_true, l1], l2, Eff.trans (Q := F.Q) (k3.q gg.2.jq) l3 (fun _ _ h => h), fun i hi => l4 i (Nat.lt_of_lt_of_le hi k3.1)⟩
  | false =>
    obtain ⟨fl, m2, F2, l1, l2, l3, l4⟩ := h2 t F js env m1 k2 v e2
    exact ⟨fl, m2, F2, by simp [sIf, k1, l1], l2, Eff.trans (Q := F.Q) (k3.q gg.2.jq) l3 (fun _ _ h => h), fun i hi => l4 i (Nat.lt_of_lt_of_le hi k3.1)⟩
theorem ps_ifRX {c : Option (Bool × τ)} {S1 S2 : DS} {o1 o2 : τ → Option κ} {p : Option κ} (h : PTX B Γ s T c emb) (h1 : ∀ t, PB B Γ (emb t) S1 (o1 t) (stc E)) (h2 : ∀ t, PB B Γ (emb t) S2 (o2 t) E) (e : p = c.bind fun q => if q.1 then o1 q.2 else o2 q.2 := by rfl) : PB B Γ s (sSeq (sIf T S1 sSkip) S2) p E := fun F js env m gg v hv => by
  subst e
  obtain ⟨⟨b, t⟩, e1, e2⟩ := Option.bind_eq_some_iff.mp hv
  obtain ⟨m1, k1, k2, k3⟩ := h F js env m gg (b, t) e1
  cases b with
  | true =>
    obtain ⟨fl, m2, F2, l1, l2, l3, l4⟩ := h1 t F js env m1 k2 v e2
    refine ⟨fl, m2, F2, ?_, l2.1, Eff.trans (Q := F.Q) (k3.q gg.2.jq) l3 (fun _ _ h => h), fun i hi => l4 i (Nat.lt_of_lt_of_le hi k3.1)⟩
    simp only [sSeq, sIf, k1, Out.bind_ok, if_true, l1]
    cases fl with
    | nx env => exact absurd rfl (l2.2 env)
    | _ => rfl
  | false =>
    obtain ⟨fl, m2, F2, l1, l2, l3, l4⟩ := h2 t F js env m1 k2 v e2
    exact ⟨fl, m2, F2, by simp [sSeq, sIf, sSkip, k1, l1], l2, Eff.trans (Q := F.Q) (k3.q gg.2.jq) l3 (fun _ _ h => h), fun i hi => l4 i (Nat.lt_of_lt_of_le hi k3.1)⟩
/-- append what is drawn -/
theorem ps_appX [ok : CtxOk Γ] {i : Nat} {p : σ → List α} {u : σ → List α → σ} {o : Option (α × τ)} (oa : OwnAt Γ i (CLst R) p u) (h : PX B Γ s A R o emb) : PB B Γ s (sExpr (eAppend (eVar i) A)) (o.bind fun q => (szO ((p (emb q.2)).length + 1)).bind fun _ => some (p (emb q.2) ++ [q.1], q.2)) (eNx B Γ (fun q => u (emb q.2) q.1)) := fun F js env m g v hv => by
  obtain ⟨q, h1, h2⟩ := Option.bind_eq_some_iff.mp hv
  obtain ⟨_, h3, h4⟩ := Option.bind_eq_some_iff.mp h2
  cases h4
  obtain ⟨d, m1, l1, l2, l3, l4⟩ := h F js env m g q h1
  obtain ⟨k0, ob0, a1, a2, a3, ds0, rfl, a4⟩ := oa.get g.1
  obtain ⟨k, ob, q1, q2, q3, ds, rfl, q4⟩ := oa.get l2.1
  rw [a1] at q1
  have : k0 = k := by simpa using q1
  subst this
  have hlt := (List.getElem?_eq_some_iff.mp q3).1
  have kq := g.2.jq _ a2
  have hl : ds.length < 16777216 := by have := szO_iff.mp h3; have := q4.len; omega
  have fa : Fa (R.r F.Q (m1.set k0 (.lst (ds ++ [d])))) (ds ++ [d]) (p (emb q.2) ++ [q.1]) := Fa.app (q4.imp fun _ _ => R.step (set_off kq))
    (.cons (R.anti (fun i _ hi => g.2.qp i hi) (R.step (set_off (g.2.qp _ kq)) l3)) .nil)
  obtain ⟨r1, r2⟩ := own_put oa l2 a1 a2 hlt (ob := .lst (ds ++ [d])) (x := p (emb q.2) ++ [q.1]) ⟨_, rfl, fa⟩
  refine ⟨_, m1.set k0 (.lst (ds ++ [d])), F, ?_, ⟨env, js, rfl, r1⟩, (l4.q g.2.jq).trans r2 (fun _ _ h => h), FrLe.refl F m⟩
  have e1 : eAppend (eVar i) A env m = .ok .non (m1.set k0 (.lst (ds ++ [d]))) := eAppend_eq (by simp only [eVar, a1]) a3 l1 q3 hl
  simp only [sExpr, e1, Out.bind_ok]
/-- a loop over what is drawn -/
theorem ps_forX {σ2 : Type} {Γ2 : Ctx σ2} {ρ' τ2 : Type} {I : DI} {G : DG} {Γx : Ctx ρ'} {e : σ2 → α → ρ'} {emb2 : τ2 → σ2} {Er : En ρ} {t0 : τ → τ2} {oi : Option (List α × τ)} {b : τ2 → α → Option (Lp τ2 ρ)} (hi : PIX B Γ s I R oi emb) (hw : ∀ t, Wk Γ (emb t) Γ2 (emb2 (t0 t))) (hg : Tg (el := true) Γ2 R G Γx e) (hb : ∀ t x, PB B Γx (e (emb2 t) x) S (b t x) (eLp B Γ2 emb2 Er))
    {p : Option (Lp τ2 ρ)} (ho : p = oi.bind fun q => forL q.1 (t0 q.2) b := by rfl) : PB B Γ s (sFor I G S) p (eLx B Γ2 emb2 Er) := fun F js env m gg v hv => by
  subst ho
  obtain ⟨xs, h1, h2⟩ := Option.bind_eq_some_iff.mp hv
  obtain ⟨it, m1, k1, k2, k3, k4, k5, k6⟩ := hi F js env m gg xs h1
  obtain ⟨F1, js1, g1, g2⟩ := (hw xs.2).run k2
  obtain ⟨fl, m', F', q1, q2, q3, q4⟩ := for_core (n := m1.length) hg hb (F0 := F) (gs := it.gs) (.inl fun p hp => ⟨(List.getElem?_eq_some_iff.mp (k4 p hp)).1, k5 p hp⟩) it.ds xs.1 F1 js1 env m1 (t0 xs.2) g1 (Nat.le_refl _) (fun i hi => g2 i hi) gg.2.qp (k3.imp fun _ _ => R.anti fun i hi hp => by
    rcases hp with z | z
    · exact z
    · omega) k4 v h2
  refine ⟨fl, m', F', ?_, q2, Eff.trans (Q := F.Q) (k6.q gg.2.jq) q3 (fun i hi z => (g2 i (Nat.lt_of_lt_of_le hi k6.1)).2 z), fun i hi => ?_⟩
  · simp only [sFor, k1, Out.bind_ok, q1]
  · have h := q4 i (Nat.lt_of_lt_of_le hi k6.1)
    have h' := g2 i (Nat.lt_of_lt_of_le hi k6.1)
    exact ⟨fun z => h'.1 (h.1 z), fun z => h'.2 (h.2 z)⟩
theorem ps_forNX {σ2 : Type} {Γ2 : Ctx σ2} {ρ' τ2 : Type} {I : DI} {G : DG} {Γx : Ctx ρ'} {e : σ2 → α → ρ'} {emb2 : τ2 → σ2} {t0 : τ → τ2} {oi : Option (List α × τ)} {b : τ2 → α → Option τ2} (hi : PIX B Γ s I R oi emb) (hw : ∀ t, Wk Γ (emb t) Γ2 (emb2 (t0 t))) (hg : Tg (el := true) Γ2 R G Γx e) (hb : ∀ t x, PB B Γx (e (emb2 t) x) S (b t x) (eNx B Γ2 emb2))
    {p : Option τ2} (ho : p = oi.bind fun q => forO q.1 (t0 q.2) b := by rfl) : PB B Γ s (sFor I G S) p (eNx B Γ2 emb2) := fun F js env m gg v hv => by
  subst ho
  obtain ⟨xs, h1, h2⟩ := Option.bind_eq_some_iff.mp hv
  have hb' : ∀ t x, PB B Γx (e (emb2 t) x) S ((b t x).bind fun t' => some (Lp.nx (ρ := Empty) t')) (eLp B Γ2 emb2 (fun _ _ _ _ => False)) := fun t x => ps_fin (hb t x) (fun t => accN_lp Wk.id)
  obtain ⟨fl, m', F', k1, k2, k3, k4⟩ := ps_forX hi hw hg hb' rfl F js env m gg (Lp.nx v) (by rw [h1]; simp only [Option.bind_some]; rw [forL_O, h2]; rfl)
  exact ⟨fl, m', F', k1, k2, k3, k4⟩
end
end
end TM

end
section
set_option Elab.async false
set_option linter.all false
set_option maxRecDepth 100000
set_option maxHeartbeats 4000000
set_option autoImplicit false
/-! TM7: what the built-in operators and functions do to typed values. -/
namespace TM
open PySem PySem.Spec L2 DL
section
variable {σ τ α β γ δ ε : Type} {R : Rp α} {S : Rp β} {V : Rp γ} {U : Rp δ} {Z : Rp ε}
/-- values that hold data -/
class Dat {α : Type} (R : Rp α) where
  pdv : α → PyData
  dep : Nat
  ok : ∀ {P : Nat → Prop} {m : Mem} {d : DV} {x : α}, R.r P m d x → ∀ N, dep ≤ N → pd m N d = some (pdv x)
  lay : ∀ {P : Nat → Prop} {m : Mem} {d : DV} {x : α}, R.r P m d x → (pdv x).canLay0 = true ∧ (pdv x).depth ≤ dep
abbrev pdOf {α : Type} (R : Rp α) [i : Dat R] (x : α) : PyData := i.pdv x
instance : Dat RInt := ⟨.int, 0, fun {P m d x} h N _ => by cases (show d = .int x from h); cases N <;> rfl, fun _ => ⟨rfl, Nat.le_refl _⟩⟩
instance : Dat RBl := ⟨.bool, 0, fun {P m d x} h N _ => by cases (show d = .bl x from h); cases N <;> rfl, fun _ => ⟨rfl, Nat.le_refl _⟩⟩
instance : Dat RNon := ⟨fun _ => .none, 0, fun {P m d x} h N _ => by cases (show d = .non from h); cases N <;> rfl, fun _ => ⟨rfl, Nat.le_refl _⟩⟩
instance : Dat RStr := ⟨.str, 0, fun {P m d x} h N _ => by cases h.1; cases N <;> rfl, fun h => ⟨h.2, Nat.le_refl _⟩⟩
instance [i : Dat R] : Dat (ROpt R) := ⟨fun x => match x with | none => .none | some y => i.pdv y, i.dep, fun {P m d x} h N hN => by
    cases x with
    | none => cases (show d = .non from h); cases N <;> rfl
    | some y => exact i.ok (show R.r P m d y from h) N hN, fun {P m d x} h => by
    cases x with
    | none => exact ⟨rfl, Nat.zero_le _⟩
    | some y => exact i.lay (show R.r P m d y from h)⟩
theorem dat_all [i : Dat R] {P : Nat → Prop} {m : Mem} {N : Nat} (hN : i.dep ≤ N) : ∀ {ds : List DV} {xs : List α}, Fa (R.r P m) ds xs → optAll (ds.map (pd m N)) = some (xs.map i.pdv)
  | [], _, .nil => rfl
  | _ :: _, _, .cons p q => by simp only [List.map_cons, i.ok p N hN, optAll, dat_all hN q, Option.map_some]
theorem lay_all [i : Dat R] {P : Nat → Prop} {m : Mem} : ∀ {ds : List DV} {xs : List α}, Fa (R.r P m) ds xs → PyData.canLayAll0 (xs.map i.pdv) = true ∧ PyData.depthAll (xs.map i.pdv) ≤ i.dep
  | [], _, .nil => ⟨rfl, Nat.zero_le _⟩
  | _ :: _, _, .cons p q => by
    have h1 := i.lay p
    have h2 := lay_all q
    exact ⟨by simp only [List.map_cons, PyData.canLayAll0, h1.1, h2.1, Bool.and_true], by simp only [List.map_cons, PyData.depthAll]; omega⟩
instance [i : Dat R] : Dat (RTup R) := ⟨fun xs => .tuple (xs.map i.pdv), i.dep + 1, fun {P m d x} ⟨ds, e, h⟩ N hN => by
    subst e
    cases N with
    | zero => omega
    | succ N => simp only [pd, dat_all (N := N) (by omega) h, Option.map_some], fun ⟨ds, e, h⟩ => by
    have := lay_all h
    exact ⟨by simpa only [PyData.canLay0] using this.1, by simp only [PyData.depth]; omega⟩⟩
instance [i : Dat R] : Dat (RLst R) := ⟨fun xs => .list (xs.map i.pdv), i.dep + 1, fun {P m d x} ⟨k, ds, e, _, hl, h⟩ N hN => by
    subst e
    cases N with
    | zero => omega
    | succ N => simp only [pd, show m[k]? = some (MO.lst ds) from hl, dat_all (N := N) (by omega) h, Option.map_some], fun ⟨k, ds, e, _, hl, h⟩ => by
    have := lay_all h
    exact ⟨by simpa only [PyData.canLay0] using this.1, by simp only [PyData.depth]; omega⟩⟩
theorem pd_up (N : Nat) (hN : 1 ≤ N) : ∃ n, N = n + 1 := ⟨N - 1, by omega⟩
instance [i : Dat R] [j : Dat S] : Dat (RP2 R S) := ⟨fun x => .tuple [i.pdv x.1, j.pdv x.2], max i.dep j.dep + 1, fun {P m d x} ⟨a, b, e, h1, h2⟩ N hN => by
    subst e
    obtain ⟨n, rfl⟩ := pd_up N (by omega)
    simp only [pd, List.map_cons, List.map_nil, i.ok h1 n (by omega), j.ok h2 n (by omega), optAll, Option.map_some], fun ⟨a, b, e, h1, h2⟩ => by
    have g1 := i.lay h1
    have g2 := j.lay h2
    exact ⟨by simp [PyData.canLay0, PyData.canLayAll0, g1.1, g2.1], by simp only [PyData.depth, PyData.depthAll]; omega⟩⟩
instance [i : Dat R] [j : Dat S] [k : Dat V] : Dat (RP3 R S V) := ⟨fun x => .tuple [i.pdv x.1, j.pdv x.2.1, k.pdv x.2.2], max i.dep (max j.dep k.dep) + 1, fun {P m d x} ⟨a, b, c, e, h1, h2, h3⟩ N hN => by
    subst e
    obtain ⟨n, rfl⟩ := pd_up N (by omega)
    simp only [pd, List.map_cons, List.map_nil, i.ok h1 n (by omega), j.ok h2 n (by omega), k.ok h3 n (by omega), optAll, Option.map_some], fun ⟨a, b, c, e, h1, h2, h3⟩ => by
    have g1 := i.lay h1
    have g2 := j.lay h2
    have g3 := k.lay h3
    exact ⟨by simp [PyData.canLay0, PyData.canLayAll0, g1.1, g2.1, g3.1], by simp only [PyData.depth, PyData.depthAll]; omega⟩⟩
instance [i : Dat R] [j : Dat S] [k : Dat V] [l : Dat U] : Dat (RP4 R S V U) := ⟨fun x => .tuple [i.pdv x.1, j.pdv x.2.1, k.pdv x.2.2.1, l.pdv x.2.2.2], max i.dep (max j.dep (max k.dep l.dep)) + 1, fun {P m d x} ⟨a, b, c, f, e, h1, h2, h3, h4⟩ N hN => by
    subst e
    obtain ⟨n, rfl⟩ := pd_up N (by omega)
    simp only [pd, List.map_cons, List.map_nil, i.ok h1 n (by omega), j.ok h2 n (by omega), k.ok h3 n (by omega), l.ok h4 n (by omega), optAll, Option.map_some], fun ⟨a, b, c, f, e, h1, h2, h3, h4⟩ => by
    have g1 := i.lay h1
    have g2 := j.lay h2
    have g3 := k.lay h3
    have g4 := l.lay h4
    exact ⟨by simp [PyData.canLay0, PyData.canLayAll0, g1.1, g2.1, g3.1, g4.1], by simp only [PyData.depth, PyData.depthAll]; omega⟩⟩
instance [i : Dat R] [j : Dat S] [k : Dat V] [l : Dat U] [n : Dat Z] : Dat (RP5 R S V U Z) := ⟨fun x => .tuple [i.pdv x.1, j.pdv x.2.1, k.pdv x.2.2.1, l.pdv x.2.2.2.1, n.pdv x.2.2.2.2], max i.dep (max j.dep (max k.dep (max l.dep n.dep))) + 1, fun {P m d x} ⟨a, b, c, f, g, e, h1, h2, h3, h4, h5⟩ N hN => by
    subst e
    obtain ⟨q, rfl⟩ := pd_up N (by omega)
    simp only [pd, List.map_cons, List.map_nil, i.ok h1 q (by omega), j.ok h2 q (by omega), k.ok h3 q (by omega), l.ok h4 q (by omega), n.ok h5 q (by omega), optAll, Option.map_some], fun ⟨a, b, c, f, g, e, h1, h2, h3, h4, h5⟩ => by
    have g1 := i.lay h1
    have g2 := j.lay h2
    have g3 := k.lay h3
    have g4 := l.lay h4
    have g5 := n.lay h5
    exact ⟨by simp [PyData.canLay0, PyData.canLayAll0, g1.1, g2.1, g3.1, g4.1, g5.1], by simp only [PyData.depth, PyData.depthAll]; omega⟩⟩

/-! ### equality -/
theorem shaped_dat [i : Dat R] {P : Nat → Prop} {m : Mem} {d : DV} {x : α} (r : R.r P m d x) (h : i.dep ≤ 64) : SeqAt.shaped (i.pdv x) = true := by
  have := i.lay r
  unfold SeqAt.shaped
  rw [this.1, Bool.true_and]
  exact decide_eq_true (by omega)
theorem u_eqG [i : Dat R] [j : Dat S] (h1 : i.dep ≤ 60 := by decide) (h2 : j.dep ≤ 60 := by decide) : U2 eqD R S RBl (fun x y => some (PyData.eqv (i.pdv x) (j.pdv y))) := ⟨fun {m d e x y v} r1 r2 hv => by
  cases hv
  refine ⟨.bl _, m, ?_, Grw.refl m, rfl⟩
  unfold eqD
  rw [i.ok r1 64 (by omega), j.ok r2 64 (by omega)]
  simp only [if_pos (And.intro (shaped_dat r1 (by omega)) (shaped_dat r2 (by omega)))]⟩
theorem u_neG [i : Dat R] [j : Dat S] (h1 : i.dep ≤ 60 := by decide) (h2 : j.dep ≤ 60 := by decide) : U2 neD R S RBl (fun x y => some (!PyData.eqv (i.pdv x) (j.pdv y))) := ⟨fun {m d e x y v} r1 r2 hv => by
  cases hv
  refine ⟨.bl _, m, ?_, Grw.refl m, rfl⟩
  unfold neD
  rw [i.ok r1 64 (by omega), j.ok r2 64 (by omega)]
  simp only [if_pos (And.intro (shaped_dat r1 (by omega)) (shaped_dat r2 (by omega)))]⟩
/-- equal data are equal values -/
class DatE {α : Type} (R : Rp α) [i : Dat R] : Prop where
  inj : ∀ x y : α, PyData.eqv (i.pdv x) (i.pdv y) = true ↔ x = y
instance : DatE RInt := ⟨fun x y => by show (x == y) = true ↔ _; simp⟩
instance : DatE RBl := ⟨fun x y => by show (x == y) = true ↔ _; simp⟩
instance : DatE RNon := ⟨fun x y => by simp [Dat.pdv, PyData.eqv]⟩
instance : DatE RStr := ⟨fun x y => by show (x == y) = true ↔ _; simp⟩
theorem eqvAll_iff [i : Dat R] [k : DatE R] : ∀ xs ys : List α, PyData.eqvAll (xs.map i.pdv) (ys.map i.pdv) = true ↔ xs = ys
  | [], [] => by simp [PyData.eqvAll]
  | [], _ :: _ => by simp [PyData.eqvAll]
  | _ :: _, [] => by simp [PyData.eqvAll]
  | x :: xs, y :: ys => by simp only [List.map_cons, PyData.eqvAll, Bool.and_eq_true, k.inj, eqvAll_iff xs ys, List.cons.injEq]
instance [i : Dat R] [k : DatE R] : DatE (RTup R) := ⟨fun x y => by show PyData.eqv (.tuple _) (.tuple _) = true ↔ _; simp only [PyData.eqv]; exact eqvAll_iff x y⟩
instance [i : Dat R] [k : DatE R] : DatE (RLst R) := ⟨fun x y => by show PyData.eqv (.list _) (.list _) = true ↔ _; simp only [PyData.eqv]; exact eqvAll_iff x y⟩
instance [i : Dat R] [j : Dat S] [k : DatE R] [l : DatE S] : DatE (RP2 R S) := ⟨fun x y => by
  show PyData.eqv (.tuple [_, _]) (.tuple [_, _]) = true ↔ _
  simp only [PyData.eqv, PyData.eqvAll, Bool.and_eq_true, k.inj, l.inj, Bool.and_true, Prod.ext_iff, and_true]⟩
instance [i : Dat R] [j : Dat S] [f : Dat V] [k : DatE R] [l : DatE S] [n : DatE V] : DatE (RP3 R S V) := ⟨fun x y => by
  show PyData.eqv (.tuple [_, _, _]) (.tuple [_, _, _]) = true ↔ _
  simp only [PyData.eqv, PyData.eqvAll, Bool.and_eq_true, k.inj, l.inj, n.inj, Bool.and_true, Prod.ext_iff, and_true]⟩
theorem u_eq [i : Dat R] [k : DatE R] [DecidableEq α] (h1 : i.dep ≤ 60 := by decide) : U2 eqD R R RBl (fun x y => some (decide (x = y))) := ⟨fun {m d e x y v} r1 r2 hv => by
  cases hv
  have e : PyData.eqv (i.pdv x) (i.pdv y) = decide (x = y) := by
    rw [Bool.eq_iff_iff, k.inj]; simp
  rw [← e]
  exact (u_eqG h1 h1).run r1 r2 rfl⟩
theorem u_ne [i : Dat R] [k : DatE R] [DecidableEq α] (h1 : i.dep ≤ 60 := by decide) : U2 neD R R RBl (fun x y => some (!decide (x = y))) := ⟨fun {m d e x y v} r1 r2 hv => by
  cases hv
  have e : PyData.eqv (i.pdv x) (i.pdv y) = decide (x = y) := by
    rw [Bool.eq_iff_iff, k.inj]; simp
  rw [← e]
  exact (u_neG h1 h1).run r1 r2 rfl⟩
/-! ### order -/
theorem u_ltI : U2 ltD RInt RInt RBl (fun x y => some (decide (x < y))) := ⟨fun {m d e x y v} r1 r2 hv => by cases hv; cases (show d = .int x from r1); cases (show e = .int y from r2); exact ⟨_, m, rfl, Grw.refl m, rfl⟩⟩
theorem u_gtI : U2 gtD RInt RInt RBl (fun x y => some (decide (y < x))) := ⟨fun {m d e x y v} r1 r2 hv => by cases hv; cases (show d = .int x from r1); cases (show e = .int y from r2); exact ⟨_, m, rfl, Grw.refl m, rfl⟩⟩
theorem u_leI : U2 leD RInt RInt RBl (fun x y => some (decide (x ≤ y))) := ⟨fun {m d e x y v} r1 r2 hv => by cases hv; cases (show d = .int x from r1); cases (show e = .int y from r2); exact ⟨_, m, rfl, Grw.refl m, rfl⟩⟩
theorem u_geI : U2 geD RInt RInt RBl (fun x y => some (decide (y ≤ x))) := ⟨fun {m d e x y v} r1 r2 hv => by cases hv; cases (show d = .int x from r1); cases (show e = .int y from r2); exact ⟨_, m, rfl, Grw.refl m, rfl⟩⟩
/-- data of one form: any two can be put in order -/
class DatO {α : Type} (R : Rp α) [i : Dat R] : Prop where
  alike : ∀ x y : α, PySem.W.alike (i.pdv x) (i.pdv y) = true
  nn : ∀ x : α, pnone (i.pdv x) = false
instance : DatO RInt := ⟨fun _ _ => by simp [Dat.pdv, PySem.W.alike], fun _ => rfl⟩
instance : DatO RStr := ⟨fun _ _ => by simp [Dat.pdv, PySem.W.alike], fun _ => rfl⟩
theorem alike_all [i : Dat R] [k : DatO R] : ∀ xs ys : List α, PySem.W.alikeAll (xs.map i.pdv) (ys.map i.pdv) = true
  | [], _ => by simp [PySem.W.alikeAll]
  | _ :: _, [] => by simp [PySem.W.alikeAll]
  | x :: xs, y :: ys => by simp only [List.map_cons, PySem.W.alikeAll, k.alike, alike_all xs ys, Bool.and_self]
instance [i : Dat R] [k : DatO R] : DatO (RTup R) := ⟨fun x y => by show PySem.W.alike (.tuple _) (.tuple _) = true; simp only [PySem.W.alike]; exact alike_all x y, fun _ => rfl⟩
instance [i : Dat R] [k : DatO R] : DatO (RLst R) := ⟨fun x y => by show PySem.W.alike (.list _) (.list _) = true; simp only [PySem.W.alike]; exact alike_all x y, fun _ => rfl⟩
instance [i : Dat R] [j : Dat S] [k : DatO R] [l : DatO S] : DatO (RP2 R S) := ⟨fun x y => by show PySem.W.alike (.tuple [_, _]) (.tuple [_, _]) = true; simp [PySem.W.alike, PySem.W.alikeAll, k.alike, l.alike], fun _ => rfl⟩
instance [i : Dat R] [j : Dat S] [f : Dat V] [k : DatO R] [l : DatO S] [n : DatO V] : DatO (RP3 R S V) := ⟨fun x y => by show PySem.W.alike (.tuple [_, _, _]) (.tuple [_, _, _]) = true; simp [PySem.W.alike, PySem.W.alikeAll, k.alike, l.alike, n.alike], fun _ => rfl⟩
instance [i : Dat R] [j : Dat S] [f : Dat V] [g : Dat U] [k : DatO R] [l : DatO S] [n : DatO V] [q : DatO U] : DatO (RP4 R S V U) := ⟨fun x y => by show PySem.W.alike (.tuple [_, _, _, _]) (.tuple [_, _, _, _]) = true; simp [PySem.W.alike, PySem.W.alikeAll, k.alike, l.alike, n.alike, q.alike], fun _ => rfl⟩
def dlt {α : Type} (R : Rp α) [i : Dat R] (x y : α) : Bool := PySem.W.dataLt (i.pdv x) (i.pdv y)
theorem dlt_int (x y : Int) : dlt RInt x y = decide (x < y) := PySem.W.dataLt_int x y
theorem ord_run [i : Dat R] [k : DatO R] (h1 : i.dep ≤ 60) {g : Int → Int → Bool} {f : PyData → PyData → Bool} (hg : ∀ a b, f (.int a) (.int b) = g a b) {m : Mem} {P P' : Nat → Prop} {d e : DV} {x y : α} (r1 : R.r P m d x) (r2 : R.r P' m e y) : ordD g f d e m = .ok (.bl (f (i.pdv x) (i.pdv y))) m := by
  by_cases hi : ∃ a b, d = .int a ∧ e = .int b
  · obtain ⟨a, b, rfl, rfl⟩ := hi
    have e1 := i.ok r1 64 (by omega)
    have e2 := i.ok r2 64 (by omega)
    have e1' : PyData.int a = i.pdv x := by simpa [pd] using e1
    have e2' : PyData.int b = i.pdv y := by simpa [pd] using e2
    rw [← e1', ← e2', hg]
    rfl
  · unfold ordD
    split
    · exact absurd ⟨_, _, rfl, rfl⟩ hi
    · rw [i.ok r1 64 (by omega), i.ok r2 64 (by omega)]
      have := (i.lay r1).2
      simp only [if_pos (And.intro (k.alike x y) (And.intro (k.nn x) (show (i.pdv x).depth ≤ 64 by omega)))]
theorem u_lt [i : Dat R] [k : DatO R] (h1 : i.dep ≤ 60 := by decide) : U2 ltD R R RBl (fun x y => some (dlt R x y)) := ⟨fun {m d e x y v} r1 r2 hv => by cases hv; exact ⟨_, m, ord_run h1 PySem.W.dataLt_int r1 r2, Grw.refl m, rfl⟩⟩
theorem u_gt [i : Dat R] [k : DatO R] (h1 : i.dep ≤ 60 := by decide) : U2 gtD R R RBl (fun x y => some (dlt R y x)) := ⟨fun {m d e x y v} r1 r2 hv => by cases hv; exact ⟨_, m, ord_run h1 (fun a b => PySem.W.dataLt_int b a) r1 r2, Grw.refl m, rfl⟩⟩
theorem nlt_int (a b : Int) : (!PySem.W.dataLt (.int b) (.int a)) = decide (a ≤ b) := by rw [PySem.W.dataLt_int]; by_cases h : b < a <;> simp [h] <;> omega
theorem u_le [i : Dat R] [k : DatO R] (h1 : i.dep ≤ 60 := by decide) : U2 leD R R RBl (fun x y => some (!dlt R y x)) := ⟨fun {m d e x y v} r1 r2 hv => by cases hv; exact ⟨_, m, ord_run h1 (fun a b => nlt_int a b) r1 r2, Grw.refl m, rfl⟩⟩
theorem u_ge [i : Dat R] [k : DatO R] (h1 : i.dep ≤ 60 := by decide) : U2 geD R R RBl (fun x y => some (!dlt R x y)) := ⟨fun {m d e x y v} r1 r2 hv => by cases hv; exact ⟨_, m, ord_run h1 (fun a b => nlt_int b a) r1 r2, Grw.refl m, rfl⟩⟩
/-! ### arithmetic -/
theorem u_add : U2 addD RInt RInt RInt (fun x y => some (x + y)) := ⟨fun {m d e x y v} r1 r2 hv => by cases hv; cases (show d = .int x from r1); cases (show e = .int y from r2); exact ⟨_, m, rfl, Grw.refl m, rfl⟩⟩
theorem u_iadd : U2 iAdd RInt RInt RInt (fun x y => some (x + y)) := ⟨fun {m d e x y v} r1 r2 hv => by cases hv; cases (show d = .int x from r1); cases (show e = .int y from r2); exact ⟨_, m, rfl, Grw.refl m, rfl⟩⟩
theorem u_sub : U2 iSub RInt RInt RInt (fun x y => some (x - y)) := ⟨fun {m d e x y v} r1 r2 hv => by cases hv; cases (show d = .int x from r1); cases (show e = .int y from r2); exact ⟨_, m, rfl, Grw.refl m, rfl⟩⟩
@[irreducible] def mulO (x y : Int) : Option Int := if (-1000000000000 < x ∧ x < 1000000000000) ∨ (-1000000000000 < y ∧ y < 1000000000000) then some (x * y) else none
theorem u_mul : U2 iMul RInt RInt RInt mulO := ⟨fun {m d e x y v} r1 r2 hv => by
  cases (show d = .int x from r1); cases (show e = .int y from r2)
  unfold mulO at hv
  split at hv
  · rename_i h
    cases hv
    refine ⟨.int (x * y), m, ?_, Grw.refl m, rfl⟩
    have hc : CMul x y := by
      have e64 : (2 : Int) ^ 64 = 18446744073709551616 := by decide
      unfold CMul
      rw [e64]
      omega
    show (if CMul x y then Out.ok (DV.int (x * y)) m else .bad) = _
    rw [if_pos hc]
  · cases hv⟩
@[irreducible] def fdivO (x y : Int) : Option Int := if 0 < y ∧ y < 1073741824 then some (x / y) else none
theorem u_fdiv : U2 iFdiv RInt RInt RInt fdivO := ⟨fun {m d e x y v} r1 r2 hv => by
  cases (show d = .int x from r1); cases (show e = .int y from r2)
  unfold fdivO at hv
  split at hv
  · rename_i h
    cases hv
    refine ⟨.int (x / y), m, ?_, Grw.refl m, rfl⟩
    show (if CDiv x y then Out.ok (DV.int (x / y)) m else .bad) = _
    rw [if_pos (show CDiv x y from h)]
  · cases hv⟩
@[irreducible] def modO (x y : Int) : Option Int := if 0 < y then some (x % y) else none
theorem u_mod : U2 iMod RInt RInt RInt modO := ⟨fun {m d e x y v} r1 r2 hv => by
  cases (show d = .int x from r1); cases (show e = .int y from r2)
  unfold modO at hv
  split at hv
  · rename_i h
    cases hv
    refine ⟨.int (x % y), m, ?_, Grw.refl m, rfl⟩
    show (if 0 < y then Out.ok (DV.int (x % y)) m else .bad) = _
    rw [if_pos h]
  · cases hv⟩
theorem u_neg : U1 negD RInt RInt (fun x => some (-x)) := ⟨fun {m d x v} r hv => by cases hv; cases (show d = .int x from r); exact ⟨_, m, rfl, Grw.refl m, rfl⟩⟩
theorem u_int : U1 intD RInt RInt some := ⟨fun {m d x v} r hv => by cases hv; cases (show d = .int x from r); exact ⟨_, m, rfl, Grw.refl m, rfl⟩⟩
theorem u_max2 : U2 max2D RInt RInt RInt (fun x y => some (max x y)) := ⟨fun {m d e x y v} r1 r2 hv => by cases hv; cases (show d = .int x from r1); cases (show e = .int y from r2); exact ⟨_, m, rfl, Grw.refl m, rfl⟩⟩
theorem u_min2 : U2 min2D RInt RInt RInt (fun x y => some (min x y)) := ⟨fun {m d e x y v} r1 r2 hv => by cases hv; cases (show d = .int x from r1); cases (show e = .int y from r2); exact ⟨_, m, rfl, Grw.refl m, rfl⟩⟩
/-! ### texts -/
theorem strG_iff (z : Str) : strG z ↔ ∀ c ∈ z.cps.toList, c < 0x110000 := by
  unfold strG PyData.canLay0 PyData.strOk
  rw [Array.all_eq_true']
  simp
theorem strG_app {a b : Str} (ha : strG a) (hb : strG b) : strG (a ++ b) := by
  rw [strG_iff] at *
  intro c hc
  have e : (a ++ b).cps.toList = a.cps.toList ++ b.cps.toList := by show (a.cps ++ b.cps).toList = _; simp
  rw [e] at hc
  rcases List.mem_append.mp hc with h | h
  · exact ha c h
  · exact hb c h
theorem strG_int (i : Int) : strG (toString i : String) := by
  rw [strG_iff]
  intro c hc
  rw [Str.ofString_eq_toList] at hc
  simp only [List.mem_map] at hc
  obtain ⟨ch, _, rfl⟩ := hc
  have := ch.valid
  unfold UInt32.isValidChar Nat.isValidChar at this
  show ch.val.toNat < _
  omega
theorem u_cat : U2 addD RStr RStr RStr (fun x y => (szO (x.length + y.length)).bind fun _ => some (x ++ y)) := ⟨fun {m d e x y v} r1 r2 hv => by
  obtain ⟨_, h1, h2⟩ := Option.bind_eq_some_iff.mp hv
  cases h2
  cases r1.1; cases r2.1
  refine ⟨.str (x ++ y), m, ?_, Grw.refl m, rfl, strG_app r1.2 r2.2⟩
  show (if x.length + y.length ≤ 16777216 then Out.ok (DV.str (x ++ y)) m else .bad) = _
  rw [if_pos (szO_iff.mp h1)]⟩
@[irreducible] def strO (i : Int) : Option Str := if -1000000000 ≤ i ∧ i ≤ 1000000000 then some (toString i : String) else none
theorem u_str : U1 strD RInt RStr strO := ⟨fun {m d x v} r hv => by
  cases (show d = .int x from r)
  unfold strO at hv
  split at hv
  · rename_i h
    cases hv
    refine ⟨.str (toString x : String), m, ?_, Grw.refl m, rfl, strG_int x⟩
    have : x.natAbs.log2 < 1920 := by
      by_cases h0 : x.natAbs = 0
      · rw [h0]; decide
      · refine (Nat.log2_lt h0).mpr ?_
        refine Nat.lt_of_lt_of_le (show x.natAbs < 2 ^ 30 by omega) ?_
        exact Nat.pow_le_pow_right (by omega) (by omega)
    show (if x.natAbs.log2 < 1920 then Out.ok (DV.str (toString x)) m else .bad) = _
    rw [if_pos this]
  · cases hv⟩
/-! ### sequences -/
theorem fl_len {ds : List DV} {xs : List α} {P : Nat → Prop} {m : Mem} (h : Fa (R.r P m) ds xs) : ds.length = xs.length := h.len
theorem f_lenT : Fun fLen (RaC (RTup R) RaN) RInt (fun x => some (x.1.length : Int)) := ⟨fun {P m ds x v} hP ⟨d, es, e, ⟨l, e1, h1⟩, h2⟩ hv => by
  cases (show es = [] from h2); subst e e1; cases hv
  exact ⟨_, m, rfl, Grw.refl m, by show DV.int _ = DV.int _; rw [h1.len]⟩⟩
theorem f_lenL : Fun fLen (RaC (RLst R) RaN) RInt (fun x => some (x.1.length : Int)) := ⟨fun {P m ds x v} hP ⟨d, es, e, ⟨k, l, e1, _, hl, h1⟩, h2⟩ hv => by
  cases (show es = [] from h2); subst e e1; cases hv
  exact ⟨_, m, fLen_ref hl, Grw.refl m, by show DV.int _ = DV.int _; rw [h1.len]⟩⟩
theorem f_lenS : Fun fLen (RaC RStr RaN) RInt (fun x => (szO x.1.length).bind fun _ => some (x.1.length : Int)) := ⟨fun {P m ds x v} hP ⟨d, es, e, h1, h2⟩ hv => by
  cases (show es = [] from h2); subst e; cases h1.1
  obtain ⟨_, g1, g2⟩ := Option.bind_eq_some_iff.mp hv
  cases g2
  refine ⟨.int x.1.length, m, ?_, Grw.refl m, rfl⟩
  show (if x.1.length ≤ 16777216 then Out.ok (DV.int x.1.length) m else .bad) = _
  rw [if_pos (szO_iff.mp g1)]⟩
theorem u_tupL [i : Flat R] : U1 tupD (RLst R) (RTup R) some := ⟨fun {m d x v} ⟨k, l, e1, _, hl, h1⟩ hv => by subst e1; cases hv; exact ⟨.tup l, m, tupD_at hl, Grw.refl m, l, rfl, h1.imp fun _ _ => i.flat⟩⟩
theorem u_tupT [i : Flat R] : U1 tupD (RTup R) (RTup R) some := ⟨fun {m d x v} ⟨l, e1, h1⟩ hv => by subst e1; cases hv; exact ⟨.tup l, m, rfl, Grw.refl m, l, rfl, h1.imp fun _ _ => i.flat⟩⟩
theorem new_lst [i : Flat R] {P : Nat → Prop} {m m1 : Mem} {l : List DV} {x : List α} (h1 : Fa (R.r P m1) l x) : (RLst R).r (fun i => i < m.length) (m ++ [.lst l]) (.ref m.length) x := ⟨m.length, l, rfl, Nat.lt_irrefl _, by simp [isL], h1.imp fun _ _ => i.flat⟩
theorem u_lstL [i : Flat R] : U1 listD (RLst R) (RLst R) some := ⟨fun {m d x v} ⟨k, l, e1, _, hl, h1⟩ hv => by
  subst e1; cases hv
  exact ⟨.ref m.length, m ++ [.lst l], by simp only [listD, seqOf, show m[k]? = some (MO.lst l) from hl], Grw.app _ _, new_lst h1⟩⟩
theorem u_lstT [i : Flat R] : U1 listD (RTup R) (RLst R) some := ⟨fun {m d x v} ⟨l, e1, h1⟩ hv => by
  subst e1; cases hv
  exact ⟨.ref m.length, m ++ [.lst l], rfl, Grw.app _ _, new_lst h1⟩⟩
theorem u_revL [i : Flat R] : U1 revD (RLst R) (RTup R) (fun xs => some xs.reverse) := ⟨fun {m d x v} ⟨k, l, e1, _, hl, h1⟩ hv => by
  subst e1; cases hv
  exact ⟨.tup l.reverse, m, by simp only [revD, lstOf, show m[k]? = some (MO.lst l) from hl], Grw.refl m, l.reverse, rfl, (h1.imp fun _ _ => i.flat).rev⟩⟩
theorem fa_ints {P : Nat → Prop} {m : Mem} : ∀ {ds : List DV} {xs : List Int}, Fa (RInt.r P m) ds xs → ds = xs.map .int
  | [], _, .nil => rfl
  | _ :: _, _, .cons p q => by rw [List.map_cons, ← fa_ints q]; cases p; rfl
theorem fa_bls {P : Nat → Prop} {m : Mem} : ∀ {ds : List DV} {xs : List Bool}, Fa (RBl.r P m) ds xs → ds = xs.map .bl
  | [], _, .nil => rfl
  | _ :: _, _, .cons p q => by rw [List.map_cons, ← fa_bls q]; cases p; rfl
theorem u_sumL : U1 sumD (RLst RInt) RInt (fun xs => some xs.sum) := ⟨fun {m d x v} ⟨k, l, e1, _, hl, h1⟩ hv => by subst e1; cases hv; cases fa_ints h1; exact ⟨_, m, sumD_at hl, Grw.refl m, rfl⟩⟩
theorem u_sumT : U1 sumD (RTup RInt) RInt (fun xs => some xs.sum) := ⟨fun {m d x v} ⟨l, e1, h1⟩ hv => by subst e1; cases hv; cases fa_ints h1; exact ⟨_, m, sumD_tup, Grw.refl m, rfl⟩⟩
theorem u_all : U1 allD (RLst RBl) RBl (fun xs => some (xs.all id)) := ⟨fun {m d x v} ⟨k, l, e1, _, hl, h1⟩ hv => by subst e1; cases hv; cases fa_bls h1; exact ⟨_, m, allD_at hl, Grw.refl m, rfl⟩⟩
theorem u_any : U1 anyD (RLst RBl) RBl (fun xs => some (xs.any id)) := ⟨fun {m d x v} ⟨k, l, e1, _, hl, h1⟩ hv => by subst e1; cases hv; cases fa_bls h1; exact ⟨_, m, anyD_at hl, Grw.refl m, rfl⟩⟩
/-- an item by its place -/
@[irreducible] def atO {α : Type} (xs : List α) (i : Int) : Option α := atI xs i
theorem fa_at {P : Nat → Prop} {m : Mem} {ds : List DV} {xs : List α} (h : Fa (R.r P m) ds xs) {i : Int} {x : α} (e : atO xs i = some x) : ∃ d, atI ds i = some d ∧ R.r P m d x := by
  unfold atO atI at e
  unfold atI
  rw [h.len]
  obtain ⟨j, h1, h2⟩ := Option.bind_eq_some_iff.mp e
  obtain ⟨d, g1, g2⟩ := h.get h2
  exact ⟨d, by rw [h1]; exact g1, g2⟩
theorem u_ixT [i : Flat R] : U2 ixD (RTup R) RInt R atO := ⟨fun {m d e x y v} ⟨l, e1, h1⟩ r2 hv => by
  subst e1; cases (show e = .int y from r2)
  obtain ⟨d, g1, g2⟩ := fa_at h1 hv
  exact ⟨d, m, by rw [ixD_tup, g1], Grw.refl m, i.flat g2⟩⟩
theorem u_ixL [i : Flat R] : U2 ixD (RLst R) RInt R atO := ⟨fun {m d e x y v} ⟨k, l, e1, _, hl, h1⟩ r2 hv => by
  subst e1; cases (show e = .int y from r2)
  obtain ⟨d, g1, g2⟩ := fa_at h1 hv
  exact ⟨d, m, by rw [ixD_ref hl, g1], Grw.refl m, i.flat g2⟩⟩
/-- a part of a tuple of a written form -/
structure Prj (R : Rp α) (k : Int) (S : Rp β) (p : α → β) : Prop where
  run : ∀ {P : Nat → Prop} {m : Mem} {d : DV} {x : α}, R.r P m d x → ∃ e, ixD d (.int k) m = .ok e m ∧ S.r P m e (p x)
theorem j20 : Prj (RP2 R S) 0 R Prod.fst := ⟨fun ⟨a, b, e, h1, h2⟩ => by subst e; exact ⟨a, by simp, h1⟩⟩
theorem j21 : Prj (RP2 R S) 1 S Prod.snd := ⟨fun ⟨a, b, e, h1, h2⟩ => by subst e; exact ⟨b, by simp, h2⟩⟩
theorem j30 : Prj (RP3 R S V) 0 R Prod.fst := ⟨fun ⟨a, b, c, e, h1, h2, h3⟩ => by subst e; exact ⟨a, by simp, h1⟩⟩
theorem j31 : Prj (RP3 R S V) 1 S (fun x => x.2.1) := ⟨fun ⟨a, b, c, e, h1, h2, h3⟩ => by subst e; exact ⟨b, by simp, h2⟩⟩
theorem j32 : Prj (RP3 R S V) 2 V (fun x => x.2.2) := ⟨fun ⟨a, b, c, e, h1, h2, h3⟩ => by subst e; exact ⟨c, by simp, h3⟩⟩
theorem j40 : Prj (RP4 R S V U) 0 R Prod.fst := ⟨fun ⟨a, b, c, f, e, h1, h2, h3, h4⟩ => by subst e; exact ⟨a, by simp, h1⟩⟩
theorem j41 : Prj (RP4 R S V U) 1 S (fun x => x.2.1) := ⟨fun ⟨a, b, c, f, e, h1, h2, h3, h4⟩ => by subst e; exact ⟨b, by simp, h2⟩⟩
theorem j42 : Prj (RP4 R S V U) 2 V (fun x => x.2.2.1) := ⟨fun ⟨a, b, c, f, e, h1, h2, h3, h4⟩ => by subst e; exact ⟨c, by simp, h3⟩⟩
theorem j43 : Prj (RP4 R S V U) 3 U (fun x => x.2.2.2) := ⟨fun ⟨a, b, c, f, e, h1, h2, h3, h4⟩ => by subst e; exact ⟨f, by simp, h4⟩⟩
theorem j50 : Prj (RP5 R S V U Z) 0 R Prod.fst := ⟨fun ⟨a, b, c, f, g, e, h1, h2, h3, h4, h5⟩ => by subst e; exact ⟨a, by simp, h1⟩⟩
theorem j51 : Prj (RP5 R S V U Z) 1 S (fun x => x.2.1) := ⟨fun ⟨a, b, c, f, g, e, h1, h2, h3, h4, h5⟩ => by subst e; exact ⟨b, by simp, h2⟩⟩
theorem j52 : Prj (RP5 R S V U Z) 2 V (fun x => x.2.2.1) := ⟨fun ⟨a, b, c, f, g, e, h1, h2, h3, h4, h5⟩ => by subst e; exact ⟨c, by simp, h3⟩⟩
theorem j53 : Prj (RP5 R S V U Z) 3 U (fun x => x.2.2.2.1) := ⟨fun ⟨a, b, c, f, g, e, h1, h2, h3, h4, h5⟩ => by subst e; exact ⟨f, by simp, h4⟩⟩
theorem j54 : Prj (RP5 R S V U Z) 4 Z (fun x => x.2.2.2.2) := ⟨fun ⟨a, b, c, f, g, e, h1, h2, h3, h4, h5⟩ => by
  subst e
  refine ⟨g, ?_, h5⟩
  simp only [ixD_tup]
  rw [show (4 : Int) = ((4 : Nat) : Int) from rfl, DL.atI_nat]
  rfl⟩
theorem pe_prj {B : Bs} {Γ : Ctx σ} {s : σ} {A : DE} {w : Lv} {o : Option α} {k : Int} {p : α → β} (j : Prj R k S p) (h : PE B Γ s A w R o) {q : Option β} (e : q = o.bind fun x => some (p x) := by rfl) : PE B Γ s (eBin ixD A (eC (.int k))) w S q := fun F js env m gg v hv => by
  subst e
  obtain ⟨x, h1, h2⟩ := Option.bind_eq_some_iff.mp hv
  cases h2
  obtain ⟨d, m1, l1, l2, l3⟩ := h F js env m gg x h1
  obtain ⟨e, g1, g2⟩ := j.run l3
  exact ⟨e, m1, by simp only [eBin, l1, Out.bind_ok, eC, g1], l2, g2⟩
theorem px_prj {B : Bs} {Γ : Ctx σ} {s : σ} {A : DE} {emb : τ → σ} {o : Option (α × τ)} {k : Int} {p : α → β} (j : Prj R k S p) (h : PX B Γ s A R o emb) {q : Option (β × τ)} (e : q = o.bind fun x => some (p x.1, x.2) := by rfl) : PX B Γ s (eBin ixD A (eC (.int k))) S q emb := fun F js env m gg v hv => by
  subst e
  obtain ⟨x, h1, h2⟩ := Option.bind_eq_some_iff.mp hv
  cases h2
  obtain ⟨d, m1, l1, l2, l3, l4⟩ := h F js env m gg x h1
  obtain ⟨e, g1, g2⟩ := j.run l3
  exact ⟨e, m1, by simp only [eBin, l1, Out.bind_ok, eC, g1], l2, g2, l4⟩
theorem u_catT [i : Flat R] : U2 addD (RTup R) (RTup R) (RTup R) (fun x y => (szO (x.length + y.length)).bind fun _ => some (x ++ y)) := ⟨fun {m d e x y v} ⟨l, e1, h1⟩ ⟨l2, e2, h2⟩ hv => by
  obtain ⟨_, g1, g2⟩ := Option.bind_eq_some_iff.mp hv
  cases g2; subst e1 e2
  refine ⟨.tup (l ++ l2), m, ?_, Grw.refl m, l ++ l2, rfl, Fa.app (h1.imp fun _ _ => i.flat) (h2.imp fun _ _ => i.flat)⟩
  show (if l.length + l2.length ≤ 16777216 then Out.ok (DV.tup (l ++ l2)) m else .bad) = _
  rw [if_pos (by rw [h1.len, h2.len]; exact szO_iff.mp g1)]⟩
theorem u_catL [i : Flat R] : U2 addD (RLst R) (RLst R) (RLst R) (fun x y => (szO (x.length + y.length)).bind fun _ => some (x ++ y)) := ⟨fun {m d e x y v} ⟨k, l, e1, _, hl, h1⟩ ⟨k2, l2, e2, _, hl2, h2⟩ hv => by
  obtain ⟨_, g1, g2⟩ := Option.bind_eq_some_iff.mp hv
  cases g2; subst e1 e2
  refine ⟨.ref m.length, m ++ [.lst (l ++ l2)], ?_, Grw.app _ _, new_lst (P := fun _ => False) (m1 := m) (Fa.app h1 h2)⟩
  simp only [addD, show m[k]? = some (MO.lst l) from hl, show m[k2]? = some (MO.lst l2) from hl2]
  rw [if_pos (by rw [h1.len, h2.len]; exact szO_iff.mp g1)]⟩
/-! ### truth -/
theorem tr_bl : Tru RBl some := ⟨fun {m d x v} r hv => by cases hv; cases (show d = .bl x from r); rfl⟩
theorem tr_int : Tru RInt (fun x => some (x != 0)) := ⟨fun {m d x v} r hv => by cases hv; cases (show d = .int x from r); rfl⟩
theorem fa_emp {P : Nat → Prop} {m : Mem} {ds : List DV} {xs : List α} (h : Fa (R.r P m) ds xs) : ds.isEmpty = xs.isEmpty := by cases h <;> rfl
theorem tr_tup : Tru (RTup R) (fun x => some (!x.isEmpty)) := ⟨fun {m d x v} ⟨l, e1, h1⟩ hv => by cases hv; subst e1; show Out.ok (!l.isEmpty) m = _; rw [fa_emp h1]⟩
theorem tr_lst : Tru (RLst R) (fun x => some (!x.isEmpty)) := ⟨fun {m d x v} ⟨k, l, e1, _, hl, h1⟩ hv => by cases hv; subst e1; simp only [truD, show m[k]? = some (MO.lst l) from hl]; rw [fa_emp h1]⟩
/-! ### None -/
class NoN {α : Type} (R : Rp α) : Prop where
  nn : ∀ {P : Nat → Prop} {m : Mem} {x : α}, ¬ R.r P m .non x
instance : NoN RInt := ⟨fun h => by cases h⟩
instance : NoN RBl := ⟨fun h => by cases h⟩
instance : NoN RStr := ⟨fun h => by cases h.1⟩
instance : NoN (RTup R) := ⟨fun ⟨_, e, _⟩ => by cases e⟩
instance : NoN (RP2 R S) := ⟨fun ⟨_, _, e, _⟩ => by cases e⟩
instance : NoN (RP3 R S V) := ⟨fun ⟨_, _, _, e, _⟩ => by cases e⟩
theorem isN_of {d : DV} (m : Mem) (h : d ≠ .non) : isN d m = .ok (.bl false) m := by cases d <;> first | rfl | exact absurd rfl h
theorem notN_of {d : DV} (m : Mem) (h : d ≠ .non) : notN d m = .ok (.bl true) m := by cases d <;> first | rfl | exact absurd rfl h
theorem u_isN [i : NoN R] : U1 isN (ROpt R) RBl (fun x => some x.isNone) := ⟨fun {m d x v} r hv => by
  cases hv
  cases x with
  | none => cases (show d = .non from r); exact ⟨_, m, rfl, Grw.refl m, rfl⟩
  | some y => exact ⟨_, m, isN_of m fun e => i.nn (P := fun _ => False) (m := m) (x := y) (e ▸ (show R.r _ m d y from r)), Grw.refl m, rfl⟩⟩
theorem u_notN [i : NoN R] : U1 notN (ROpt R) RBl (fun x => some x.isSome) := ⟨fun {m d x v} r hv => by
  cases hv
  cases x with
  | none => cases (show d = .non from r); exact ⟨_, m, rfl, Grw.refl m, rfl⟩
  | some y => exact ⟨_, m, notN_of m fun e => i.nn (P := fun _ => False) (m := m) (x := y) (e ▸ (show R.r _ m d y from r)), Grw.refl m, rfl⟩⟩
theorem u_isB (k : Bool) : U1 (isBD k) RBl RBl (fun x => some (decide (x = k))) := ⟨fun {m d x v} r hv => by cases hv; cases (show d = .bl x from r); exact ⟨_, m, rfl, Grw.refl m, rfl⟩⟩
theorem u_notB (k : Bool) : U1 (notBD k) RBl RBl (fun x => some (!decide (x = k))) := ⟨fun {m d x v} r hv => by cases hv; cases (show d = .bl x from r); exact ⟨_, m, rfl, Grw.refl m, rfl⟩⟩
/-! ### in -/
theorem u_inG [i : Dat R] [j : Dat S] (h1 : i.dep ≤ 58 := by decide) (h2 : j.dep ≤ 58 := by decide) : U2 inD R (RLst S) RBl (fun x ys => some (ys.any fun y => PyData.eqv (j.pdv y) (i.pdv x))) := ⟨fun {m d e x y v} r1 r2 hv => by
  cases hv
  have e2 := (inferInstance : Dat (RLst S)).ok r2 60 (by show j.dep + 1 ≤ 60; omega)
  have s2 := shaped_dat (R := RLst S) r2 (by show j.dep + 1 ≤ 64; omega)
  obtain ⟨k, l, rfl, _, hl, h3⟩ := r2
  refine ⟨.bl (y.any fun y => PyData.eqv (j.pdv y) (i.pdv x)), m, ?_, Grw.refl m, rfl⟩
  unfold inD inB
  rw [i.ok r1 60 (by omega), e2]
  simp only [lstOf, show m[k]? = some (MO.lst l) from hl]
  show (if SeqAt.shaped (i.pdv x) = true ∧ SeqAt.shaped (PyData.list (y.map j.pdv)) = true then _ else _) = _
  rw [if_pos ⟨shaped_dat r1 (by omega), s2⟩]
  simp [List.any_map, Function.comp_def]⟩
theorem u_ninG [i : Dat R] [j : Dat S] (h1 : i.dep ≤ 58 := by decide) (h2 : j.dep ≤ 58 := by decide) : U2 notInD R (RLst S) RBl (fun x ys => some (!ys.any fun y => PyData.eqv (j.pdv y) (i.pdv x))) := ⟨fun {m d e x y v} r1 r2 hv => by
  cases hv
  have e2 := (inferInstance : Dat (RLst S)).ok r2 60 (by show j.dep + 1 ≤ 60; omega)
  have s2 := shaped_dat (R := RLst S) r2 (by show j.dep + 1 ≤ 64; omega)
  obtain ⟨k, l, rfl, _, hl, h3⟩ := r2
  refine ⟨.bl (!y.any fun y => PyData.eqv (j.pdv y) (i.pdv x)), m, ?_, Grw.refl m, rfl⟩
  unfold notInD inB
  rw [i.ok r1 60 (by omega), e2]
  simp only [lstOf, show m[k]? = some (MO.lst l) from hl]
  show (if SeqAt.shaped (i.pdv x) = true ∧ SeqAt.shaped (PyData.list (y.map j.pdv)) = true then _ else _) = _
  rw [if_pos ⟨shaped_dat r1 (by omega), s2⟩]
  simp [List.any_map, Function.comp_def]⟩
def memB {α : Type} [DecidableEq α] (x : α) (ys : List α) : Bool := decide (x ∈ ys)
theorem any_eq [i : Dat R] [k : DatE R] [DecidableEq α] (x : α) (ys : List α) : (ys.any fun y => PyData.eqv (i.pdv y) (i.pdv x)) = memB x ys := by
  unfold memB
  rw [Bool.eq_iff_iff, List.any_eq_true]
  simp only [k.inj, decide_eq_true_eq]
  exact ⟨fun ⟨y, h, e⟩ => e ▸ h, fun h => ⟨x, h, rfl⟩⟩
theorem u_in [i : Dat R] [k : DatE R] [DecidableEq α] (h1 : i.dep ≤ 58 := by decide) : U2 inD R (RLst R) RBl (fun x ys => some (memB x ys)) := ⟨fun {m d e x y v} r1 r2 hv => by
  cases hv
  rw [← any_eq (R := R)]
  exact (u_inG h1 h1).run r1 r2 rfl⟩
theorem u_nin [i : Dat R] [k : DatE R] [DecidableEq α] (h1 : i.dep ≤ 58 := by decide) : U2 notInD R (RLst R) RBl (fun x ys => some (!memB x ys)) := ⟨fun {m d e x y v} r1 r2 hv => by
  cases hv
  rw [← any_eq (R := R)]
  exact (u_ninG h1 h1).run r1 r2 rfl⟩
/-! ### least, greatest of a list -/
theorem ofD_flat [i : Dat R] [f : Flat R] (h1 : i.dep ≤ 50) {P : Nat → Prop} {m : Mem} {d : DV} {x : α} (r : R.r P m d x) : ofD (i.pdv x) = d := ofD_of 50 d _ (f.low r) (i.ok r 50 h1)
def minO {α : Type} (R : Rp α) [i : Dat R] : List α → Option α
  | [] => none
  | x :: xs => some (xs.foldl (fun a y => if dlt R y a then y else a) x)
def maxO {α : Type} (R : Rp α) [i : Dat R] : List α → Option α
  | [] => none
  | x :: xs => some (xs.foldl (fun a y => if dlt R a y then y else a) x)
theorem minD_map [i : Dat R] : ∀ (xs : List α) (x : α), PySem.W.minD (i.pdv x) (xs.map i.pdv) = i.pdv (xs.foldl (fun a y => if dlt R y a then y else a) x)
  | [], x => rfl
  | y :: ys, x => by
    show PySem.W.minD (if PySem.W.dataLt (i.pdv y) (i.pdv x) then i.pdv y else i.pdv x) (ys.map i.pdv) = _
    rw [show (if PySem.W.dataLt (i.pdv y) (i.pdv x) then i.pdv y else i.pdv x) = i.pdv (if dlt R y x then y else x) by unfold dlt; split <;> rfl, minD_map ys]
    rfl
theorem maxD_map [i : Dat R] : ∀ (xs : List α) (x : α), PySem.W.maxD (i.pdv x) (xs.map i.pdv) = i.pdv (xs.foldl (fun a y => if dlt R a y then y else a) x)
  | [], x => rfl
  | y :: ys, x => by
    show PySem.W.maxD (if PySem.W.dataLt (i.pdv x) (i.pdv y) then i.pdv y else i.pdv x) (ys.map i.pdv) = _
    rw [show (if PySem.W.dataLt (i.pdv x) (i.pdv y) then i.pdv y else i.pdv x) = i.pdv (if dlt R x y then y else x) by unfold dlt; split <;> rfl, maxD_map ys]
    rfl
theorem fold_mem (f : α → α → Bool) : ∀ (xs : List α) (x : α), xs.foldl (fun a y => if f a y then y else a) x ∈ x :: xs
  | [], x => by simp
  | y :: ys, x => by
    rw [List.foldl_cons]
    have := fold_mem f ys (if f x y then y else x)
    rcases List.mem_cons.mp this with h | h
    · rw [h]; split <;> simp
    · exact List.mem_cons_of_mem _ (List.mem_cons_of_mem _ h)
theorem fa_mem {r : DV → α → Prop} : ∀ {ds : List DV} {xs : List α} {x : α}, Fa r ds xs → x ∈ xs → ∃ d, d ∈ ds ∧ r d x
  | [], _, _, .nil, h => by cases h
  | _ :: _, _, x, .cons p q, h => by
    rcases List.mem_cons.mp h with e | h
    · exact ⟨_, List.mem_cons_self, e ▸ p⟩
    · obtain ⟨d, h1, h2⟩ := fa_mem q h
      exact ⟨d, List.mem_cons_of_mem _ h1, h2⟩
theorem alikeA [i : Dat R] [k : DatO R] (xs : List α) : PySem.W.AlikeAll (xs.map i.pdv) := by
  refine ⟨fun a ha b hb => ?_, fun a ha e => ?_⟩
  · obtain ⟨x, _, rfl⟩ := List.mem_map.mp ha
    obtain ⟨y, _, rfl⟩ := List.mem_map.mp hb
    exact k.alike x y
  · obtain ⟨x, _, rfl⟩ := List.mem_map.mp ha
    have := k.nn x
    rw [e] at this; cases this
theorem best_run [i : Dat R] [f : Flat R] [k : DatO R] (h1 : i.dep ≤ 50) {g : PyData → List PyData → PyData} {m : Mem} {d : DV} {x : α} {xs : List α} {v : α} (hg : g (i.pdv x) (xs.map i.pdv) = i.pdv v) (hm : v ∈ x :: xs) (r : (RLst R).r (fun _ => False) m d (x :: xs)) : ∃ e, bestD g d m = .ok e m ∧ ∀ P m', R.r P m' e v := by
  obtain ⟨j, l, rfl, _, hl, h⟩ := r
  have e1 := dat_all (i := i) (N := 50) h1 h
  have e2 := lay_all (i := i) h
  have lo : loAll 0 l := fa_low h
  obtain ⟨dv, _, hv⟩ := fa_mem h hm
  refine ⟨dv, ?_, fun P m' => f.flat hv⟩
  unfold bestD
  simp only [lstOf, show m[j]? = some (MO.lst l) from hl, e1]
  simp only [List.map_cons] at e2 ⊢
  rw [if_pos ⟨lo, alikeA (x :: xs), by omega⟩, hg, ofD_flat h1 hv]
theorem u_min [i : Dat R] [f : Flat R] [k : DatO R] (h1 : i.dep ≤ 50 := by decide) : U1 (bestD PySem.W.minD) (RLst R) R (minO R) := ⟨fun {m d x v} r hv => by
  cases x with
  | nil => cases hv
  | cons x xs =>
    cases hv
    obtain ⟨e, h2, h3⟩ := best_run h1 (minD_map xs x) (fold_mem (fun a y => dlt R y a) xs x) r
    exact ⟨e, m, h2, Grw.refl m, h3 _ _⟩⟩
theorem u_max [i : Dat R] [f : Flat R] [k : DatO R] (h1 : i.dep ≤ 50 := by decide) : U1 (bestD PySem.W.maxD) (RLst R) R (maxO R) := ⟨fun {m d x v} r hv => by
  cases x with
  | nil => cases hv
  | cons x xs =>
    cases hv
    obtain ⟨e, h2, h3⟩ := best_run h1 (maxD_map xs x) (fold_mem (fun a y => dlt R a y) xs x) r
    exact ⟨e, m, h2, Grw.refl m, h3 _ _⟩⟩
end
end TM

end
section
set_option Elab.async false
set_option linter.all false
set_option maxRecDepth 100000
set_option maxHeartbeats 4000000
set_option autoImplicit false
/-! TM8: things of any form; what keeps the strength of values; dicts; sorting. -/
namespace TM
open PySem PySem.Spec L2 DL
mutual
/-- a value of any form, its parts read -/
def anyR (P : Nat → Prop) (m : Mem) : PyData → DV → Prop
  | .none, d => d = .non
  | .bool b, d => d = .bl b
  | .int i, d => d = .int i
  | .str z, d => d = .str z ∧ strG z
  | .tuple xs, d => ∃ ds, d = .tup ds ∧ anyA P m xs ds
  | .list xs, d => ∃ k ds, d = .ref k ∧ ¬ P k ∧ m[k]? = some (.lst ds) ∧ anyA P m xs ds
  | .dict _, _ => False
def anyA (P : Nat → Prop) (m : Mem) : List PyData → List DV → Prop
  | [], ds => ds = []
  | x :: xs, ds => ∃ d es, ds = d :: es ∧ anyR P m x d ∧ anyA P m xs es
end
section
variable {P P' : Nat → Prop} {m m' : Mem}
mutual
theorem anyR_step (h : ∀ i o, ¬ P i → m[i]? = some o → m'[i]? = some o) : ∀ (x : PyData) (d : DV), anyR P m x d → anyR P m' x d
  | .none, d, r => by simpa [anyR] using r
  | .bool b, d, r => by simpa [anyR] using r
  | .int i, d, r => by simpa [anyR] using r
  | .str z, d, r => by simpa [anyR] using r
  | .tuple xs, d, r => by
    simp only [anyR] at r ⊢
    obtain ⟨ds, e, r⟩ := r
    exact ⟨ds, e, anyA_step h xs ds r⟩
  | .list xs, d, r => by
    simp only [anyR] at r ⊢
    obtain ⟨k, ds, e, hp, hm, r⟩ := r
    exact ⟨k, ds, e, hp, h k _ hp hm, anyA_step h xs ds r⟩
  | .dict _, d, r => by simp [anyR] at r
theorem anyA_step (h : ∀ i o, ¬ P i → m[i]? = some o → m'[i]? = some o) : ∀ (xs : List PyData) (ds : List DV), anyA P m xs ds → anyA P m' xs ds
  | [], ds, r => by simpa [anyA] using r
  | x :: xs, ds, r => by
    simp only [anyA] at r ⊢
    obtain ⟨d, es, e, r1, r2⟩ := r
    exact ⟨d, es, e, anyR_step h x d r1, anyA_step h xs es r2⟩
end
mutual
theorem anyR_anti (h : ∀ i, i < m.length → P' i → P i) : ∀ (x : PyData) (d : DV), anyR P m x d → anyR P' m x d
  | .none, d, r => by simpa [anyR] using r
  | .bool b, d, r => by simpa [anyR] using r
  | .int i, d, r => by simpa [anyR] using r
  | .str z, d, r => by simpa [anyR] using r
  | .tuple xs, d, r => by
    simp only [anyR] at r ⊢
    obtain ⟨ds, e, r⟩ := r
    exact ⟨ds, e, anyA_anti h xs ds r⟩
  | .list xs, d, r => by
    simp only [anyR] at r ⊢
    obtain ⟨k, ds, e, hp, hm, r⟩ := r
    exact ⟨k, ds, e, fun q => hp (h k (List.getElem?_eq_some_iff.mp hm).1 q), hm, anyA_anti h xs ds r⟩
  | .dict _, d, r => by simp [anyR] at r
theorem anyA_anti (h : ∀ i, i < m.length → P' i → P i) : ∀ (xs : List PyData) (ds : List DV), anyA P m xs ds → anyA P' m xs ds
  | [], ds, r => by simpa [anyA] using r
  | x :: xs, ds, r => by
    simp only [anyA] at r ⊢
    obtain ⟨d, es, e, r1, r2⟩ := r
    exact ⟨d, es, e, anyR_anti h x d r1, anyA_anti h xs es r2⟩
end
end
def RAny : Rp PyData := ⟨fun P m d x => anyR P m x d, fun h r => anyR_step h _ _ r, fun h r => anyR_anti h _ _ r⟩
theorem anyA_fa {P : Nat → Prop} {m : Mem} : ∀ {xs : List PyData} {ds : List DV}, anyA P m xs ds ↔ Fa (RAny.r P m) ds xs
  | [], ds => ⟨fun h => by simp only [anyA] at h; subst h; exact .nil, fun h => by cases h; simp [anyA]⟩
  | x :: xs, ds => ⟨fun h => by
      simp only [anyA] at h
      obtain ⟨d, es, e, r1, r2⟩ := h
      subst e
      exact .cons r1 (anyA_fa.mp r2), fun h => by
      cases h with
      | cons r1 r2 =>
        simp only [anyA]
        exact ⟨_, _, rfl, r1, anyA_fa.mpr r2⟩⟩
theorem any_tup {P : Nat → Prop} {m : Mem} {d : DV} {xs : List PyData} : RAny.r P m d (.tuple xs) ↔ (RTup RAny).r P m d xs := by
  show anyR P m (.tuple xs) d ↔ _
  simp only [anyR, anyA_fa]
  exact Iff.rfl
theorem any_lst {P : Nat → Prop} {m : Mem} {d : DV} {xs : List PyData} : RAny.r P m d (.list xs) ↔ (RLst RAny).r P m d xs := by
  show anyR P m (.list xs) d ↔ _
  simp only [anyR, anyA_fa]
  exact Iff.rfl
theorem any_int {P : Nat → Prop} {m : Mem} {d : DV} {i : Int} : RAny.r P m d (.int i) ↔ d = .int i := by show anyR P m _ d ↔ _; simp only [anyR]
theorem any_bl {P : Nat → Prop} {m : Mem} {d : DV} {i : Bool} : RAny.r P m d (.bool i) ↔ d = .bl i := by show anyR P m _ d ↔ _; simp only [anyR]
theorem any_non {P : Nat → Prop} {m : Mem} {d : DV} : RAny.r P m d .none ↔ d = .non := by show anyR P m _ d ↔ _; simp only [anyR]
theorem any_str {P : Nat → Prop} {m : Mem} {d : DV} {z : Str} : RAny.r P m d (.str z) ↔ d = .str z ∧ strG z := by show anyR P m _ d ↔ _; simp only [anyR]
theorem any_dict {P : Nat → Prop} {m : Mem} {d : DV} {z : List (PyData × PyData)} : ¬ RAny.r P m d (.dict z) := by show ¬ anyR P m _ d; simp only [anyR]; exact id
mutual
theorem any_pd {P : Nat → Prop} {m : Mem} : ∀ (x : PyData) (d : DV) (N : Nat), anyR P m x d → x.depth ≤ N → pd m N d = some x
  | .none, d, N, r, hN => by simp only [anyR] at r; subst r; cases N <;> rfl
  | .bool b, d, N, r, hN => by simp only [anyR] at r; subst r; cases N <;> rfl
  | .int i, d, N, r, hN => by simp only [anyR] at r; subst r; cases N <;> rfl
  | .str z, d, N, r, hN => by simp only [anyR] at r; obtain ⟨r, _⟩ := r; subst r; cases N <;> rfl
  | .tuple xs, d, N, r, hN => by
    simp only [anyR] at r
    obtain ⟨ds, e, r⟩ := r
    subst e
    simp only [PyData.depth] at hN
    obtain ⟨n, rfl⟩ := pd_up N (by omega)
    simp only [pd, any_pdA xs ds n r (by omega), Option.map_some]
  | .list xs, d, N, r, hN => by
    simp only [anyR] at r
    obtain ⟨k, ds, e, _, hm, r⟩ := r
    subst e
    simp only [PyData.depth] at hN
    obtain ⟨n, rfl⟩ := pd_up N (by omega)
    simp only [pd, hm, any_pdA xs ds n r (by omega), Option.map_some]
  | .dict _, d, N, r, hN => by simp [anyR] at r
theorem any_pdA {P : Nat → Prop} {m : Mem} : ∀ (xs : List PyData) (ds : List DV) (N : Nat), anyA P m xs ds → PyData.depthAll xs ≤ N → optAll (ds.map (pd m N)) = some xs
  | [], ds, N, r, hN => by simp only [anyA] at r; subst r; rfl
  | x :: xs, ds, N, r, hN => by
    simp only [anyA] at r
    obtain ⟨d, es, e, r1, r2⟩ := r
    subst e
    simp only [PyData.depthAll] at hN
    simp only [List.map_cons, any_pd x d N r1 (by omega), optAll, any_pdA xs es N r2 (by omega), Option.map_some]
end
mutual
theorem any_lay {P : Nat → Prop} {m : Mem} : ∀ (x : PyData) (d : DV), anyR P m x d → x.canLay0 = true
  | .none, d, r => rfl
  | .bool b, d, r => rfl
  | .int i, d, r => rfl
  | .str z, d, r => by simp only [anyR] at r; exact r.2
  | .tuple xs, d, r => by
    simp only [anyR] at r
    obtain ⟨ds, e, r⟩ := r
    simpa only [PyData.canLay0] using any_layA xs ds r
  | .list xs, d, r => by
    simp only [anyR] at r
    obtain ⟨k, ds, e, _, hm, r⟩ := r
    simpa only [PyData.canLay0] using any_layA xs ds r
  | .dict _, d, r => by simp [anyR] at r
theorem any_layA {P : Nat → Prop} {m : Mem} : ∀ (xs : List PyData) (ds : List DV), anyA P m xs ds → PyData.canLayAll0 xs = true
  | [], ds, r => rfl
  | x :: xs, ds, r => by
    simp only [anyA] at r
    obtain ⟨d, es, e, r1, r2⟩ := r
    simp only [PyData.canLayAll0, any_lay x d r1, any_layA xs es r2, Bool.and_true]
end
theorem any_shaped {P : Nat → Prop} {m : Mem} {d : DV} {x : PyData} (r : RAny.r P m d x) (h : x.depth ≤ 64) : SeqAt.shaped x = true := by
  unfold SeqAt.shaped
  rw [any_lay x d r, Bool.true_and]
  exact decide_eq_true (by omega)

/-! ### to and fro -/
section
variable {σ τ α β γ δ ε : Type} {R : Rp α} {S : Rp β} {V : Rp γ} {U : Rp δ} {Z : Rp ε}
class ToA {α : Type} (R : Rp α) where
  up : α → PyData
  ok : ∀ {P : Nat → Prop} {m : Mem} {d : DV} {x : α}, R.r P m d x → RAny.r P m d (up x)
instance : ToA RInt := ⟨.int, fun h => any_int.mpr h⟩
instance : ToA RBl := ⟨.bool, fun h => any_bl.mpr h⟩
instance : ToA RNon := ⟨fun _ => .none, fun h => any_non.mpr h⟩
instance : ToA RStr := ⟨.str, fun h => any_str.mpr h⟩
instance : ToA RAny := ⟨id, fun h => h⟩
instance [i : ToA R] : ToA (ROpt R) := ⟨fun x => match x with | none => .none | some y => i.up y, fun {P m d x} h => by
  cases x with
  | none => exact any_non.mpr h
  | some y => exact i.ok h⟩
theorem fa_up [i : ToA R] {P : Nat → Prop} {m : Mem} : ∀ {ds : List DV} {xs : List α}, Fa (R.r P m) ds xs → Fa (RAny.r P m) ds (xs.map i.up)
  | [], _, .nil => .nil
  | _ :: _, _, .cons p q => .cons (i.ok p) (fa_up q)
instance [i : ToA R] : ToA (RTup R) := ⟨fun xs => .tuple (xs.map i.up), fun ⟨ds, e, h⟩ => any_tup.mpr ⟨ds, e, fa_up h⟩⟩
instance [i : ToA R] : ToA (RLst R) := ⟨fun xs => .list (xs.map i.up), fun ⟨k, ds, e, hp, hl, h⟩ => any_lst.mpr ⟨k, ds, e, hp, hl, fa_up h⟩⟩
instance [i : ToA R] [j : ToA S] : ToA (RP2 R S) := ⟨fun x => .tuple [i.up x.1, j.up x.2], fun ⟨a, b, e, h1, h2⟩ => any_tup.mpr ⟨_, e, .cons (i.ok h1) (.cons (j.ok h2) .nil)⟩⟩
instance [i : ToA R] [j : ToA S] [k : ToA V] : ToA (RP3 R S V) := ⟨fun x => .tuple [i.up x.1, j.up x.2.1, k.up x.2.2], fun ⟨a, b, c, e, h1, h2, h3⟩ => any_tup.mpr ⟨_, e, .cons (i.ok h1) (.cons (j.ok h2) (.cons (k.ok h3) .nil))⟩⟩
instance [i : ToA R] [j : ToA S] [k : ToA V] [l : ToA U] : ToA (RP4 R S V U) := ⟨fun x => .tuple [i.up x.1, j.up x.2.1, k.up x.2.2.1, l.up x.2.2.2], fun ⟨a, b, c, f, e, h1, h2, h3, h4⟩ => any_tup.mpr ⟨_, e, .cons (i.ok h1) (.cons (j.ok h2) (.cons (k.ok h3) (.cons (l.ok h4) .nil)))⟩⟩
instance [i : ToA R] [j : ToA S] [k : ToA V] [l : ToA U] [n : ToA Z] : ToA (RP5 R S V U Z) := ⟨fun x => .tuple [i.up x.1, j.up x.2.1, k.up x.2.2.1, l.up x.2.2.2.1, n.up x.2.2.2.2], fun ⟨a, b, c, f, g, e, h1, h2, h3, h4, h5⟩ => any_tup.mpr ⟨_, e, .cons (i.ok h1) (.cons (j.ok h2) (.cons (k.ok h3) (.cons (l.ok h4) (.cons (n.ok h5) .nil))))⟩⟩
class OfA {α : Type} (R : Rp α) where
  dn : PyData → Option α
  ok : ∀ {P : Nat → Prop} {m : Mem} {d : DV} {x : PyData} {v : α}, RAny.r P m d x → dn x = some v → R.r P m d v
def dnInt : PyData → Option Int | .int i => some i | _ => none
def dnBl : PyData → Option Bool | .bool i => some i | _ => none
def dnStr : PyData → Option Str | .str i => some i | _ => none
def mapDn (f : PyData → Option α) : List PyData → Option (List α)
  | [] => some []
  | x :: xs => (f x).bind fun y => (mapDn f xs).bind fun ys => some (y :: ys)
instance : OfA RInt := ⟨dnInt, fun {P m d x v} r h => by cases x <;> simp only [dnInt, reduceCtorEq, Option.some.injEq] at h; subst h; exact any_int.mp r⟩
instance : OfA RBl := ⟨dnBl, fun {P m d x v} r h => by cases x <;> simp only [dnBl, reduceCtorEq, Option.some.injEq] at h; subst h; exact any_bl.mp r⟩
instance : OfA RStr := ⟨dnStr, fun {P m d x v} r h => by cases x <;> simp only [dnStr, reduceCtorEq, Option.some.injEq] at h; subst h; exact any_str.mp r⟩
instance : OfA RAny := ⟨some, fun r h => by cases h; exact r⟩
theorem fa_dn [i : OfA R] {P : Nat → Prop} {m : Mem} : ∀ {ds : List DV} {xs : List PyData} {vs : List α}, Fa (RAny.r P m) ds xs → mapDn i.dn xs = some vs → Fa (R.r P m) ds vs
  | [], _, _, .nil, h => by cases h; exact .nil
  | _ :: _, _, vs, .cons p q, h => by
    obtain ⟨y, h1, h2⟩ := Option.bind_eq_some_iff.mp h
    obtain ⟨ys, h3, h4⟩ := Option.bind_eq_some_iff.mp h2
    cases h4
    exact .cons (i.ok p h1) (fa_dn q h3)
def dnTup (f : PyData → Option α) : PyData → Option (List α) | .tuple xs => mapDn f xs | _ => none
def dnLst (f : PyData → Option α) : PyData → Option (List α) | .list xs => mapDn f xs | _ => none
def dn2 (f : PyData → Option α) (g : PyData → Option β) : PyData → Option (α × β) | .tuple [x, y] => (f x).bind fun a => (g y).bind fun b => some (a, b) | _ => none
def dn3 (f : PyData → Option α) (g : PyData → Option β) (h : PyData → Option γ) : PyData → Option (α × β × γ) | .tuple [x, y, z] => (f x).bind fun a => (g y).bind fun b => (h z).bind fun c => some (a, b, c) | _ => none
instance [i : OfA R] : OfA (RTup R) := ⟨dnTup i.dn, fun {P m d x v} r h => by
  cases x <;> simp only [dnTup, reduceCtorEq] at h
  obtain ⟨ds, e, q⟩ := any_tup.mp r
  exact ⟨ds, e, fa_dn q h⟩⟩
instance [i : OfA R] : OfA (RLst R) := ⟨dnLst i.dn, fun {P m d x v} r h => by
  cases x <;> simp only [dnLst, reduceCtorEq] at h
  obtain ⟨k, ds, e, hp, hl, q⟩ := any_lst.mp r
  exact ⟨k, ds, e, hp, hl, fa_dn q h⟩⟩
instance [i : OfA R] [j : OfA S] : OfA (RP2 R S) := ⟨dn2 i.dn j.dn, fun {P m d x v} r h => by
  unfold dn2 at h
  split at h
  · obtain ⟨a, h1, h2⟩ := Option.bind_eq_some_iff.mp h
    obtain ⟨b, h3, h4⟩ := Option.bind_eq_some_iff.mp h2
    cases h4
    obtain ⟨ds, e, q⟩ := any_tup.mp r
    cases q with
    | cons q1 q => cases q with
      | cons q2 q => cases q; exact ⟨_, _, e, i.ok q1 h1, j.ok q2 h3⟩
  · cases h⟩
instance [i : OfA R] [j : OfA S] [k : OfA V] : OfA (RP3 R S V) := ⟨dn3 i.dn j.dn k.dn, fun {P m d x v} r h => by
  unfold dn3 at h
  split at h
  · obtain ⟨a, h1, h2⟩ := Option.bind_eq_some_iff.mp h
    obtain ⟨b, h3, h4⟩ := Option.bind_eq_some_iff.mp h2
    obtain ⟨c, h5, h6⟩ := Option.bind_eq_some_iff.mp h4
    cases h6
    obtain ⟨ds, e, q⟩ := any_tup.mp r
    cases q with
    | cons q1 q => cases q with
      | cons q2 q => cases q with
        | cons q3 q => cases q; exact ⟨_, _, _, e, i.ok q1 h1, j.ok q2 h3, k.ok q3 h5⟩
  · cases h⟩
variable {B : Bs} {Γ : Ctx σ} {s : σ} {A A' D : DE} {As : DA} {T : DT} {w w' : Lv} {o : Option α} {o' : Option β}
theorem pe_up [i : ToA R] (h : PE B Γ s A w R o) {p : Option PyData} (e : p = o.bind fun x => some (i.up x) := by rfl) : PE B Γ s A w RAny p := fun F js env m g v hv => by
  subst e
  obtain ⟨x, h1, h2⟩ := Option.bind_eq_some_iff.mp hv
  cases h2
  obtain ⟨d, m', h1, h2, h3⟩ := h F js env m g x h1
  exact ⟨d, m', h1, h2, i.ok h3⟩
theorem pe_dn [i : OfA R] {o : Option PyData} (h : PE B Γ s A w RAny o) {p : Option α} (e : p = o.bind i.dn := by rfl) : PE B Γ s A w R p := fun F js env m g v hv => by
  subst e
  obtain ⟨x, h1, h2⟩ := Option.bind_eq_some_iff.mp hv
  obtain ⟨d, m', h1, h3, h4⟩ := h F js env m g x h1
  exact ⟨d, m', h1, h3, i.ok h4 h2⟩
def Lv.le : Lv → Lv → Bool
  | .new, _ => true
  | .str, .new => false
  | .str, _ => true
  | .q, .any => true
  | .q, .q => true
  | .any, .any => true
  | _, _ => false
/-- a stronger value is a weaker one -/
theorem PE.wk (h : PE B Γ s A w R o) (hw : w.le w' = true := by rfl) : PE B Γ s A w' R o := by
  cases w <;> cases w' <;> first | exact h | exact h.str | exact h.wq | exact h.any | (cases hw)

/-! ### what keeps the strength -/
structure V1 (f : D1) (R : Rp α) (S : Rp β) (g : α → Option β) : Prop where
  run : ∀ {P : Nat → Prop} {m d x v}, (∀ i, P i → i < m.length) → R.r P m d x → g x = some v → ∃ d' m', f d m = .ok d' m' ∧ Grw m m' ∧ S.r P m' d' v
structure V2 (f : D2) (R : Rp α) (S : Rp β) (V : Rp γ) (g : α → β → Option γ) : Prop where
  run : ∀ {P : Nat → Prop} {m d e x y v}, (∀ i, P i → i < m.length) → R.r P m d x → S.r P m e y → g x y = some v → ∃ d' m', f d e m = .ok d' m' ∧ Grw m m' ∧ V.r P m' d' v
theorem pe_unV {f : D1} {g : α → Option β} {p : Option β} (u : V1 f R S g) (h : PE B Γ s A w R o) (e : p = o.bind g := by rfl) : PE B Γ s (eUn f A) w S p := fun F js env m gg v hv => by
  subst e
  obtain ⟨x, h1, h2⟩ := Option.bind_eq_some_iff.mp hv
  obtain ⟨d, m1, g1, g2, g3⟩ := h F js env m gg x h1
  obtain ⟨d', m2, k1, k2, k3⟩ := u.run (fun i hi => Nat.lt_of_lt_of_le (w.lt gg.2 i hi) g2.1) g3 h2
  exact ⟨d', m2, by simp only [eUn, g1, Out.bind_ok, k1], g2.trans k2, k3⟩
theorem pe_binV [ok : CtxOk Γ] {f : D2} {g : α → β → Option γ} {p : Option γ} (u : V2 f R S V g) (h : PE B Γ s A w R o) (h' : PE B Γ s A' w S o') (e : p = o.bind fun x => o'.bind fun y => g x y := by rfl) : PE B Γ s (eBin f A A') w V p := fun F js env m gg v hv => by
  subst e
  obtain ⟨x, h1, h2⟩ := Option.bind_eq_some_iff.mp hv
  obtain ⟨y, h3, h4⟩ := Option.bind_eq_some_iff.mp h2
  obtain ⟨d, m1, g1, g2, g3⟩ := h F js env m gg x h1
  obtain ⟨d2, m2, k1, k2, k3⟩ := h' F js env m1 (gg.grw g2) y h3
  have k3' : S.r (w.p F m) m2 d2 y := S.anti (fun i _ hi => w.mid g2 i hi) k3
  obtain ⟨d', m3, l1, l2, l3⟩ := u.run (fun i hi => Nat.lt_of_lt_of_le (w.lt gg.2 i hi) (g2.trans k2).1) (Rp.grw g3 k2) k3' h4
  exact ⟨d', m3, by simp only [eBin, g1, Out.bind_ok, k1, l1], (g2.trans k2).trans l2, l3⟩
theorem v_fun1 {f : D1} {g : α → Option β} (u : V1 f R S g) : Fun (f1 f) (RaC R RaN) S (fun x => g x.1) := ⟨fun {P m ds x v} hP ⟨d, es, e, h1, h2⟩ hv => by
  cases (show es = [] from h2)
  subst e
  exact u.run hP h1 hv⟩
theorem v_ixT : V2 ixD (RTup R) RInt R atO := ⟨fun {P m d e x y v} hP ⟨l, e1, h1⟩ r2 hv => by
  subst e1; cases (show e = .int y from r2)
  obtain ⟨d, g1, g2⟩ := fa_at h1 hv
  exact ⟨d, m, by rw [ixD_tup, g1], Grw.refl m, g2⟩⟩
theorem v_ixL : V2 ixD (RLst R) RInt R atO := ⟨fun {P m d e x y v} hP ⟨k, l, e1, _, hl, h1⟩ r2 hv => by
  subst e1; cases (show e = .int y from r2)
  obtain ⟨d, g1, g2⟩ := fa_at h1 hv
  exact ⟨d, m, by rw [ixD_ref hl, g1], Grw.refl m, g2⟩⟩
def atA : PyData → Int → Option PyData
  | .tuple xs, i => atO xs i
  | .list xs, i => atO xs i
  | _, _ => none
theorem v_ixA : V2 ixD RAny RInt RAny atA := ⟨fun {P m d e x y v} hP r1 r2 hv => by
  cases x <;> simp only [atA, reduceCtorEq] at hv
  · exact v_ixL.run hP (any_lst.mp r1) r2 hv
  · exact v_ixT.run hP (any_tup.mp r1) r2 hv⟩
theorem v_tupL : V1 tupD (RLst R) (RTup R) some := ⟨fun {P m d x v} hP ⟨k, l, e1, _, hl, h1⟩ hv => by subst e1; cases hv; exact ⟨.tup l, m, tupD_at hl, Grw.refl m, l, rfl, h1⟩⟩
theorem v_tupT : V1 tupD (RTup R) (RTup R) some := ⟨fun {P m d x v} hP ⟨l, e1, h1⟩ hv => by subst e1; cases hv; exact ⟨.tup l, m, rfl, Grw.refl m, l, rfl, h1⟩⟩
theorem new_lstV {P : Nat → Prop} {m : Mem} {l : List DV} {x : List α} (hP : ∀ i, P i → i < m.length) (h1 : Fa (R.r P m) l x) : (RLst R).r P (m ++ [.lst l]) (.ref m.length) x := ⟨m.length, l, rfl, fun q => Nat.lt_irrefl _ (hP _ q), by simp [isL], h1.imp fun _ _ r => Rp.grw r (Grw.app _ _)⟩
theorem v_lstL : V1 listD (RLst R) (RLst R) some := ⟨fun {P m d x v} hP ⟨k, l, e1, _, hl, h1⟩ hv => by
  subst e1; cases hv
  exact ⟨.ref m.length, m ++ [.lst l], by simp only [listD, seqOf, show m[k]? = some (MO.lst l) from hl], Grw.app _ _, new_lstV hP h1⟩⟩
theorem v_lstT : V1 listD (RTup R) (RLst R) some := ⟨fun {P m d x v} hP ⟨l, e1, h1⟩ hv => by
  subst e1; cases hv
  exact ⟨.ref m.length, m ++ [.lst l], rfl, Grw.app _ _, new_lstV hP h1⟩⟩
theorem v_catT : V2 addD (RTup R) (RTup R) (RTup R) (fun x y => (szO (x.length + y.length)).bind fun _ => some (x ++ y)) := ⟨fun {P m d e x y v} hP ⟨l, e1, h1⟩ ⟨l2, e2, h2⟩ hv => by
  obtain ⟨_, g1, g2⟩ := Option.bind_eq_some_iff.mp hv
  cases g2; subst e1 e2
  refine ⟨.tup (l ++ l2), m, ?_, Grw.refl m, l ++ l2, rfl, Fa.app h1 h2⟩
  show (if l.length + l2.length ≤ 16777216 then Out.ok (DV.tup (l ++ l2)) m else .bad) = _
  rw [if_pos (by rw [h1.len, h2.len]; exact szO_iff.mp g1)]⟩
theorem v_catL : V2 addD (RLst R) (RLst R) (RLst R) (fun x y => (szO (x.length + y.length)).bind fun _ => some (x ++ y)) := ⟨fun {P m d e x y v} hP ⟨k, l, e1, _, hl, h1⟩ ⟨k2, l2, e2, _, hl2, h2⟩ hv => by
  obtain ⟨_, g1, g2⟩ := Option.bind_eq_some_iff.mp hv
  cases g2; subst e1 e2
  refine ⟨.ref m.length, m ++ [.lst (l ++ l2)], ?_, Grw.app _ _, new_lstV hP (Fa.app h1 h2)⟩
  simp only [addD, show m[k]? = some (MO.lst l) from hl, show m[k2]? = some (MO.lst l2) from hl2]
  rw [if_pos (by rw [h1.len, h2.len]; exact szO_iff.mp g1)]⟩
def catA : PyData → PyData → Option PyData
  | .tuple xs, .tuple ys => (szO (xs.length + ys.length)).bind fun _ => some (.tuple (xs ++ ys))
  | .int a, .int b => some (.int (a + b))
  | _, _ => none
theorem v_catA : V2 addD RAny RAny RAny catA := ⟨fun {P m d e x y v} hP r1 r2 hv => by
  unfold catA at hv
  split at hv
  · rename_i xs ys
    obtain ⟨_, g1, g2⟩ := Option.bind_eq_some_iff.mp hv
    cases g2
    obtain ⟨d', m', h1, h2, h3⟩ := v_catT.run hP (any_tup.mp r1) (any_tup.mp r2) (v := xs ++ ys) (by rw [g1]; rfl)
    exact ⟨d', m', h1, h2, any_tup.mpr h3⟩
  · cases hv
    cases any_int.mp r1; cases any_int.mp r2
    exact ⟨_, m, rfl, Grw.refl m, any_int.mpr rfl⟩
  · cases hv⟩

/-! ### slices -/
def PO (B : Bs) (Γ : Ctx σ) (s : σ) (L : DO) (o : Option (Option Int)) : Prop :=
  ∀ F js env m, RG B Γ F js env m s → ∀ v, o = some v → ∃ m', L env m = .ok v m' ∧ Grw m m'
theorem po_none {o : Option (Option Int)} (e : o = some none := by rfl) : PO B Γ s oNone o := fun F js env m gg v hv => by
  subst e; cases hv; exact ⟨m, rfl, Grw.refl m⟩
theorem po_some {o : Option Int} (h : PE B Γ s A w RInt o) {p : Option (Option Int)} (e : p = o.bind fun i => some (some i) := by rfl) : PO B Γ s (oSome A) p := fun F js env m gg v hv => by
  subst e
  obtain ⟨x, h1, h2⟩ := Option.bind_eq_some_iff.mp hv
  cases h2
  obtain ⟨d, m', k1, k2, k3⟩ := h F js env m gg x h1
  cases (show d = .int x from k3)
  exact ⟨m', by simp only [oSome, k1, Out.bind_ok], k2⟩
def cutO (xs : List α) (lo hi : Option Int) : List α := (xs.drop (HT.sIx xs.length 0 lo)).take (HT.sIx xs.length xs.length hi - HT.sIx xs.length 0 lo)
theorem fa_cut {r : DV → α → Prop} {ds : List DV} {xs : List α} (h : Fa r ds xs) (lo hi : Option Int) : Fa r (cutL ds lo hi) (cutO xs lo hi) := by
  unfold cutL cutO
  rw [h.len]
  exact (h.drop _).take _
structure Sl (R : Rp α) (g : α → Option Int → Option Int → Option α) : Prop where
  run : ∀ {P : Nat → Prop} {m d x lo hi v}, (∀ i, P i → i < m.length) → R.r P m d x → g x lo hi = some v → ∃ d' m', slD lo hi d m = .ok d' m' ∧ Grw m m' ∧ R.r P m' d' v
theorem sl_T : Sl (RTup R) (fun x lo hi => some (cutO x lo hi)) := ⟨fun {P m d x lo hi v} hP ⟨l, e1, h1⟩ hv => by
  subst e1; cases hv
  exact ⟨.tup (cutL l lo hi), m, rfl, Grw.refl m, _, rfl, fa_cut h1 lo hi⟩⟩
theorem sl_L : Sl (RLst R) (fun x lo hi => some (cutO x lo hi)) := ⟨fun {P m d x lo hi v} hP ⟨k, l, e1, _, hl, h1⟩ hv => by
  subst e1; cases hv
  exact ⟨.ref m.length, m ++ [.lst (cutL l lo hi)], by simp only [slD, lstOf, show m[k]? = some (MO.lst l) from hl], Grw.app _ _, new_lstV hP (fa_cut h1 lo hi)⟩⟩
def cutA : PyData → Option Int → Option Int → Option PyData
  | .tuple xs, lo, hi => some (.tuple (cutO xs lo hi))
  | _, _, _ => none
theorem sl_A : Sl RAny cutA := ⟨fun {P m d x lo hi v} hP r hv => by
  cases x <;> simp only [cutA, reduceCtorEq, Option.some.injEq] at hv
  subst hv
  obtain ⟨d', m', h1, h2, h3⟩ := (sl_T (R := RAny)).run (lo := lo) (hi := hi) hP (any_tup.mp r) rfl
  exact ⟨d', m', h1, h2, any_tup.mpr h3⟩⟩
theorem pe_sl [ok : CtxOk Γ] {L M : DO} {g : α → Option Int → Option Int → Option α} {ol om : Option (Option Int)} (u : Sl R g) (h : PE B Γ s A w R o) (hl : PO B Γ s L ol) (hm : PO B Γ s M om) {p : Option α} (e : p = o.bind fun x => ol.bind fun lo => om.bind fun hi => g x lo hi := by rfl) : PE B Γ s (eSl A L M) w R p := fun F js env m gg v hv => by
  subst e
  obtain ⟨x, h1, h2⟩ := Option.bind_eq_some_iff.mp hv
  obtain ⟨lo, h3, h4⟩ := Option.bind_eq_some_iff.mp h2
  obtain ⟨hi, h5, h6⟩ := Option.bind_eq_some_iff.mp h4
  obtain ⟨d, m1, k1, k2, k3⟩ := h F js env m gg x h1
  obtain ⟨m2, l1, l2⟩ := hl F js env m1 (gg.grw k2) lo h3
  obtain ⟨m3, n1, n2⟩ := hm F js env m2 (gg.grw (k2.trans l2)) hi h5
  obtain ⟨d', m4, q1, q2, q3⟩ := u.run (lo := lo) (hi := hi) (fun i hi => Nat.lt_of_lt_of_le (w.lt gg.2 i hi) ((k2.trans l2).trans n2).1) (Rp.grw k3 (l2.trans n2)) h6
  exact ⟨d', m4, by simp only [eSl, k1, Out.bind_ok, l1, n1, q1], ((k2.trans l2).trans n2).trans q2, q3⟩

/-! ### things of any form: what they are -/
def tyA : PyData → Option String
  | .none => some "NoneType"
  | .bool _ => some "bool"
  | .int _ => some "int"
  | .str _ => some "str"
  | .tuple _ => some "tuple"
  | .list _ => some "list"
  | .dict _ => none
theorem any_ty {P : Nat → Prop} {m : Mem} {d : DV} {x : PyData} {t : String} (r : RAny.r P m d x) (h : tyA x = some t) : tyD m d = some t := by
  cases x with
  | none => cases any_non.mp r; exact h
  | bool b => cases any_bl.mp r; exact h
  | int b => cases any_int.mp r; exact h
  | str b => cases (any_str.mp r).1; exact h
  | tuple xs => obtain ⟨ds, e, _⟩ := any_tup.mp r; subst e; exact h
  | list xs => obtain ⟨k, ds, e, _, hl, _⟩ := any_lst.mp r; subst e; simp only [tyD, show m[k]? = some (MO.lst ds) from hl]; exact h
  | dict _ => cases h
theorem u_isI (n : String) : U1 (isI n) RAny RBl (fun x => (tyA x).bind fun t => some (isTb t n)) := ⟨fun {m d x v} r hv => by
  obtain ⟨t, h1, h2⟩ := Option.bind_eq_some_iff.mp hv
  cases h2
  exact ⟨.bl (isTb t n), m, by simp only [isI, any_ty r h1], Grw.refl m, rfl⟩⟩
def lenA : PyData → Option Int
  | .tuple xs => some (xs.length : Int)
  | .list xs => some (xs.length : Int)
  | .str z => (szO z.length).bind fun _ => some (z.length : Int)
  | _ => none
theorem f_lenA : Fun fLen (RaC RAny RaN) RInt (fun x => lenA x.1) := ⟨fun {P m ds x v} hP r hv => by
  obtain ⟨x, u⟩ := x
  obtain ⟨d, es, e, h1, h2⟩ := r
  match x, h1, hv with
  | .str z, h1, hv => exact f_lenS.run (x := (z, ())) hP ⟨d, es, e, any_str.mp h1, h2⟩ hv
  | .list xs, h1, hv => exact f_lenL.run (x := (xs, ())) hP ⟨d, es, e, any_lst.mp h1, h2⟩ hv
  | .tuple xs, h1, hv => exact f_lenT.run (x := (xs, ())) hP ⟨d, es, e, any_tup.mp h1, h2⟩ hv⟩
@[irreducible] def eqA (x y : PyData) : Option Bool := if x.depth ≤ 60 ∧ y.depth ≤ 60 then some (PyData.eqv x y) else none
theorem u_eqA : U2 eqD RAny RAny RBl eqA := ⟨fun {m d e x y v} r1 r2 hv => by
  unfold eqA at hv
  split at hv
  · rename_i h
    cases hv
    refine ⟨.bl _, m, ?_, Grw.refl m, rfl⟩
    unfold eqD
    rw [any_pd x d 64 r1 (by omega), any_pd y e 64 r2 (by omega)]
    simp only [if_pos (And.intro (any_shaped r1 (by omega)) (any_shaped r2 (by omega)))]
  · cases hv⟩
theorem u_neA : U2 neD RAny RAny RBl (fun x y => (eqA x y).bind fun b => some (!b)) := ⟨fun {m d e x y v} r1 r2 hv => by
  obtain ⟨b, h1, h2⟩ := Option.bind_eq_some_iff.mp hv
  cases h2
  unfold eqA at h1
  split at h1
  · rename_i h
    cases h1
    refine ⟨.bl _, m, ?_, Grw.refl m, rfl⟩
    unfold neD
    rw [any_pd x d 64 r1 (by omega), any_pd y e 64 r2 (by omega)]
    simp only [if_pos (And.intro (any_shaped r1 (by omega)) (any_shaped r2 (by omega)))]
  · cases h1⟩
@[irreducible] def inA (x : PyData) (ys : List PyData) : Option Bool := if x.depth ≤ 60 ∧ PyData.depthAll ys ≤ 58 then some (ys.any fun y => PyData.eqv y x) else none
theorem u_inA : U2 inD RAny (RLst RAny) RBl inA := ⟨fun {m d e x y v} r1 r2 hv => by
  unfold inA at hv
  split at hv
  · rename_i h
    cases hv
    have e2 := any_pd (.list y) e 60 (any_lst.mpr r2) (by simp only [PyData.depth]; omega)
    have s2 := any_shaped (x := .list y) (any_lst.mpr r2) (by simp only [PyData.depth]; omega)
    obtain ⟨k, l, rfl, _, hl, h3⟩ := r2
    refine ⟨.bl (y.any fun z => PyData.eqv z x), m, ?_, Grw.refl m, rfl⟩
    unfold inD inB
    rw [any_pd x d 60 r1 h.1, e2]
    simp only [lstOf, show m[k]? = some (MO.lst l) from hl]
    rw [if_pos ⟨any_shaped r1 (by omega), s2⟩]
    rfl
  · cases hv⟩
theorem u_ninA : U2 notInD RAny (RLst RAny) RBl (fun x y => (inA x y).bind fun b => some (!b)) := ⟨fun {m d e x y v} r1 r2 hv => by
  obtain ⟨b, h1, h2⟩ := Option.bind_eq_some_iff.mp hv
  cases h2
  unfold inA at h1
  split at h1
  · rename_i h
    cases h1
    have e2 := any_pd (.list y) e 60 (any_lst.mpr r2) (by simp only [PyData.depth]; omega)
    have s2 := any_shaped (x := .list y) (any_lst.mpr r2) (by simp only [PyData.depth]; omega)
    obtain ⟨k, l, rfl, _, hl, h3⟩ := r2
    refine ⟨.bl (!y.any fun z => PyData.eqv z x), m, ?_, Grw.refl m, rfl⟩
    unfold notInD inB
    rw [any_pd x d 60 r1 h.1, e2]
    simp only [lstOf, show m[k]? = some (MO.lst l) from hl]
    rw [if_pos ⟨any_shaped r1 (by omega), s2⟩]
    rfl
  · cases h1⟩
def isNA : PyData → Bool | .none => true | _ => false
def isBA (k : Bool) : PyData → Bool | .bool b => decide (b = k) | _ => false
theorem isN_any {P : Nat → Prop} {m : Mem} {d : DV} {x : PyData} (r : RAny.r P m d x) : isN d m = .ok (.bl (isNA x)) m ∧ notN d m = .ok (.bl (!isNA x)) m ∧ ∀ k, isBD k d m = .ok (.bl (isBA k x)) m ∧ notBD k d m = .ok (.bl (!isBA k x)) m := by
  cases x with
  | none => cases any_non.mp r; exact ⟨rfl, rfl, fun k => ⟨rfl, rfl⟩⟩
  | bool b => cases any_bl.mp r; exact ⟨rfl, rfl, fun k => ⟨rfl, rfl⟩⟩
  | int b => cases any_int.mp r; exact ⟨rfl, rfl, fun k => ⟨rfl, rfl⟩⟩
  | str b => cases (any_str.mp r).1; exact ⟨rfl, rfl, fun k => ⟨rfl, rfl⟩⟩
  | tuple xs => obtain ⟨ds, e, _⟩ := any_tup.mp r; subst e; exact ⟨rfl, rfl, fun k => ⟨rfl, rfl⟩⟩
  | list xs => obtain ⟨k, ds, e, _, hl, _⟩ := any_lst.mp r; subst e; exact ⟨rfl, rfl, fun k => ⟨rfl, rfl⟩⟩
  | dict _ => exact absurd r any_dict
theorem u_isNA : U1 isN RAny RBl (fun x => some (isNA x)) := ⟨fun {m d x v} r hv => by cases hv; exact ⟨_, m, (isN_any r).1, Grw.refl m, rfl⟩⟩
theorem u_notNA : U1 notN RAny RBl (fun x => some (!isNA x)) := ⟨fun {m d x v} r hv => by cases hv; exact ⟨_, m, (isN_any r).2.1, Grw.refl m, rfl⟩⟩
theorem u_isBA (k : Bool) : U1 (isBD k) RAny RBl (fun x => some (isBA k x)) := ⟨fun {m d x v} r hv => by cases hv; exact ⟨_, m, ((isN_any r).2.2 k).1, Grw.refl m, rfl⟩⟩
theorem u_notBA (k : Bool) : U1 (notBD k) RAny RBl (fun x => some (!isBA k x)) := ⟨fun {m d x v} r hv => by cases hv; exact ⟨_, m, ((isN_any r).2.2 k).2, Grw.refl m, rfl⟩⟩
/-- a text out of texts -/
theorem pe_join {o : Option Str} {os : Option (List Str)} [ok : CtxOk Γ] (h : PE B Γ s A w RStr o) (h' : PE B Γ s A' w' (RLst RStr) os) {p : Option Str} (e : p = o.bind fun a => os.bind fun ys => (szO ((ys.map (·.length)).sum + ys.length * a.length)).bind fun _ => some (Txt.join a ys) := by rfl) (hg : ∀ (a : Str) (ys : List Str), strG a → (∀ y ∈ ys, strG y) → strG (Txt.join a ys)) : PE B Γ s (eJoin A A') .new RStr p := fun F js env m gg v hv => by
  subst e
  obtain ⟨a, h1, h2⟩ := Option.bind_eq_some_iff.mp hv
  obtain ⟨ys, h3, h4⟩ := Option.bind_eq_some_iff.mp h2
  obtain ⟨_, h5, h6⟩ := Option.bind_eq_some_iff.mp h4
  cases h6
  obtain ⟨d, m1, k1, k2, k3⟩ := h F js env m gg a h1
  obtain ⟨d2, m2, l1, l2, l3⟩ := h' F js env m1 (gg.grw k2) ys h3
  cases k3.1
  obtain ⟨k, l, rfl, _, hl, fa⟩ := l3
  have st : ∀ {l : List DV} {ys : List Str} {P : Nat → Prop}, Fa (RStr.r P m2) l ys → strsOf l = some ys ∧ ∀ y ∈ ys, strG y := by
    intro l ys P fa
    induction fa with
    | nil => exact ⟨rfl, fun y hy => by cases hy⟩
    | cons p q ih =>
      cases p.1
      exact ⟨by simp only [strsOf, ih.1, Option.map_some], fun y hy => by
        rcases List.mem_cons.mp hy with e | h
        · rw [e]; exact p.2
        · exact ih.2 y h⟩
  obtain ⟨s1, s2⟩ := st fa
  refine ⟨.str (Txt.join a ys), m2, ?_, k2.trans l2, rfl, hg a ys k3.2 s2⟩
  simp only [eJoin, k1, Out.bind_ok, l1, joinD, seqOf, show m2[k]? = some (MO.lst l) from hl, Option.bind_some, s1]
  rw [if_pos (szO_iff.mp h5)]

/-! ### walking things of any form -/
def itA : PyData → Option (List PyData)
  | .tuple xs => some xs
  | .list xs => some xs
  | _ => none
theorem pi_tupV {o p : Option (List α)} (h : PE B Γ s A w (RTup R) o) (hw : w.ok = true := by rfl) (e : p = o := by rfl) : PI B Γ s (iAnyD A) true true R p := fun F js env m gg v hv => by
  subst e
  obtain ⟨d, m1, g1, g2, g3⟩ := h F js env m gg v hv
  obtain ⟨ds, rfl, g4⟩ := Rp.lvs gg.2 hw g3
  exact ⟨⟨ds, []⟩, m1, by simp only [iAnyD, g1, Out.bind_ok], g2, g4, guard0 m1, fun _ p hp => by cases hp⟩
theorem pi_A {o : Option PyData} {p : Option (List PyData)} (h : PE B Γ s A w RAny o) (hw : w.ok = true := by rfl) (e : p = o.bind itA := by rfl) : PI B Γ s (iAnyD A) true true RAny p := fun F js env m gg v hv => by
  subst e
  obtain ⟨x, h1, h2⟩ := Option.bind_eq_some_iff.mp hv
  obtain ⟨d, m1, g1, g2, g3⟩ := h F js env m gg x h1
  have g3' := Rp.lvs gg.2 hw g3
  cases x <;> simp only [itA, reduceCtorEq, Option.some.injEq] at h2
  · subst h2
    obtain ⟨k, ds, rfl, hp, hl, h4⟩ := any_lst.mp g3'
    exact ⟨⟨ds, [(k, .lst ds)]⟩, m1, by simp only [iAnyD, g1, Out.bind_ok, show m1[k]? = some (MO.lst ds) from hl], g2, h4, guard1 hl, fun _ p hp2 q => by rw [List.mem_singleton.mp hp2] at q; exact hp (gg.2.qp _ q)⟩
  · subst h2
    obtain ⟨ds, rfl, h4⟩ := any_tup.mp g3'
    exact ⟨⟨ds, []⟩, m1, by simp only [iAnyD, g1, Out.bind_ok], g2, h4, guard0 m1, fun _ p hp => by cases hp⟩
/-- two at a time -/
theorem fa_zp {P : Nat → Prop} {m : Mem} : ∀ {ds : List DV} {es : List DV} {xs : List α} {ys : List β}, Fa (R.r P m) ds xs → Fa (S.r P m) es ys → Fa ((RP2 R S).r P m) (zp ds es) (xs.zip ys)
  | [], _, _, _, .nil, _ => by simpa [zp] using Fa.nil
  | _ :: _, [], _, _, .cons _ _, .nil => by simpa [zp] using Fa.nil
  | _ :: _, _ :: _, _, _, .cons p q, .cons p' q' => .cons ⟨_, _, rfl, p, p'⟩ (fa_zp q q')
theorem pi_zipL [ok : CtxOk Γ] {o : Option (List α)} {o' : Option (List β)} {p : Option (List (α × β))} (h : PE B Γ s A w (RLst R) o) (h' : PE B Γ s A' w' (RLst S) o') (hw : w.ok = true := by rfl) (hw' : w'.ok = true := by rfl) (e : p = o.bind fun xs => o'.bind fun ys => some (xs.zip ys) := by rfl) : PI B Γ s (iZipD A A') true true (RP2 R S) p := fun F js env m gg v hv => by
  subst e
  obtain ⟨xs, h1, h2⟩ := Option.bind_eq_some_iff.mp hv
  obtain ⟨ys, h3, h4⟩ := Option.bind_eq_some_iff.mp h2
  cases h4
  obtain ⟨d, m1, k1, k2, k3⟩ := h F js env m gg xs h1
  obtain ⟨d2, m2, l1, l2, l3⟩ := h' F js env m1 (gg.grw k2) ys h3
  obtain ⟨k, ds, rfl, hp, hl, f1⟩ := Rp.grw (Rp.lvs gg.2 hw k3) l2
  obtain ⟨k', es, rfl, hp', hl', f2⟩ := Rp.lvs (gg.grw k2).2 hw' l3
  refine ⟨⟨zp ds es, [(k, .lst ds), (k', .lst es)]⟩, m2, by simp only [iZipD, k1, Out.bind_ok, l1, show m2[k]? = some (MO.lst ds) from hl, show m2[k']? = some (MO.lst es) from hl'], k2.trans l2, fa_zp f1 f2, ?_, ?_⟩
  · intro p hp2
    rcases List.mem_cons.mp hp2 with q | q
    · rw [q]; exact hl
    · rw [List.mem_singleton.mp q]; exact hl'
  · intro _ p hp2 z
    rcases List.mem_cons.mp hp2 with q | q
    · rw [q] at z; exact hp (gg.2.qp _ z)
    · rw [List.mem_singleton.mp q] at z; exact hp' (gg.2.qp _ z)
theorem pi_zipT [ok : CtxOk Γ] {o : Option (List α)} {o' : Option (List β)} {p : Option (List (α × β))} (h : PE B Γ s A w (RTup R) o) (h' : PE B Γ s A' w' (RTup S) o') (hw : w.ok = true := by rfl) (hw' : w'.ok = true := by rfl) (e : p = o.bind fun xs => o'.bind fun ys => some (xs.zip ys) := by rfl) : PI B Γ s (iZipD A A') true true (RP2 R S) p := fun F js env m gg v hv => by
  subst e
  obtain ⟨xs, h1, h2⟩ := Option.bind_eq_some_iff.mp hv
  obtain ⟨ys, h3, h4⟩ := Option.bind_eq_some_iff.mp h2
  cases h4
  obtain ⟨d, m1, k1, k2, k3⟩ := h F js env m gg xs h1
  obtain ⟨d2, m2, l1, l2, l3⟩ := h' F js env m1 (gg.grw k2) ys h3
  obtain ⟨ds, rfl, f1⟩ := Rp.grw (Rp.lvs gg.2 hw k3) l2
  obtain ⟨es, rfl, f2⟩ := Rp.lvs (gg.grw k2).2 hw' l3
  exact ⟨⟨zp ds es, []⟩, m2, by simp only [iZipD, k1, Out.bind_ok, l1], k2.trans l2, fa_zp f1 f2, guard0 m2, fun _ p hp => by cases hp⟩

/-! ### dicts -/
class KeyR {α : Type} (R : Rp α) where
  key : α → Key
  ok : ∀ {P : Nat → Prop} {m : Mem} {d : DV} {x : α}, R.r P m d x → keyOf d = some (key x)
instance : KeyR RInt := ⟨.inl, fun h => by cases h; rfl⟩
instance : KeyR RStr := ⟨.inr, fun h => by cases h.1; rfl⟩
theorem fa_look {r : DV → α → Prop} {k : Key} : ∀ {ds : List (Key × DV)} {xs : List (Key × α)} {v : α}, Fa (fun (p : Key × DV) (q : Key × α) => p.1 = q.1 ∧ r p.2 q.2) ds xs → lookK xs k = some v → ∃ d, lookK ds k = some d ∧ r d v
  | [], _, _, .nil, h => by cases h
  | (a, d) :: ds, (b, x) :: xs, v, .cons ⟨p1, p2⟩ q, h => by
    simp only [lookK] at h ⊢
    simp only at p1 p2
    subst p1
    rw [List.find?_cons] at h ⊢
    by_cases e : decide (a = k) = true
    · rw [e] at h ⊢
      cases h
      exact ⟨d, rfl, p2⟩
    · rw [show decide (a = k) = false by simpa using e] at h ⊢
      exact fa_look q h
theorem v_dget [i : KeyR S] : V2 dgetD (RDic R) S R (fun xs k => lookK xs (i.key k)) := ⟨fun {P m d e x y v} hP ⟨k, ds, e1, _, hl, h1⟩ r2 hv => by
  subst e1
  obtain ⟨d, g1, g2⟩ := fa_look h1 hv
  exact ⟨d, m, by simp only [dgetD, i.ok r2, show m[k]? = some (MO.dic ds) from hl, g1], Grw.refl m, g2⟩⟩
theorem fa_put {r : DV → α → Prop} {k : Key} {d : DV} {v : α} (hr : r d v) {ds : List (Key × DV)} {xs : List (Key × α)} (h : Fa (fun (p : Key × DV) (q : Key × α) => p.1 = q.1 ∧ r p.2 q.2) ds xs) : Fa (fun (p : Key × DV) (q : Key × α) => p.1 = q.1 ∧ r p.2 q.2) (putG ds k d) (putG xs k v) := by
  have e : ds.any (fun kv => decide (kv.1 = k)) = xs.any (fun kv => decide (kv.1 = k)) := by
    clear hr
    induction h with
    | nil => rfl
    | cons p q ih => simp only [List.any_cons, p.1, ih]
  unfold putG
  rw [e]
  split
  · clear e
    rename_i h2
    clear h2
    induction h with
    | nil => exact .nil
    | @cons a b as bs p q ih =>
      refine .cons ?_ ih
      simp only
      by_cases c : a.1 = k
      · rw [if_pos c, if_pos (p.1 ▸ c)]; exact ⟨p.1, hr⟩
      · rw [if_neg c, if_neg (fun z => c (p.1.trans z))]; exact p
  · exact h.app (.cons ⟨rfl, hr⟩ .nil)
theorem fa_merge {r : DV → α → Prop} : ∀ {ms : List (Key × DV)} {ns : List (Key × α)}, Fa (fun (p : Key × DV) (q : Key × α) => p.1 = q.1 ∧ r p.2 q.2) ms ns → ∀ {ds : List (Key × DV)} {xs : List (Key × α)}, Fa (fun (p : Key × DV) (q : Key × α) => p.1 = q.1 ∧ r p.2 q.2) ds xs → Fa (fun (p : Key × DV) (q : Key × α) => p.1 = q.1 ∧ r p.2 q.2) (mergeD ds ms) (mergeD xs ns)
  | [], _, .nil, _, _, h => h
  | (a, d) :: ms, (b, x) :: ns, .cons ⟨p1, p2⟩ q, ds, xs, h => by
    simp only at p1 p2
    subst p1
    show Fa _ (mergeD (putG ds a d) ms) (mergeD (putG xs a x) ns)
    exact fa_merge q (fa_put p2 h)
def dictO [i : KeyR S] (xs : List (β × α)) : List (Key × α) := mergeD [] (xs.map fun p => (i.key p.1, p.2))
theorem fa_pairs [i : KeyR S] {P : Nat → Prop} {m : Mem} : ∀ {ds : List DV} {xs : List (β × α)}, Fa ((RP2 S R).r P m) ds xs → ∃ ks, pairsD ds = some ks ∧ Fa (fun (p : Key × DV) (q : Key × α) => p.1 = q.1 ∧ R.r P m p.2 q.2) ks (xs.map fun p => (i.key p.1, p.2))
  | [], _, .nil => ⟨[], rfl, .nil⟩
  | _ :: _, _, .cons ⟨a, b, e, h1, h2⟩ q => by
    subst e
    obtain ⟨ks, k1, k2⟩ := fa_pairs q
    exact ⟨(i.key _, b) :: ks, by simp only [pairsD, i.ok h1, Option.bind_some, k1, Option.map_some], .cons ⟨rfl, h2⟩ k2⟩
theorem v_dictP [i : KeyR S] : V1 dictPD (RLst (RP2 S R)) (RDic R) (fun xs => some (dictO (S := S) xs)) := ⟨fun {P m d x v} hP ⟨k, l, e1, _, hl, h1⟩ hv => by
  subst e1; cases hv
  obtain ⟨ks, k1, k2⟩ := fa_pairs h1
  refine ⟨.ref m.length, m ++ [.dic (mergeD [] ks)], by simp only [dictPD, lstOf, show m[k]? = some (MO.lst l) from hl, k1], Grw.app _ _, m.length, _, rfl, fun q => Nat.lt_irrefl _ (hP _ q), by simp, Fa.imp (fun a b r => ⟨r.1, Rp.grw r.2 (Grw.app _ _)⟩) (fa_merge k2 .nil)⟩⟩
end
end TM

end
section
set_option Elab.async false
set_option linter.all false
set_option maxRecDepth 100000
set_option maxHeartbeats 4000000
set_option autoImplicit false
/-! TM9: sorting, taking out, dicts by comprehension. -/
namespace TM
open PySem PySem.Spec L2 DL
section
variable {σ σ' τ τ' α β γ δ ρ κ : Type} {B : Bs} {Γ : Ctx σ} {Γ' : Ctx σ'} {s : σ} {s' : σ'} {A A' : DE} {As : DA} {T U : DT} {S S' S1 S2 : DS} {w w' : Lv} {R : Rp α} {R' : Rp β} {V : Rp γ} {emb : τ → σ} {o : Option α} {o' : Option β}
/-! ### sorted -/
@[irreducible] noncomputable def sortO {α : Type} (R : Rp α) [i : Dat R] (xs : List α) : List α := xs.mergeSort (PySem.W.dataLe false i.pdv)
theorem fa_pairL {r : DV → α → Prop} : ∀ {ds : List DV} {xs : List α}, Fa r ds xs → ∃ T : List (DV × α), T.map Prod.fst = ds ∧ T.map Prod.snd = xs ∧ ∀ t ∈ T, r t.1 t.2
  | [], _, .nil => ⟨[], rfl, rfl, fun t h => by cases h⟩
  | d :: ds, x :: xs, .cons p q => by
    obtain ⟨T, h1, h2, h3⟩ := fa_pairL q
    exact ⟨(d, x) :: T, by simp [h1], by simp [h2], fun t h => by
      rcases List.mem_cons.mp h with e | h
      · rw [e]; exact p
      · exact h3 t h⟩
theorem fa_of_pairs {r : DV → α → Prop} : ∀ {T : List (DV × α)}, (∀ t ∈ T, r t.1 t.2) → Fa r (T.map Prod.fst) (T.map Prod.snd)
  | [], _ => .nil
  | t :: T, h => .cons (h t List.mem_cons_self) (fa_of_pairs fun t' ht => h t' (List.mem_cons_of_mem _ ht))
theorem fa_sort [i : Dat R] {r : DV → α → Prop} {ds : List DV} {xs : List α} (h : Fa r ds xs) : Fa r (sortDs ds (xs.map i.pdv)) (sortO R xs) := by
  obtain ⟨T, h1, h2, h3⟩ := fa_pairL h
  subst h1 h2
  have e1 : sortDs (T.map Prod.fst) ((T.map Prod.snd).map i.pdv) = (T.mergeSort (PySem.W.dataLe false fun t => i.pdv t.2)).map Prod.fst := by
    unfold sortDs
    have hz : (T.map Prod.fst).zip ((T.map Prod.snd).map i.pdv) = T.map (fun t => (t.1, i.pdv t.2)) := by
      rw [List.map_map]
      exact List.zip_map'
    have hq := List.map_mergeSort (f := fun t : DV × α => (t.1, i.pdv t.2)) (r := PySem.W.dataLe false fun t => i.pdv t.2) (s := PySem.W.dataLe false Prod.snd) (l := T) (fun a _ b _ => rfl)
    rw [hz, ← hq, List.map_map]
    rfl
  have e2 : sortO R (T.map Prod.snd) = (T.mergeSort (PySem.W.dataLe false fun t => i.pdv t.2)).map Prod.snd := by
    unfold sortO
    exact (List.map_mergeSort (f := Prod.snd) (r := PySem.W.dataLe false fun t : DV × α => i.pdv t.2) (s := PySem.W.dataLe false i.pdv) (l := T) (fun a _ b _ => rfl)).symm
  rw [e1, e2]
  exact fa_of_pairs fun t ht => h3 t ((List.mergeSort_perm T _).mem_iff.mp ht)
/-- not tuples -/
class Srt {α : Type} (R : Rp α) [i : Dat R] : Prop where
  ok : ∀ xs : List α, PySem.W.Sortable (xs.map i.pdv)
theorem srt_of [i : Dat R] (h : ∀ x, ∃ a r, i.pdv x = .tuple (a :: r)) : Srt R := ⟨fun xs => .inl fun d hd => by
  obtain ⟨x, _, rfl⟩ := List.mem_map.mp hd
  exact h x⟩
instance : Srt RInt := ⟨fun xs => .inr fun d hd => by
  obtain ⟨x, _, rfl⟩ := List.mem_map.mp hd
  exact ⟨fun h => (by cases h), fun ys h => (by cases h)⟩⟩
instance : Srt RStr := ⟨fun xs => .inr fun d hd => by
  obtain ⟨x, _, rfl⟩ := List.mem_map.mp hd
  exact ⟨fun h => (by cases h), fun ys h => (by cases h)⟩⟩
instance [i : Dat R] [j : Dat R'] : Srt (RP2 R R') := srt_of fun x => ⟨_, _, rfl⟩
instance [i : Dat R] [j : Dat R'] [k : Dat V] : Srt (RP3 R R' V) := srt_of fun x => ⟨_, _, rfl⟩
theorem sort_run [i : Dat R] [f : Flat R] [k : DatO R] [z : Srt R] (h1 : i.dep ≤ 50) {P : Nat → Prop} {m : Mem} {d : DV} {ds : List DV} {xs : List α} (hs : seqOf m d = some ds) (fa : Fa (R.r P m) ds xs) (hl : xs.length ≤ 16777216) : ∃ d' m', sortD d m = .ok d' m' ∧ Grw m m' ∧ (RLst R).r (fun i => i < m.length) m' d' (sortO R xs) := by
  have e1 := dat_all (i := i) (N := 50) h1 fa
  have e2 := lay_all (i := i) fa
  refine ⟨.ref m.length, m ++ [.lst (sortDs ds (xs.map i.pdv))], ?_, Grw.app _ _, new_lst (P := P) (m1 := m) (fa_sort fa)⟩
  unfold sortD
  simp only [hs, e1]
  rw [if_pos ⟨fun a ha b hb => (alikeA xs).1 a ha b hb, z.ok xs, by omega, by rw [fa.len]; exact hl⟩]
theorem u_sortL [i : Dat R] [f : Flat R] [k : DatO R] [z : Srt R] (h1 : i.dep ≤ 50 := by decide) : U1 sortD (RLst R) (RLst R) (fun xs => (szO xs.length).bind fun _ => some (sortO R xs)) := ⟨fun {m d x v} ⟨j, l, e1, _, hl, fa⟩ hv => by
  obtain ⟨_, h2, h3⟩ := Option.bind_eq_some_iff.mp hv
  cases h3; subst e1
  exact sort_run h1 (by simp only [seqOf, show m[j]? = some (MO.lst l) from hl]) fa (szO_iff.mp h2)⟩
theorem u_sortT [i : Dat R] [f : Flat R] [k : DatO R] [z : Srt R] (h1 : i.dep ≤ 50 := by decide) : U1 sortD (RTup R) (RLst R) (fun xs => (szO xs.length).bind fun _ => some (sortO R xs)) := ⟨fun {m d x v} ⟨l, e1, fa⟩ hv => by
  obtain ⟨_, h2, h3⟩ := Option.bind_eq_some_iff.mp hv
  cases h3; subst e1
  exact sort_run h1 rfl fa (szO_iff.mp h2)⟩
/-! ### x.remove(e), of what one owns -/
@[irreducible] def remO {α : Type} (R : Rp α) [i : Dat R] (xs : List α) (y : α) : Option (List α) := (xs.findIdx? fun z => PyData.eqv (i.pdv z) (i.pdv y)).bind fun j => some (xs.eraseIdx j)
class Pln {α : Type} (R : Rp α) [i : Dat R] : Prop where
  ok : ∀ x : α, (i.pdv x).plain = true
theorem pln_all [i : Dat R] [j : Pln R] : ∀ xs : List α, PyData.plainAll (xs.map i.pdv) = true
  | [] => rfl
  | x :: xs => by simp only [List.map_cons, PyData.plainAll, j.ok x, pln_all xs, Bool.and_self]
instance : Pln RInt := ⟨fun x => rfl⟩
instance : Pln RStr := ⟨fun x => rfl⟩
instance : Pln RBl := ⟨fun x => rfl⟩
instance [i : Dat R] [j : Pln R] : Pln (RTup R) := ⟨fun x => by show PyData.plain (.tuple _) = true; simp only [PyData.plain]; exact pln_all x⟩
instance [i : Dat R] [j : Dat R'] [k : Pln R] [l : Pln R'] : Pln (RP2 R R') := ⟨fun x => by show PyData.plain (.tuple [_, _]) = true; simp [PyData.plain, PyData.plainAll, k.ok, l.ok]⟩
theorem ps_rem [ok' : CtxOk Γ] [i : Dat R] [f : Flat R] [pl : Pln R] {j : Nat} {p : σ → List α} {u : σ → List α → σ} (oa : OwnAt Γ j (CLst R) p u) (h : PE B Γ s A w R o) (h1 : i.dep ≤ 50 := by decide) : PB B Γ s (sExpr (eRemove (eVar j) A)) (o.bind fun y => (szO (p s).length).bind fun _ => remO R (p s) y) (eNx B Γ (u s)) := fun F js env m g v hv => by
  obtain ⟨y, e1, e2⟩ := Option.bind_eq_some_iff.mp hv
  obtain ⟨_, e3, e4⟩ := Option.bind_eq_some_iff.mp e2
  unfold remO at e4
  obtain ⟨n, e5, e6⟩ := Option.bind_eq_some_iff.mp e4
  cases e6
  obtain ⟨d, m1, l1, l2, l3⟩ := h F js env m g y e1
  have g' := g.grw l2
  obtain ⟨k0, ob0, a1, a2, a3, ds0, rfl, a4⟩ := oa.get g.1
  obtain ⟨k, ob, q1, q2, q3, ds, rfl, q4⟩ := oa.get g'.1
  rw [a1] at q1
  have : k0 = k := by simpa using q1
  subst this
  have hlt := (List.getElem?_eq_some_iff.mp q3).1
  have kq := g.2.jq _ a2
  have fa : Fa (R.r F.Q (m1.set k0 (.lst (ds.eraseIdx n)))) (ds.eraseIdx n) ((p s).eraseIdx n) := Fa.erase n (q4.imp fun _ _ => R.step (set_off kq))
  obtain ⟨r1, r2⟩ := own_put oa g' a1 a2 hlt (ob := .lst (ds.eraseIdx n)) (x := (p s).eraseIdx n) ⟨_, rfl, fa⟩
  refine ⟨_, m1.set k0 (.lst (ds.eraseIdx n)), F, ?_, ⟨env, js, rfl, r1⟩, l2.eff.trans r2 (fun _ _ h => h), FrLe.refl F m⟩
  have e1 : eRemove (eVar j) A env m = .ok .non (m1.set k0 (.lst (ds.eraseIdx n))) := by
    have d1 := dat_all (i := i) (N := 50) h1 q4
    have d2 := i.ok l3 50 h1
    have d3 := (i.lay l3).2
    have d4 : SeqAt.dataPlace ((p s).map i.pdv) (i.pdv y) = some n := by
      unfold SeqAt.dataPlace
      rw [List.findIdx?_map]; exact e5
    unfold eRemove
    simp only [eVar, a1, Out.bind_ok, lstOf, a3, l1, remD, q3, d1, d2]
    rw [if_pos ⟨pln_all _, pl.ok y, by omega, by rw [q4.len]; exact szO_iff.mp e3⟩, d4]
  simp only [sExpr, e1, Out.bind_ok]
/-! ### x.pop(i), of what one owns; the place may be drawn -/
@[irreducible] def popO {α : Type} (xs : List α) (i : Int) : Option (α × List α) := if -1000000000 ≤ i ∧ i ≤ 1000000000 then (seqIndex? i xs.length).bind fun n => (xs[n]?).bind fun x => some (x, xs.eraseIdx n) else none
theorem px_popAt [ok' : CtxOk Γ] [f : Flat R] {j : Nat} {p : σ → List α} {u : σ → List α → σ} {oi : Option (Int × τ)} {nu : τ → List α → τ} (oa : OwnAt Γ j (CLst R) p u) (h : PX B Γ s A RInt oi emb) (hu : ∀ t x, u (emb t) x = emb (nu t x) := by intro _ _; rfl)
    {q : Option (α × τ)} (e : q = oi.bind fun i => (popO (p (emb i.2)) i.1).bind fun r => some (r.1, nu i.2 r.2) := by rfl) : PX B Γ s (ePopAt (eVar j) A) R q emb := fun F js env m g v hv => by
  subst e
  obtain ⟨⟨i, t⟩, e1, e2⟩ := Option.bind_eq_some_iff.mp hv
  obtain ⟨r, e3, e4⟩ := Option.bind_eq_some_iff.mp e2
  cases e4
  unfold popO at e3
  split at e3
  case isFalse => cases e3
  rename_i hi
  obtain ⟨n, e5, e6⟩ := Option.bind_eq_some_iff.mp e3
  obtain ⟨x, e7, e8⟩ := Option.bind_eq_some_iff.mp e6
  cases e8
  obtain ⟨d, m1, l1, l2, l3, l4⟩ := h F js env m g (i, t) e1
  cases (show d = .int i from l3)
  obtain ⟨k0, ob0, a1, a2, a3, ds0, rfl, a4⟩ := oa.get g.1
  obtain ⟨k, ob, q1, q2, q3, ds, rfl, q4⟩ := oa.get l2.1
  rw [a1] at q1
  have : k0 = k := by simpa using q1
  subst this
  have hlt := (List.getElem?_eq_some_iff.mp q3).1
  have kq := g.2.jq _ a2
  obtain ⟨dx, b1, b2⟩ := q4.get e7
  have fa : Fa (R.r F.Q (m1.set k0 (.lst (ds.eraseIdx n)))) (ds.eraseIdx n) ((p (emb t)).eraseIdx n) := Fa.erase n (q4.imp fun _ _ => R.step (set_off kq))
  obtain ⟨r1, r2⟩ := own_put oa l2 a1 a2 hlt (ob := .lst (ds.eraseIdx n)) (x := (p (emb t)).eraseIdx n) ⟨_, rfl, fa⟩
  refine ⟨dx, m1.set k0 (.lst (ds.eraseIdx n)), ?_, by rw [← hu]; exact r1, f.flat b2, l4.tr ⟨by simp, fun i o hi e => by rw [List.getElem?_set_ne (fun (z : k0 = i) => hi (z ▸ a2))]; exact e⟩⟩
  unfold ePopAt
  simp only [eVar, a1, Out.bind_ok, lstOf, a3, l1, popAtD, q3]
  rw [q4.len, e5]
  simp only [b1, if_pos hi]
/-- a place that is not drawn -/
theorem px_popI [ok' : CtxOk Γ] [f : Flat R] {j : Nat} {p : σ → List α} {u : σ → List α → σ} {oi : Option Int} {t0 : τ} {nu : τ → List α → τ} (oa : OwnAt Γ j (CLst R) p u) (h : PE B Γ s A w RInt oi) (hs : s = emb t0) (hu : ∀ t x, u (emb t) x = emb (nu t x) := by intro _ _; rfl)
    {q : Option (α × τ)} (e : q = oi.bind fun i => (popO (p (emb t0)) i).bind fun r => some (r.1, nu t0 r.2) := by rfl) : PX B Γ s (ePopAt (eVar j) A) R q emb :=
  px_popAt oa (px_pure (PE.flat h) hs rfl rfl) hu (by rw [e]; cases oi <;> rfl)
end
/-! ### dicts by comprehension -/
section
variable {σ τ α β γ δ ρ : Type} {B : Bs} {Γ : Ctx σ} {s : σ} {T : DT} {R : Rp α} {S : Rp β} {V : Rp γ}
def dfilO [k : KeyR V] (xs : List α) (acc : List (Key × β)) (t : α → Option Bool) (g : α → Option γ) (f : α → Option β) : Option (List (Key × β)) := match xs with
  | [] => some acc
  | x :: r => (t x).bind fun b => if b then (g x).bind fun a => (f x).bind fun y => dfilO (k := k) r (putG acc (k.key a) y) t g f else dfilO (k := k) r acc t g f
theorem len_put {α : Type} (xs : List (Key × α)) (k : Key) (v : α) : (putG xs k v).length ≤ xs.length + 1 := by
  unfold putG
  split <;> simp
theorem dcomp_core {el : Bool} [kr : KeyR V] {ρ' : Type} {Γx : Ctx ρ'} {e : σ → α → ρ'} {G : DG} {E D : DE} {we wd : Lv} {t : α → Option Bool} {g : α → Option γ} {f : α → Option β} [ok : CtxOk Γ] [okx : CtxOk Γx] (hg : Tg (el := el) Γ R G Γx e) (hT : ∀ x, PT B Γx (e s x) T (t x)) (hD : ∀ x, PE B Γx (e s x) D wd V (g x)) (hE : ∀ x, PE B Γx (e s x) E we S (f x)) (hw : we.ok = true) {F : Fr} {js : List Nat} {env : DL.Env} {gs : List (Nat × MO)} {k : Nat} (hk : F.P k) (hkq : F.Q k) (hkn : F.n ≤ k) (hkj : k ∉ js) :
    ∀ (ds : List DV) (xs : List α) (m : Mem) (acc : List (Key × DV)) (ys zs : List (Key × β)), RG B Γ F js env m s → m[k]? = some (.dic acc) → Fa (fun (p : Key × DV) (q : Key × β) => p.1 = q.1 ∧ S.r F.P m p.2 q.2) acc ys → Fa (R.r (F.e el) m) ds xs → guard gs m → (∀ p ∈ gs, p.1 ≠ k) → acc.length + ds.length ≤ 16777216 → dfilO (k := kr) xs ys t g f = some zs →
      ∃ m', dcompD gs G T D E k env ds m = .ok () m' ∧ m.length ≤ m'.length ∧ (∀ i o, i ≠ k → m[i]? = some o → m'[i]? = some o) ∧ ∃ acc', m'[k]? = some (.dic acc') ∧ Fa (fun (p : Key × DV) (q : Key × β) => p.1 = q.1 ∧ S.r F.P m' p.2 q.2) acc' zs
  | [], _, m, acc, ys, zs, hr, hm, ha, .nil, hgs, hgk, hl, hz => by
    cases hz
    exact ⟨m, by unfold dcompD; rw [if_pos hgs], Nat.le_refl _, fun _ _ _ h => h, acc, hm, ha⟩
  | d :: ds, x :: xs, m, acc, ys, zs, hr, hm, ha, .cons hd hds, hgs, hgk, hl, hz => by
    simp only [dfilO] at hz
    obtain ⟨b, h1, h2⟩ := Option.bind_eq_some_iff.mp hz
    obtain ⟨env1, k1, k2⟩ := hg.run hr.1 hd
    have hr1 : RG B Γx F js env1 m (e s x) := ⟨k2, hr.2⟩
    obtain ⟨m1, l1, l2⟩ := hT x F js env1 m hr1 b h1
    have hr2 := hr.grw l2
    cases b with
    | false =>
      simp only [Bool.false_eq_true, if_false] at h2
      obtain ⟨m', q1, q2, q3, q4⟩ := dcomp_core hg hT hD hE hw hk hkq hkn hkj ds xs m1 acc ys zs hr2 (l2.2 _ _ hm) (ha.imp fun _ _ r => ⟨r.1, Rp.grw r.2 l2⟩) (hds.imp fun _ _ r => Rp.grw r l2) (fun p hp => l2.2 _ _ (hgs p hp)) hgk (by simp only [List.length_cons] at hl; omega) h2
      refine ⟨m', ?_, Nat.le_trans l2.1 q2, fun i o hi h => q3 i o hi (l2.2 i o h), q4⟩
      unfold dcompD
      rw [if_pos hgs, k1]
      simp only [Out.nox, Out.bind_ok, l1, Bool.false_eq_true, if_false, q1]
    | true =>
      simp only [if_true] at h2
      obtain ⟨a, h3, h3'⟩ := Option.bind_eq_some_iff.mp h2
      obtain ⟨y, h4, h5⟩ := Option.bind_eq_some_iff.mp h3'
      obtain ⟨da, m2, n1, n2, n3⟩ := hD x F js env1 m1 (hr1.grw l2) a h3
      obtain ⟨dy, m3, p1, p2, p3⟩ := hE x F js env1 m2 ((hr1.grw l2).grw n2) y h4
      have p3' := Rp.lvs ((hr1.grw l2).grw n2).2 hw p3
      have g13 := (l2.trans n2).trans p2
      have hm3 : m3[k]? = some (.dic acc) := g13.2 _ _ hm
      have hlt : k < m3.length := (List.getElem?_eq_some_iff.mp hm3).1
      have hr3 := hr.grw g13
      have st : ∀ i o, i ≠ k → m3[i]? = some o → (m3.set k (.dic (putG acc (kr.key a) dy)))[i]? = some o := fun i o hi h => by rw [List.getElem?_set_ne (fun q => hi q.symm)]; exact h
      have hr4 : RG B Γ F js env (m3.set k (.dic (putG acc (kr.key a) dy))) s := by
        refine ⟨ok.step hr3.2.qp (fun i o hi h => st i o ?_ h) hr3.1, hr3.2.nd, hr3.2.jq, hr3.2.qp, fun i hi => by simpa using hr3.2.pl i hi, ⟨by simpa using hr3.2.keep.1, fun i o hi h => st i o ?_ (hr3.2.keep.2 i o hi h)⟩, hr3.2.old, hr3.2.own, hr3.2.n0⟩
        · rintro rfl
          rcases hi with q | q
          · exact q hkq
          · exact hkj q
        · have := (List.getElem?_eq_some_iff.mp h).1
          have := hr.2.n0
          omega
      have fa : ∀ {α' : Type} {R' : Rp α'} {dd : DV} {xx : α'}, R'.r F.P m3 dd xx → R'.r F.P (m3.set k (.dic (putG acc (kr.key a) dy))) dd xx := fun {α' R' dd xx} r => R'.step (fun i o hi h => st i o (fun q => hi (q ▸ hk)) h) r
      have lp := len_put acc (kr.key a) dy
      obtain ⟨m', q1, q2, q3, q4⟩ := dcomp_core hg hT hD hE hw hk hkq hkn hkj ds xs (m3.set k (.dic (putG acc (kr.key a) dy))) (putG acc (kr.key a) dy) (putG ys (kr.key a) y) zs hr4 (List.getElem?_set_self hlt) (fa_put (fa p3') (ha.imp fun _ _ r => ⟨r.1, fa (Rp.grw r.2 g13)⟩)) (hds.imp fun _ _ r => R.step (set_offE (show F.e el k by cases el; exact hkq; exact hk)) (Rp.grw r g13)) (fun p hp => st _ _ (hgk p hp) (g13.2 _ _ (hgs p hp))) hgk (by simp only [List.length_cons] at hl; omega) h5
      refine ⟨m', ?_, Nat.le_trans g13.1 (by simpa using q2), fun i o hi h => q3 i o hi (st i o hi (g13.2 i o h)), q4⟩
      unfold dcompD
      rw [if_pos hgs, k1]
      simp only [Out.nox, Out.bind_ok, l1, if_true, n1, p1, kr.ok n3, hm3]
      rw [if_pos (by simp only [List.length_cons] at hl; omega), q1]
theorem pe_dcompG {el : Bool} [kr : KeyR V] {ρ' : Type} {Γx : Ctx ρ'} {e : σ → α → ρ'} {I : DI} {g' : Bool} {G : DG} {E D : DE} {we wd : Lv} {vs : List Nat} {oi : Option (List α)} {t : α → Option Bool} {g : α → Option γ} {f : α → Option β} [ok : CtxOk Γ] [okx : CtxOk Γx] (hi : PI B Γ s I g' el R oi) (hv : WipeAt Γ vs) (hg : Tg (el := el) Γ R G Γx e) (hT : ∀ x, PT B Γx (e s x) T (t x)) (hD : ∀ x, PE B Γx (e s x) D wd V (g x)) (hE : ∀ x, PE B Γx (e s x) E we S (f x)) (hw : we.ok = true)
    {F : Fr} {js : List Nat} {env : DL.Env} {m : Mem} (gg : RG B Γ F js env m s) {zs : List (Key × β)} (hz : (oi.bind fun xs => (szO xs.length).bind fun _ => dfilO (k := kr) xs [] t g f) = some zs) :
    ∃ k m' acc, eDComp I G T D E vs env m = .ok (.ref k) m' ∧ Grw m m' ∧ m.length ≤ k ∧ m'[k]? = some (.dic acc) ∧ Fa (fun (p : Key × DV) (q : Key × β) => p.1 = q.1 ∧ S.r (fun i => F.P i ∨ i = k) m' p.2 q.2) acc zs := by
  obtain ⟨xs, h1, h2⟩ := Option.bind_eq_some_iff.mp hz
  obtain ⟨_, h3, h4⟩ := Option.bind_eq_some_iff.mp h2
  obtain ⟨it, m1, k1, k2, k3, k4, k5⟩ := hi F js env m gg xs h1
  have gg1 := gg.grw k2
  have hr : RG B Γ (F.add m1.length) js (wipeD vs env) (m1 ++ [.dic []]) s := by
    have := gg1.add (ob := .dic [])
    exact ⟨hv.run this.1, this.2⟩
  have gA := Grw.app m1 [.dic []]
  have fa : Fa (R.r ((F.add m1.length).e el) (m1 ++ [.dic []])) it.ds xs := k3.imp fun _ _ r => Rp.grw (R.anti (fun i hi hp => by cases el <;> (rcases hp with q | q; exact q; omega)) r) gA
  obtain ⟨m', q1, q2, q3, acc', q4, q5⟩ := dcomp_core (kr := kr) (t := t) (g := g) (f := f) hg hT hD hE hw (F := F.add m1.length) (js := js) (env := wipeD vs env) (gs := it.gs) (k := m1.length) (.inr rfl) (.inr rfl) (by have := gg1.2.keep.1; have := gg1.2.n0; show F.n ≤ _; omega) (fun hj => by have := ok.len gg1.1 _ hj; omega)
    it.ds xs (m1 ++ [.dic []]) [] [] zs hr (by simp) .nil fa (fun p hp => gA.2 _ _ (k4 p hp)) (fun p hp => by have := (List.getElem?_eq_some_iff.mp (k4 p hp)).1; omega) (by rw [fa.len]; have := szO_iff.mp h3; simpa using this) h4
  refine ⟨m1.length, m', acc', ?_, ⟨?_, fun i o h => ?_⟩, k2.1, q4, q5⟩
  · unfold eDComp
    rw [k1]
    simp only [Out.bind_ok, q1]
  · have := k2.1; simp at q2; omega
  · have h' := k2.2 i o h
    have := (List.getElem?_eq_some_iff.mp h').1
    exact q3 i o (by omega) (gA.2 i o h')
theorem pe_dcomp {el : Bool} [kr : KeyR V] {ρ' : Type} {Γx : Ctx ρ'} {e : σ → α → ρ'} {I : DI} {g' : Bool} {G : DG} {E D : DE} {we wd : Lv} {vs : List Nat} {oi : Option (List α)} {t : α → Option Bool} {g : α → Option γ} {f : α → Option β} {p : Option (List (Key × β))} [ok : CtxOk Γ] [okx : CtxOk Γx] (hi : PI B Γ s I g' el R oi) (hv : WipeAt Γ vs) (hg : Tg (el := el) Γ R G Γx e) (hT : ∀ x, PT B Γx (e s x) T (t x)) (hD : ∀ x, PE B Γx (e s x) D wd V (g x)) (hE : ∀ x, PE B Γx (e s x) E we S (f x)) (hw : we.ok = true := by rfl)
    (ho : p = oi.bind fun xs => (szO xs.length).bind fun _ => dfilO (k := kr) xs [] t g f := by rfl) : PE B Γ s (eDComp I G T D E vs) .str (RDic S) p := fun F js env m gg v hv' => by
  subst ho
  obtain ⟨k, m', acc, h1, h2, h3, h4, h5⟩ := pe_dcompG hi hv hg hT hD hE hw gg hv'
  refine ⟨.ref k, m', h1, h2, k, acc, rfl, fun q => ?_, h4, h5.imp fun _ _ r => ⟨r.1, S.anti (fun i _ hp => .inl hp) r.2⟩⟩
  have := gg.2.pl _ q
  omega
/-- of what holds no list: new -/
theorem pe_dcompF {el : Bool} [fl : Flat S] [kr : KeyR V] {ρ' : Type} {Γx : Ctx ρ'} {e : σ → α → ρ'} {I : DI} {g' : Bool} {G : DG} {E D : DE} {we wd : Lv} {vs : List Nat} {oi : Option (List α)} {t : α → Option Bool} {g : α → Option γ} {f : α → Option β} {p : Option (List (Key × β))} [ok : CtxOk Γ] [okx : CtxOk Γx] (hi : PI B Γ s I g' el R oi) (hv : WipeAt Γ vs) (hg : Tg (el := el) Γ R G Γx e) (hT : ∀ x, PT B Γx (e s x) T (t x)) (hD : ∀ x, PE B Γx (e s x) D wd V (g x)) (hE : ∀ x, PE B Γx (e s x) E we S (f x))
    (ho : p = oi.bind fun xs => (szO xs.length).bind fun _ => dfilO (k := kr) xs [] t g f := by rfl) : PE B Γ s (eDComp I G T D E vs) .new (RDic S) p := fun F js env m gg v hv' => by
  subst ho
  obtain ⟨k, m', acc, h1, h2, h3, h4, h5⟩ := pe_dcompG hi hv hg hT hD (fun x => (hE x).flat) rfl gg hv'
  refine ⟨.ref k, m', h1, h2, k, acc, rfl, fun q => ?_, h4, h5.imp fun _ _ r => ⟨r.1, fl.flat r.2⟩⟩
  have : k < m.length := q
  omega
end
end TM

end
section
set_option Elab.async false
set_option linter.all false
set_option maxRecDepth 100000
set_option maxHeartbeats 4000000
set_option autoImplicit false
/-! TM10: more rules for the printer. -/
namespace TM
open PySem PySem.Spec L2 DL
section
variable {σ σ' τ τ' τ2 α β γ δ ρ κ : Type} {B : Bs} {Γ : Ctx σ} {Γ' : Ctx σ'} {s : σ} {s' : σ'} {A A' : DE} {As : DA} {T U : DT} {S S' S1 S2 : DS} {w w' : Lv} {R : Rp α} {R' : Rp β} {V : Rp γ} {emb : τ → σ} {o : Option α} {o' : Option β}
theorem px_emb {o : Option (α × τ)} {emb2 : τ2 → σ} {g : τ → τ2} (h : PX B Γ s A R o emb) (he : ∀ t, emb t = emb2 (g t) := by intro _; rfl) {p : Option (α × τ2)} (e : p = o.bind fun q => some (q.1, g q.2) := by rfl) : PX B Γ s A R p emb2 := fun F js env m gg v hv => by
  subst e
  obtain ⟨q, h1, h2⟩ := Option.bind_eq_some_iff.mp hv
  cases h2
  obtain ⟨d, m', k1, k2, k3, k4⟩ := h F js env m gg q h1
  exact ⟨d, m', k1, by rw [← he]; exact k2, k3, k4⟩
theorem px_unV [ok : CtxOk Γ] {f : D1} {g : α → Option β} {o : Option (α × τ)} (u : V1 f R R' g) (h : PX B Γ s A R o emb) {p : Option (β × τ)} (e : p = o.bind fun q => (g q.1).bind fun v => some (v, q.2) := by rfl) : PX B Γ s (eUn f A) R' p emb := fun F js env m gg v hv => by
  subst e
  obtain ⟨q, h1, h2⟩ := Option.bind_eq_some_iff.mp hv
  obtain ⟨y, h3, h4⟩ := Option.bind_eq_some_iff.mp h2
  cases h4
  obtain ⟨d, m1, l1, l2, l3, l4⟩ := h F js env m gg q h1
  obtain ⟨d2, m2, n1, n2, n3⟩ := u.run (P := F.P) l2.2.pl l3 h3
  exact ⟨d2, m2, by simp only [eUn, l1, Out.bind_ok, n1], l2.grw n2, n3, l4.tr n2.eff⟩
theorem px_binV [ok : CtxOk Γ] {f : D2} {g : α → β → Option γ} {o : Option (α × τ)} {o' : τ → Option (β × τ)} (u : V2 f R R' V g) (h : PX B Γ s A R o emb) (h' : ∀ t, PX B Γ (emb t) A' R' (o' t) emb) {p : Option (γ × τ)} (e : p = o.bind fun q => (o' q.2).bind fun r => (g q.1 r.1).bind fun v => some (v, r.2) := by rfl) : PX B Γ s (eBin f A A') V p emb := fun F js env m gg v hv => by
  subst e
  obtain ⟨q, h1, h2⟩ := Option.bind_eq_some_iff.mp hv
  obtain ⟨r, h3, h4⟩ := Option.bind_eq_some_iff.mp h2
  obtain ⟨y, h5, h6⟩ := Option.bind_eq_some_iff.mp h4
  cases h6
  obtain ⟨d, m1, l1, l2, l3, l4⟩ := h F js env m gg q h1
  obtain ⟨d2, m2, n1, n2, n3, n4⟩ := h' q.2 F js env m1 l2 r h3
  obtain ⟨d3, m3, k1, k2, k3⟩ := u.run (P := F.P) n2.2.pl (Rp.eff n4 l2.2 l3) n3 h5
  exact ⟨d3, m3, by simp only [eBin, l1, Out.bind_ok, n1, k1], n2.grw k2, k3, (l4.tr n4).tr k2.eff⟩
theorem px_up [i : ToA R] {o : Option (α × τ)} (h : PX B Γ s A R o emb) {p : Option (PyData × τ)} (e : p = o.bind fun q => some (i.up q.1, q.2) := by rfl) : PX B Γ s A RAny p emb := fun F js env m gg v hv => by
  subst e
  obtain ⟨q, h1, h2⟩ := Option.bind_eq_some_iff.mp hv
  cases h2
  obtain ⟨d, m', k1, k2, k3, k4⟩ := h F js env m gg q h1
  exact ⟨d, m', k1, k2, i.ok k3, k4⟩
theorem px_dn [i : OfA R] {o : Option (PyData × τ)} (h : PX B Γ s A RAny o emb) {p : Option (α × τ)} (e : p = o.bind fun q => (i.dn q.1).bind fun v => some (v, q.2) := by rfl) : PX B Γ s A R p emb := fun F js env m gg v hv => by
  subst e
  obtain ⟨q, h1, h2⟩ := Option.bind_eq_some_iff.mp hv
  obtain ⟨y, h3, h4⟩ := Option.bind_eq_some_iff.mp h2
  cases h4
  obtain ⟨d, m', k1, k2, k3, k4⟩ := h F js env m gg q h1
  exact ⟨d, m', k1, k2, i.ok k3 h3, k4⟩
theorem px_some {o : Option (α × τ)} (h : PX B Γ s A R o emb) {p : Option (Option α × τ)} (e : p = o.bind fun q => some (some q.1, q.2) := by rfl) : PX B Γ s A (ROpt R) p emb := fun F js env m gg v hv => by
  subst e
  obtain ⟨q, h1, h2⟩ := Option.bind_eq_some_iff.mp hv
  cases h2
  exact h F js env m gg q h1
/-- chains of comparisons -/
theorem pe_chain [ok : CtxOk Γ] {C : DE} {w2 : Lv} {f g : D2} {gf : α → β → Option Bool} {gg : β → γ → Option Bool} {o2 : Option γ} (u : U2 f R R' RBl gf) (u2 : U2 g R' V RBl gg) (h : PE B Γ s A w R o) (h' : PE B Γ s A' w' R' o') (h2 : PE B Γ s C w2 V o2) {p : Option Bool} (e : p = o.bind fun x => o'.bind fun y => (gf x y).bind fun b => if b then o2.bind fun z => gg y z else some false := by rfl) : PE B Γ s (eChain f g A A' C) .new RBl p := fun F js env m G v hv => by
  subst e
  obtain ⟨x, e1, e2⟩ := Option.bind_eq_some_iff.mp hv
  obtain ⟨y, e3, e4⟩ := Option.bind_eq_some_iff.mp e2
  obtain ⟨b, e5, e6⟩ := Option.bind_eq_some_iff.mp e4
  obtain ⟨d, m1, k1, k2, k3⟩ := h F js env m G x e1
  obtain ⟨d2, m2, l1, l2, l3⟩ := h' F js env m1 (G.grw k2) y e3
  obtain ⟨d3, m3, n1, n2, n3⟩ := u.run (Rp.any (Rp.grw k3 l2)) (Rp.any l3) e5
  cases (show d3 = .bl b from n3)
  cases b with
  | false =>
    cases e6
    exact ⟨.bl false, m3, by simp [eChain, k1, l1, n1], (k2.trans l2).trans n2, rfl⟩
  | true =>
    simp only [if_true] at e6
    obtain ⟨z, e7, e8⟩ := Option.bind_eq_some_iff.mp e6
    obtain ⟨d4, m4, q1, q2, q3⟩ := h2 F js env m3 (G.grw ((k2.trans l2).trans n2)) z e7
    obtain ⟨d5, m5, r1, r2, r3⟩ := u2.run (Rp.any (Rp.grw l3 (n2.trans q2))) (Rp.any q3) e8
    exact ⟨d5, m5, by simp [eChain, k1, l1, n1, q1, r1], (((k2.trans l2).trans n2).trans q2).trans r2, r3⟩
end
end TM

end
section
set_option Elab.async false
set_option linter.all false
set_option maxRecDepth 100000
set_option maxHeartbeats 4000000
set_option autoImplicit false
/-! TM11: the rest of what the printer leans on. -/
namespace TM
open PySem PySem.Spec L2 DL
section
variable {σ σ' τ τ' τ2 α β γ δ ρ κ : Type} {B : Bs} {Γ : Ctx σ} {Γ' : Ctx σ'} {s : σ} {s' : σ'} {A A' : DE} {As : DA} {T U : DT} {S S' S1 S2 : DS} {w w' : Lv} {R : Rp α} {R' : Rp β} {V : Rp γ} {emb : τ → σ} {o : Option α} {o' : Option β}
theorem pe_callU {f : D1} {g : α → Option β} {p : Option β} (u : U1 f R R' g) (h : PE B Γ s A w R o) (e : p = o.bind g := by rfl) : PE B Γ s (eCall (f1 f) (aCons A aNil)) .new R' p := fun F js env m gg v hv => by
  subst e
  obtain ⟨x, h1, h2⟩ := Option.bind_eq_some_iff.mp hv
  obtain ⟨d, m1, g1, g2, g3⟩ := h F js env m gg x h1
  obtain ⟨d', m2, k1, k2, k3⟩ := u.run (Rp.any g3) h2
  exact ⟨d', m2, by simp only [eCall, aCons, aNil, g1, Out.bind_ok, f1, k1], g2.trans k2, Rp.old k3 g2.1⟩
theorem pe_upL [i : ToA R] {o : Option (List α)} (h : PE B Γ s A w (RLst R) o) {p : Option (List PyData)} (e : p = o.bind fun xs => some (xs.map i.up) := by rfl) : PE B Γ s A w (RLst RAny) p := fun F js env m gg v hv => by
  subst e
  obtain ⟨x, h1, h2⟩ := Option.bind_eq_some_iff.mp hv
  cases h2
  obtain ⟨d, m1, g1, g2, k, ds, e, hp, hl, fa⟩ := h F js env m gg x h1
  exact ⟨d, m1, g1, g2, k, ds, e, hp, hl, fa_up fa⟩
theorem chars_ok : ∀ z : Str, strG z → ∀ c ∈ chars z, strG c := by
  intro z hz c hc
  obtain ⟨x, hx, rfl⟩ := List.mem_map.mp hc
  rw [strG_iff] at hz ⊢
  intro y hy
  rw [List.mem_singleton.mp hy]
  exact hz x hx
theorem strG_nil : strG (⟨#[]⟩ : Str) := by rw [strG_iff]; intro c hc; cases hc
theorem join_okS (a : Str) (ha : strG a) : ∀ ys : List Str, (∀ y ∈ ys, strG y) → strG (PySem.Str.join a ys)
  | [], _ => strG_nil
  | [y], h => h y List.mem_cons_self
  | y :: z :: r, h => strG_app (strG_app (h y List.mem_cons_self) ha) (join_okS a ha (z :: r) fun x hx => h x (List.mem_cons_of_mem _ hx))
theorem join_ok : ∀ (a : Str) (ys : List Str), strG a → (∀ y ∈ ys, strG y) → strG (Txt.join a ys) := fun a ys ha h => by
  have e : Txt.join a ys = PySem.Str.join a ys := StrLaws.glued_eq_join a ys
  rw [e]
  exact join_okS a ha ys h
theorem tr_dic : Tru (RDic R) (fun x => some (!x.isEmpty)) := ⟨fun {m d x v} ⟨k, l, e1, _, hl, h1⟩ hv => by
  cases hv; subst e1
  simp only [truD, show m[k]? = some (MO.dic l) from hl]
  cases h1 <;> rfl⟩
/-- a call that changes its first argument; the others are drawn -/
theorem px_callX2 [ok : CtxOk Γ] {C : Rc τ} [mx : Mix C] {D : DF} {Rs : Ra τ'} {Rr : Rp ρ} {i : Nat} {p : σ → τ} {u : σ → τ → σ} {f : τ → τ' → Option (ρ × τ)} {o : Option (τ' × τ)} (fx : FunX D C Rs Rr f) (oa : OwnAt Γ i C p u) (h : PXA B Γ s As Rs o emb) (hp : ∀ t, p (emb t) = t := by intro _; rfl) (hu : ∀ t t', u (emb t) t' = emb t' := by intro _ _; rfl) {r : Option (ρ × τ)} (e : r = o.bind fun x => f x.2 x.1 := by rfl) : PX B Γ s (eCall D (aCons (eVar i) As)) Rr r emb := fun F js env m gg v hv => by
  subst e
  obtain ⟨⟨x, b⟩, h1, h2⟩ := Option.bind_eq_some_iff.mp hv
  obtain ⟨k0, ob0, a1, a2, a3, a4⟩ := oa.get gg.1
  obtain ⟨ds, m1, l1, l2, l3, l4⟩ := h F js env m gg (x, b) h1
  obtain ⟨k, ob, q1, q2, q3, q4⟩ := oa.get l2.1
  rw [a1] at q1
  have : k0 = k := by simpa using q1
  subst this
  have kq := gg.2.jq _ a2
  rw [hp] at q4
  obtain ⟨d, m', ob', n1, n2, n3, n4, n5, n6⟩ := fx.run (P := F.P) l2.2.pl (gg.2.qp _ kq) q3 (C.anti (fun i _ hi => by rw [hi]; exact kq) q4) l3 h2
  have st : ∀ i o, ¬ F.Q i → m1[i]? = some o → m'[i]? = some o := fun i o hi h => n3 i o (fun z => hi (z ▸ kq)) h
  have eff : Eff (· ∈ js) m1 m' := ⟨n2, fun i o hi h => n3 i o (fun z => hi (z ▸ a2)) h⟩
  refine ⟨d, m', by simp only [eCall, aCons, eVar, a1, Out.bind_ok, l1, n1], ⟨?_, gg.2.nd, gg.2.jq, gg.2.qp, fun i hi => Nat.lt_of_lt_of_le (l2.2.pl i hi) n2, ⟨Nat.le_trans l2.2.keep.1 n2, fun i o hi h => n3 i o ?_ (l2.2.keep.2 i o hi h)⟩, gg.2.old, gg.2.own, gg.2.n0⟩, n6, l4.tr eff⟩
  · rw [← hu b]
    refine oa.set l2.1 gg.2.nd gg.2.qp a1 (fun j o hj h => n3 j o ?_ h) n4 (mx.mix q4 n5 st)
    rcases hj with z | z
    · exact fun q => z (q ▸ kq)
    · exact z.2
  · rintro rfl
    rcases gg.2.own i a2 with z | z
    · have := (List.getElem?_eq_some_iff.mp h).1; omega
    · exact hi z
/-- a list of one's own takes another's place -/
theorem ps_setOwnK [ok : CtxOk Γ] [ok' : CtxOk Γ'] [fl : Flat R] {i : Nat} {o : Option (List α)} {σ2 : Type} {Γ2 : Ctx σ2} {e : σ' → List α → σ2} (hk : Wk Γ s Γ' s') (h : PE B Γ s A .new (RLst R) o) (st : So Γ' i (CLst R) Γ2 e) : PB B Γ s (sSet i A) o (eNx B Γ2 (e s')) := fun F js env m g v hv => by
  obtain ⟨d, m', h1, h2, k, ds, rfl, hkk, hl, h4⟩ := h F js env m g v hv
  have hk1 : m.length ≤ k := Nat.le_of_not_lt hkk
  have hk2 : k < m'.length := (List.getElem?_eq_some_iff.mp hl).1
  obtain ⟨F1, js1, g1, l1⟩ := hk.run g
  obtain ⟨g2, l2⟩ := own_new g1 h2 hk1 hk2
  obtain ⟨js', g3⟩ := st.wf g2 (by have := g.2.keep.1; omega) (fun hj => by have := ok'.len g1.1 _ hj; omega) hl ⟨ds, rfl, h4.imp fun _ _ => fl.flat⟩
  exact ⟨_, m', F1.add k, by simp only [sSet, h1, Out.bind_ok], ⟨_, js', rfl, g3⟩, h2.eff, l1.trans l2 (Nat.le_refl _)⟩
/-- two at once, some of one's own -/
theorem ps_parVO [ok : CtxOk Γ] [ok' : CtxOk Γ'] [fl : Flat R'] {i j : Nat} {e : σ → α → σ'} {o' : Option (List β)} {σ2 : Type} {Γ2 : Ctx σ2} {e2 : σ' → List β → σ2} (st : St (el := true) Γ i R Γ' e) (st2 : So Γ' j (CLst R') Γ2 e2) (h : PE B Γ s A w R o) (h' : PE B Γ s A' .new (RLst R') o') (hw : w.ok = true := by rfl) {p : Option (α × List β)} (ep : p = o.bind fun x => o'.bind fun y => some (x, y) := by rfl) : PB B Γ s (sPar i j (aCons A (aCons A' aNil))) p (eNx B Γ2 (fun x => e2 (e s x.1) x.2)) := fun F js env m g v hv => by
  subst ep
  obtain ⟨x, h1, h2⟩ := Option.bind_eq_some_iff.mp hv
  obtain ⟨y, h3, h4⟩ := Option.bind_eq_some_iff.mp h2
  cases h4
  obtain ⟨d, m1, k1, k2, k3⟩ := h F js env m g x h1
  obtain ⟨d2, m2, l1, l2, k, ds, rfl, hk, hl, h4⟩ := h' F js env m1 (g.grw k2) y h3
  have hk1 : m1.length ≤ k := Nat.le_of_not_lt hk
  have hk2 : k < m2.length := (List.getElem?_eq_some_iff.mp hl).1
  have r1 : R.r F.P m1 d x := Rp.lvs g.2 hw k3
  have g1 : RG B Γ' F js (env.set i (some d)) m1 (e s x) := ⟨st.run (g.grw k2).1 r1, (g.grw k2).2⟩
  obtain ⟨g2, g2'⟩ := own_new g1 l2 hk1 hk2
  obtain ⟨js', g3⟩ := st2.wf g2 (by have := g1.2.keep.1; omega) (fun hj => by have := ok'.len g1.1 _ hj; omega) hl ⟨ds, rfl, h4.imp fun _ _ => fl.flat⟩
  exact ⟨_, m2, F.add k, by simp only [sPar, aCons, aNil, k1, l1, Out.bind_ok], ⟨_, js', rfl, g3⟩, (k2.trans l2).eff, fun q hq => g2' q (Nat.lt_of_lt_of_le hq k2.1)⟩
theorem ps_parOV [ok : CtxOk Γ] [ok' : CtxOk Γ'] [fl : Flat R] {i j : Nat} {e : σ → List α → σ'} {o : Option (List α)} {σ2 : Type} {Γ2 : Ctx σ2} {e2 : σ' → β → σ2} (st : So Γ i (CLst R) Γ' e) (st2 : St (el := true) Γ' j R' Γ2 e2) (h : PE B Γ s A .new (RLst R) o) (h' : PE B Γ s A' .new R' o') [fl' : Flat R'] {p : Option (List α × β)} (ep : p = o.bind fun x => o'.bind fun y => some (x, y) := by rfl) : PB B Γ s (sPar i j (aCons A (aCons A' aNil))) p (eNx B Γ2 (fun x => e2 (e s x.1) x.2)) := fun F js env m g v hv => by
  subst ep
  obtain ⟨x, h1, h2⟩ := Option.bind_eq_some_iff.mp hv
  obtain ⟨y, h3, h4⟩ := Option.bind_eq_some_iff.mp h2
  cases h4
  obtain ⟨d, m1, k1, k2, k, ds, rfl, hk, hl, h4⟩ := h F js env m g x h1
  obtain ⟨d2, m2, l1, l2, l3⟩ := h' F js env m1 (g.grw k2) y h3
  have hk1 : m.length ≤ k := Nat.le_of_not_lt hk
  have hk2 : k < m2.length := Nat.lt_of_lt_of_le (List.getElem?_eq_some_iff.mp hl).1 l2.1
  obtain ⟨g1, g1'⟩ := own_new g (k2.trans l2) hk1 hk2
  obtain ⟨js', g3⟩ := st.wf g1 (by have := g.2.keep.1; omega) (fun hj => by have := ok.len g.1 _ hj; omega) (l2.2 _ _ hl) ⟨ds, rfl, h4.imp fun _ _ => fl.flat⟩
  exact ⟨_, m2, F.add k, by simp only [sPar, aCons, aNil, k1, l1, Out.bind_ok], ⟨_, js', rfl, st2.run g3.1 (fl'.flat l3), g3.2⟩, (k2.trans l2).eff, g1'⟩
theorem ps_parOO [ok : CtxOk Γ] [ok' : CtxOk Γ'] [fl : Flat R] [fl' : Flat R'] {i j : Nat} {e : σ → List α → σ'} {o : Option (List α)} {o' : Option (List β)} {σ2 : Type} {Γ2 : Ctx σ2} {e2 : σ' → List β → σ2} (st : So Γ i (CLst R) Γ' e) (st2 : So Γ' j (CLst R') Γ2 e2) (h : PE B Γ s A .new (RLst R) o) (h' : PE B Γ s A' .new (RLst R') o') {p : Option (List α × List β)} (ep : p = o.bind fun x => o'.bind fun y => some (x, y) := by rfl) : PB B Γ s (sPar i j (aCons A (aCons A' aNil))) p (eNx B Γ2 (fun x => e2 (e s x.1) x.2)) := fun F js env m g v hv => by
  subst ep
  obtain ⟨x, h1, h2⟩ := Option.bind_eq_some_iff.mp hv
  obtain ⟨y, h3, h4⟩ := Option.bind_eq_some_iff.mp h2
  cases h4
  obtain ⟨d, m1, k1, k2, k, ds, rfl, hk, hl, h4⟩ := h F js env m g x h1
  obtain ⟨d2, m2, l1, l2, kk, es, rfl, hkk, hll, h5⟩ := h' F js env m1 (g.grw k2) y h3
  have hk1 : m.length ≤ k := Nat.le_of_not_lt hk
  have hk2 : k < m1.length := (List.getElem?_eq_some_iff.mp hl).1
  have hkk1 : m1.length ≤ kk := Nat.le_of_not_lt hkk
  have hkk2 : kk < m2.length := (List.getElem?_eq_some_iff.mp hll).1
  obtain ⟨g1, g1'⟩ := own_new g k2 hk1 hk2
  obtain ⟨js', g3⟩ := st.wf g1 (by have := g.2.keep.1; omega) (fun hj => by have := ok.len g.1 _ hj; omega) hl ⟨ds, rfl, h4.imp fun _ _ => fl.flat⟩
  obtain ⟨g4, g4'⟩ := own_new g3 l2 hkk1 hkk2
  obtain ⟨js2, g5⟩ := st2.wf g4 (by have := g3.2.keep.1; omega) (fun hj => by have := ok'.len g3.1 _ hj; omega) hll ⟨es, rfl, h5.imp fun _ _ => fl'.flat⟩
  exact ⟨_, m2, (F.add k).add kk, by simp only [sPar, aCons, aNil, k1, l1, Out.bind_ok], ⟨_, js2, rfl, g5⟩, (k2.trans l2).eff, g1'.trans g4' k2.1⟩
end
theorem inj_stc {ρ κ : Type} {Er : En ρ} {E : En κ} {g : ρ → κ} (h : Inj Er E g) : Inj Er (stc E) g := ⟨fun q => ⟨h.run q, fun env e => by cases e⟩⟩
theorem ps_seqC {σ σ' τ κ : Type} {B : Bs} {Γ : Ctx σ} {Γ' : Ctx σ'} {s : σ} {S1 S2 : DS} {E : En κ} {emb' : τ → σ'} {o1 : Option τ} {k : τ → Option κ} (h : PB B Γ s S1 o1 (eNx B Γ' emb')) (emb : τ → σ') (he : ∀ t, emb' t = emb t) (h2 : ∀ t, PB B Γ' (emb t) S2 (k t) E) {p : Option κ} (e : p = o1.bind k := by rfl) : PB B Γ s (sSeq S1 S2) p E := ps_seq h (fun t => by rw [he]; exact h2 t) e
theorem ps_at {σ κ : Type} {B : Bs} {Γ : Ctx σ} {s : σ} {S : DS} {E : En κ} (s' : σ) (hs : s = s') {o : Option κ} (h : PB B Γ s' S o E) : PB B Γ s S o E := by rw [hs]; exact h
theorem PB.st2 {σ κ : Type} {B : Bs} {Γ : Ctx σ} {s : σ} {S : DS} {o : Option κ} {E : En κ} (h : PB B Γ s S o (stc E)) : PB B Γ s S o (stc (stc E)) := fun F js env m g v hv => by
  obtain ⟨fl, m', F', h1, h2, h3⟩ := h F js env m g v hv
  exact ⟨fl, m', F', h1, ⟨h2, h2.2⟩, h3⟩
/-! ### digits, draws -/
def drawV (b : Box) (n : Int) : Int := match b.dg[b.at_]? with | some d => d % n | none => ((b.at_ : Int) * 7) % n
@[irreducible] def drawO (b : Box) (n : Int) : Option (Int × Box) := if 0 < n then some (drawV b n, ⟨b.dg, b.at_ + 1⟩) else none
/-- from the text of the law: the box is made, the rest is typed -/
theorem law_start {N : Nat} {σ : Type} {Γ : Ctx σ} {s : σ} {S S_law : DS} {Dd : DF} {F : Box → Option Bool} (hN : 2 ≤ N) (hΓ : ∀ F m, Γ F [] (List.replicate (N - 2) none) m s) (hS : S_law = sSeq (sSet 1 (eLst (aCons (eCall Dd (aCons (eVar 0) (aCons (eC (.int 0)) (aCons (eC (.int 63)) aNil)))) (aCons (eC (.int 0)) aNil)))) S)
    (hd : ∀ ns : List Int, ∃ is : List Int, Dd [.ref 0, .int 0, .int 63] [.rol (ns.map DV.int)] = .ok (.ref 1) [.rol (ns.map DV.int), .lst (is.map .int)])
    (h : ∀ B b, PB B (deadC (ownC none CBox Γ)) (b, s) S (F b) (eFn B RBl)) (hF : ∀ dg, F ⟨dg, 0⟩ = some true) (ns : List Int) : ∃ m, runT N 1 S_law [.ref 0] [.rol (ns.map DV.int)] = .ok (.bl true) m := by
  obtain ⟨is, hd⟩ := hd ns
  have e1 : envOf N [.ref 0] = some (.ref 0) :: none :: List.replicate (N - 2) none := by
    unfold envOf
    rw [show N - [DV.ref 0].length = (N - 2) + 1 by simp; omega]
    rfl
  have m2 : (sSet 1 (eLst (aCons (eCall Dd (aCons (eVar 0) (aCons (eC (.int 0)) (aCons (eC (.int 63)) aNil)))) (aCons (eC (.int 0)) aNil)))) (some (.ref 0) :: none :: List.replicate (N - 2) none) [.rol (ns.map DV.int)] = .ok (.nx (some (.ref 0) :: some (.ref 2) :: List.replicate (N - 2) none)) [.rol (ns.map DV.int), .lst (is.map .int), .lst [.ref 1, .int 0]] := by
    simp only [sSet, eLst, aCons, aNil, eCall, eVar, eC, List.getElem?_cons_zero, Out.bind_ok, hd]
    rfl
  let B : Bs := ⟨[.rol (ns.map DV.int), .lst (is.map .int)], fun _ => False, fun _ => False, fun _ h => h.elim⟩
  let Fr0 : Fr := ⟨fun i => i = 2, fun i => i = 2, 2⟩
  have g : RG B (deadC (ownC none CBox Γ)) Fr0 [2] (some (.ref 0) :: some (.ref 2) :: List.replicate (N - 2) none) [.rol (ns.map DV.int), .lst (is.map .int), .lst [.ref 1, .int 0]] ((⟨is, 0⟩ : Box), s) := by
    refine ⟨⟨_, _, rfl, 2, [], _, _, rfl, rfl, rfl, ⟨rfl, by show ¬ (1 = 2); omega, rfl⟩, Nat.le_refl 2, hΓ _ _⟩, by simp, fun j hj => List.mem_singleton.mp hj, fun i hi => hi, fun i hi => by rw [show i = 2 from hi]; exact Nat.lt_succ_self 2, ⟨Nat.le_succ 2, fun i o _ e => ?_⟩, fun i hi => hi.elim, fun j hj => .inl (by rw [List.mem_singleton.mp hj]; exact Nat.le_refl 2), rfl⟩
    have hi : i < 2 := (List.getElem?_eq_some_iff.mp e).1
    have : i = 0 ∨ i = 1 := by omega
    rcases this with rfl | rfl
    · exact e
    · exact e
  obtain ⟨fl, m', F', h1, ⟨d, h2, h3, h4⟩, _⟩ := h B ⟨is, 0⟩ Fr0 [2] _ _ g true (hF is)
  cases (show d = .bl true from h3)
  refine ⟨m', ?_⟩
  unfold runT
  rw [if_pos (show [DV.ref 0].length = 1 from rfl), e1, hS]
  simp only [sSeq, m2, Out.bind_ok, h1]
  cases fl with
  | rt d => cases h2; rfl
  | nx e => cases h2
  | bk e => cases h2
  | ct e => cases h2
end TM

end
section
set_option Elab.async false
set_option linter.all false
set_option maxRecDepth 100000
set_option maxHeartbeats 4000000
set_option autoImplicit false
/-! TM12: sorted(set(..)) of at most one pair of texts. -/
namespace TM
open PySem PySem.Spec L2 DL
@[irreducible] def sortSetO {α : Type} (R : Rp α) (xs : List α) : Option (List α) := if xs.length ≤ 1 then some xs else none
theorem u_sortSet1 : U1 sortSetD (RLst (RP2 RStr RStr)) (RLst (RP2 RStr RStr)) (sortSetO (RP2 RStr RStr)) := ⟨fun {m d x v} ⟨k, l, e1, _, hl, h1⟩ hv => by
  unfold sortSetO at hv
  split at hv
  case isFalse => cases hv
  rename_i hlen
  cases hv; subst e1
  cases h1 with
  | nil => exact ⟨.ref m.length, m ++ [.lst []], by simp only [sortSetD, lstOf, show m[k]? = some (MO.lst []) from hl], Grw.app _ _, new_lst (P := fun _ => False) (m1 := m) .nil⟩
  | cons p q =>
    cases q with
    | cons _ _ => simp at hlen
    | nil =>
      obtain ⟨a, b, rfl, h1, h2⟩ := p
      cases h1.1; cases h2.1
      exact ⟨.ref m.length, m ++ [.lst [.tup [.str _, .str _]]], by simp only [sortSetD, lstOf, show m[k]? = some (MO.lst [.tup [.str _, .str _]]) from hl], Grw.app _ _, new_lst (R := RP2 RStr RStr) (P := fun _ => False) (m1 := m) (.cons ⟨_, _, rfl, h1, h2⟩ .nil)⟩⟩
class SortSet {α : Type} (R : Rp α) : Prop where
  ok : U1 sortSetD (RLst R) (RLst R) (sortSetO R)
instance : SortSet (RP2 RStr RStr) := ⟨u_sortSet1⟩
theorem u_sortSet {α : Type} {R : Rp α} [h : SortSet R] : U1 sortSetD (RLst R) (RLst R) (sortSetO R) := h.ok
end TM

end
section
set_option Elab.async false
set_option linter.all false
set_option maxRecDepth 100000
set_option maxHeartbeats 4000000
set_option autoImplicit false
/-! TM13: calls and tuples, their parts one by one (printed by mk13.py). -/
namespace TM
open PySem PySem.Spec L2 DL
section
variable {σ σ' τ τ' ρ : Type} {B : Bs} {Γ : Ctx σ} {s : σ} {w : Lv} {emb : τ → σ}
theorem pe_call1 [ok : CtxOk Γ] {α1 : Type} {R1 : Rp α1} {A1 : DE} {o1 : Option α1} {D : DF} {V : Rp ρ} {f : α1 → Option ρ} {p : Option ρ} (u : Fun D (RaC R1 RaN) V (fun x => f x.1)) (h1 : PE B Γ s A1 w R1 o1) (e : p = o1.bind fun x1 => f x1 := by rfl) : PE B Γ s (eCall D (aCons A1 aNil)) w V p :=
  pe_call u (pa_cons h1 (pa_nil rfl) rfl) (by rw [e]; cases o1 <;> rfl)
theorem pe_call2 [ok : CtxOk Γ] {α1 α2 : Type} {R1 : Rp α1} {R2 : Rp α2} {A1 A2 : DE} {o1 : Option α1} {o2 : Option α2} {D : DF} {V : Rp ρ} {f : α1 → α2 → Option ρ} {p : Option ρ} (u : Fun D (RaC R1 (RaC R2 RaN)) V (fun x => f x.1 x.2.1)) (h1 : PE B Γ s A1 w R1 o1) (h2 : PE B Γ s A2 w R2 o2) (e : p = o1.bind fun x1 => o2.bind fun x2 => f x1 x2 := by rfl) : PE B Γ s (eCall D (aCons A1 (aCons A2 aNil))) w V p :=
  pe_call u (pa_cons h1 (pa_cons h2 (pa_nil rfl) rfl) rfl) (by rw [e]; cases o1 <;> cases o2 <;> rfl)
theorem pe_call3 [ok : CtxOk Γ] {α1 α2 α3 : Type} {R1 : Rp α1} {R2 : Rp α2} {R3 : Rp α3} {A1 A2 A3 : DE} {o1 : Option α1} {o2 : Option α2} {o3 : Option α3} {D : DF} {V : Rp ρ} {f : α1 → α2 → α3 → Option ρ} {p : Option ρ} (u : Fun D (RaC R1 (RaC R2 (RaC R3 RaN))) V (fun x => f x.1 x.2.1 x.2.2.1)) (h1 : PE B Γ s A1 w R1 o1) (h2 : PE B Γ s A2 w R2 o2) (h3 : PE B Γ s A3 w R3 o3) (e : p = o1.bind fun x1 => o2.bind fun x2 => o3.bind fun x3 => f x1 x2 x3 := by rfl) : PE B Γ s (eCall D (aCons A1 (aCons A2 (aCons A3 aNil)))) w V p :=
  pe_call u (pa_cons h1 (pa_cons h2 (pa_cons h3 (pa_nil rfl) rfl) rfl) rfl) (by rw [e]; cases o1 <;> cases o2 <;> cases o3 <;> rfl)
theorem pe_call4 [ok : CtxOk Γ] {α1 α2 α3 α4 : Type} {R1 : Rp α1} {R2 : Rp α2} {R3 : Rp α3} {R4 : Rp α4} {A1 A2 A3 A4 : DE} {o1 : Option α1} {o2 : Option α2} {o3 : Option α3} {o4 : Option α4} {D : DF} {V : Rp ρ} {f : α1 → α2 → α3 → α4 → Option ρ} {p : Option ρ} (u : Fun D (RaC R1 (RaC R2 (RaC R3 (RaC R4 RaN)))) V (fun x => f x.1 x.2.1 x.2.2.1 x.2.2.2.1)) (h1 : PE B Γ s A1 w R1 o1) (h2 : PE B Γ s A2 w R2 o2) (h3 : PE B Γ s A3 w R3 o3) (h4 : PE B Γ s A4 w R4 o4) (e : p = o1.bind fun x1 => o2.bind fun x2 => o3.bind fun x3 => o4.bind fun x4 => f x1 x2 x3 x4 := by rfl) : PE B Γ s (eCall D (aCons A1 (aCons A2 (aCons A3 (aCons A4 aNil))))) w V p :=
  pe_call u (pa_cons h1 (pa_cons h2 (pa_cons h3 (pa_cons h4 (pa_nil rfl) rfl) rfl) rfl) rfl) (by rw [e]; cases o1 <;> cases o2 <;> cases o3 <;> cases o4 <;> rfl)
theorem pe_call5 [ok : CtxOk Γ] {α1 α2 α3 α4 α5 : Type} {R1 : Rp α1} {R2 : Rp α2} {R3 : Rp α3} {R4 : Rp α4} {R5 : Rp α5} {A1 A2 A3 A4 A5 : DE} {o1 : Option α1} {o2 : Option α2} {o3 : Option α3} {o4 : Option α4} {o5 : Option α5} {D : DF} {V : Rp ρ} {f : α1 → α2 → α3 → α4 → α5 → Option ρ} {p : Option ρ} (u : Fun D (RaC R1 (RaC R2 (RaC R3 (RaC R4 (RaC R5 RaN))))) V (fun x => f x.1 x.2.1 x.2.2.1 x.2.2.2.1 x.2.2.2.2.1)) (h1 : PE B Γ s A1 w R1 o1) (h2 : PE B Γ s A2 w R2 o2) (h3 : PE B Γ s A3 w R3 o3) (h4 : PE B Γ s A4 w R4 o4) (h5 : PE B Γ s A5 w R5 o5) (e : p = o1.bind fun x1 => o2.bind fun x2 => o3.bind fun x3 => o4.bind fun x4 => o5.bind fun x5 => f x1 x2 x3 x4 x5 := by rfl) : PE B Γ s (eCall D (aCons A1 (aCons A2 (aCons A3 (aCons A4 (aCons A5 aNil)))))) w V p :=
  pe_call u (pa_cons h1 (pa_cons h2 (pa_cons h3 (pa_cons h4 (pa_cons h5 (pa_nil rfl) rfl) rfl) rfl) rfl) rfl) (by rw [e]; cases o1 <;> cases o2 <;> cases o3 <;> cases o4 <;> cases o5 <;> rfl)
theorem pe_call6 [ok : CtxOk Γ] {α1 α2 α3 α4 α5 α6 : Type} {R1 : Rp α1} {R2 : Rp α2} {R3 : Rp α3} {R4 : Rp α4} {R5 : Rp α5} {R6 : Rp α6} {A1 A2 A3 A4 A5 A6 : DE} {o1 : Option α1} {o2 : Option α2} {o3 : Option α3} {o4 : Option α4} {o5 : Option α5} {o6 : Option α6} {D : DF} {V : Rp ρ} {f : α1 → α2 → α3 → α4 → α5 → α6 → Option ρ} {p : Option ρ} (u : Fun D (RaC R1 (RaC R2 (RaC R3 (RaC R4 (RaC R5 (RaC R6 RaN)))))) V (fun x => f x.1 x.2.1 x.2.2.1 x.2.2.2.1 x.2.2.2.2.1 x.2.2.2.2.2.1)) (h1 : PE B Γ s A1 w R1 o1) (h2 : PE B Γ s A2 w R2 o2) (h3 : PE B Γ s A3 w R3 o3) (h4 : PE B Γ s A4 w R4 o4) (h5 : PE B Γ s A5 w R5 o5) (h6 : PE B Γ s A6 w R6 o6) (e : p = o1.bind fun x1 => o2.bind fun x2 => o3.bind fun x3 => o4.bind fun x4 => o5.bind fun x5 => o6.bind fun x6 => f x1 x2 x3 x4 x5 x6 := by rfl) : PE B Γ s (eCall D (aCons A1 (aCons A2 (aCons A3 (aCons A4 (aCons A5 (aCons A6 aNil))))))) w V p :=
  pe_call u (pa_cons h1 (pa_cons h2 (pa_cons h3 (pa_cons h4 (pa_cons h5 (pa_cons h6 (pa_nil rfl) rfl) rfl) rfl) rfl) rfl) rfl) (by rw [e]; cases o1 <;> cases o2 <;> cases o3 <;> cases o4 <;> cases o5 <;> cases o6 <;> rfl)
theorem pe_tp2 [ok : CtxOk Γ] {α1 α2 : Type} {R1 : Rp α1} {R2 : Rp α2} {A1 A2 : DE} {o1 : Option α1} {o2 : Option α2} {p : Option (α1 × α2)} (h1 : PE B Γ s A1 w R1 o1) (h2 : PE B Γ s A2 w R2 o2) (e : p = o1.bind fun x1 => o2.bind fun x2 => some (x1, x2) := by rfl) : PE B Γ s (eTup (aCons A1 (aCons A2 aNil))) w (RP2 R1 R2) p :=
  pe_tup2 (pa_cons h1 (pa_cons h2 (pa_nil rfl) rfl) rfl) (by rw [e]; cases o1 <;> cases o2 <;> rfl)
theorem pe_tp3 [ok : CtxOk Γ] {α1 α2 α3 : Type} {R1 : Rp α1} {R2 : Rp α2} {R3 : Rp α3} {A1 A2 A3 : DE} {o1 : Option α1} {o2 : Option α2} {o3 : Option α3} {p : Option (α1 × α2 × α3)} (h1 : PE B Γ s A1 w R1 o1) (h2 : PE B Γ s A2 w R2 o2) (h3 : PE B Γ s A3 w R3 o3) (e : p = o1.bind fun x1 => o2.bind fun x2 => o3.bind fun x3 => some (x1, x2, x3) := by rfl) : PE B Γ s (eTup (aCons A1 (aCons A2 (aCons A3 aNil)))) w (RP3 R1 R2 R3) p :=
  pe_tup3 (pa_cons h1 (pa_cons h2 (pa_cons h3 (pa_nil rfl) rfl) rfl) rfl) (by rw [e]; cases o1 <;> cases o2 <;> cases o3 <;> rfl)
theorem pe_tp4 [ok : CtxOk Γ] {α1 α2 α3 α4 : Type} {R1 : Rp α1} {R2 : Rp α2} {R3 : Rp α3} {R4 : Rp α4} {A1 A2 A3 A4 : DE} {o1 : Option α1} {o2 : Option α2} {o3 : Option α3} {o4 : Option α4} {p : Option (α1 × α2 × α3 × α4)} (h1 : PE B Γ s A1 w R1 o1) (h2 : PE B Γ s A2 w R2 o2) (h3 : PE B Γ s A3 w R3 o3) (h4 : PE B Γ s A4 w R4 o4) (e : p = o1.bind fun x1 => o2.bind fun x2 => o3.bind fun x3 => o4.bind fun x4 => some (x1, x2, x3, x4) := by rfl) : PE B Γ s (eTup (aCons A1 (aCons A2 (aCons A3 (aCons A4 aNil))))) w (RP4 R1 R2 R3 R4) p :=
  pe_tup4 (pa_cons h1 (pa_cons h2 (pa_cons h3 (pa_cons h4 (pa_nil rfl) rfl) rfl) rfl) rfl) (by rw [e]; cases o1 <;> cases o2 <;> cases o3 <;> cases o4 <;> rfl)
theorem pe_tp5 [ok : CtxOk Γ] {α1 α2 α3 α4 α5 : Type} {R1 : Rp α1} {R2 : Rp α2} {R3 : Rp α3} {R4 : Rp α4} {R5 : Rp α5} {A1 A2 A3 A4 A5 : DE} {o1 : Option α1} {o2 : Option α2} {o3 : Option α3} {o4 : Option α4} {o5 : Option α5} {p : Option (α1 × α2 × α3 × α4 × α5)} (h1 : PE B Γ s A1 w R1 o1) (h2 : PE B Γ s A2 w R2 o2) (h3 : PE B Γ s A3 w R3 o3) (h4 : PE B Γ s A4 w R4 o4) (h5 : PE B Γ s A5 w R5 o5) (e : p = o1.bind fun x1 => o2.bind fun x2 => o3.bind fun x3 => o4.bind fun x4 => o5.bind fun x5 => some (x1, x2, x3, x4, x5) := by rfl) : PE B Γ s (eTup (aCons A1 (aCons A2 (aCons A3 (aCons A4 (aCons A5 aNil)))))) w (RP5 R1 R2 R3 R4 R5) p :=
  pe_tup5 (pa_cons h1 (pa_cons h2 (pa_cons h3 (pa_cons h4 (pa_cons h5 (pa_nil rfl) rfl) rfl) rfl) rfl) rfl) (by rw [e]; cases o1 <;> cases o2 <;> cases o3 <;> cases o4 <;> cases o5 <;> rfl)
theorem ps_parF2 [ok : CtxOk Γ] {α1 α2 : Type} {R1 : Rp α1} {R2 : Rp α2} {A1 A2 : DE} {o1 : Option α1} {o2 : Option α2} {i1 : Nat} {σ1 : Type} {Γ1 : Ctx σ1} {e1 : σ → α1 → σ1} {i2 : Nat} {σ2 : Type} {Γ2 : Ctx σ2} {e2 : σ1 → α2 → σ2} (st1 : St (el := true) Γ i1 R1 Γ1 e1) (st2 : St (el := true) Γ1 i2 R2 Γ2 e2) (h1 : PE B Γ s A1 w R1 o1) (h2 : PE B Γ s A2 w R2 o2) (hw : w.ok = true := by rfl) {p : Option (α1 × α2 × Unit)} (e : p = o1.bind fun x1 => o2.bind fun x2 => some (x1, x2, ()) := by rfl) : PB B Γ s (sPar i1 i2 (aCons A1 (aCons A2 aNil))) p (eNx B Γ2 (fun v => (e2 (e1 s v.1) v.2.1))) := by
  have h := ps_par (el := true) st1 st2 (pa_cons h1 (pa_cons h2 (pa_nil rfl) rfl) rfl) hw
  have e2 : p = _ := e
  rw [e]
  intro F js env m g v hv
  exact h F js env m g v (by rw [← hv]; cases o1 <;> cases o2 <;> rfl)
theorem ps_parF3 [ok : CtxOk Γ] {α1 α2 α3 : Type} {R1 : Rp α1} {R2 : Rp α2} {R3 : Rp α3} {A1 A2 A3 : DE} {o1 : Option α1} {o2 : Option α2} {o3 : Option α3} {i1 : Nat} {σ1 : Type} {Γ1 : Ctx σ1} {e1 : σ → α1 → σ1} {i2 : Nat} {σ2 : Type} {Γ2 : Ctx σ2} {e2 : σ1 → α2 → σ2} {i3 : Nat} {σ3 : Type} {Γ3 : Ctx σ3} {e3 : σ2 → α3 → σ3} (st1 : St (el := true) Γ i1 R1 Γ1 e1) (st2 : St (el := true) Γ1 i2 R2 Γ2 e2) (st3 : St (el := true) Γ2 i3 R3 Γ3 e3) (h1 : PE B Γ s A1 w R1 o1) (h2 : PE B Γ s A2 w R2 o2) (h3 : PE B Γ s A3 w R3 o3) (hw : w.ok = true := by rfl) {p : Option (α1 × α2 × α3 × Unit)} (e : p = o1.bind fun x1 => o2.bind fun x2 => o3.bind fun x3 => some (x1, x2, x3, ()) := by rfl) : PB B Γ s (sPar3 i1 i2 i3 (aCons A1 (aCons A2 (aCons A3 aNil)))) p (eNx B Γ3 (fun v => (e3 (e2 (e1 s v.1) v.2.1) v.2.2.1))) := by
  have h := ps_par3 (el := true) st1 st2 st3 (pa_cons h1 (pa_cons h2 (pa_cons h3 (pa_nil rfl) rfl) rfl) rfl) hw
  have e2 : p = _ := e
  rw [e]
  intro F js env m g v hv
  exact h F js env m g v (by rw [← hv]; cases o1 <;> cases o2 <;> cases o3 <;> rfl)
variable {α β γ : Type} {R : Rp α} {S : Rp β} {V : Rp γ} {A A' : DE} {w' : Lv} {o : Option α} {o' : Option β}
theorem pe_callV {f : D1} {g : α → Option β} {p : Option β} (u : V1 f R S g) (h : PE B Γ s A w R o) (e : p = o.bind g := by rfl) : PE B Γ s (eCall (f1 f) (aCons A aNil)) w S p := fun F js env m gg v hv => by
  subst e
  obtain ⟨x, h1, h2⟩ := Option.bind_eq_some_iff.mp hv
  obtain ⟨d, m1, g1, g2, g3⟩ := h F js env m gg x h1
  obtain ⟨d', m2, k1, k2, k3⟩ := u.run (fun i hi => Nat.lt_of_lt_of_le (w.lt gg.2 i hi) g2.1) g3 h2
  exact ⟨d', m2, by simp only [eCall, aCons, aNil, g1, Out.bind_ok, f1, k1], g2.trans k2, k3⟩
theorem pe_callU2 [ok : CtxOk Γ] {f : D2} {g : α → β → Option γ} {p : Option γ} (u : U2 f R S V g) (h : PE B Γ s A w R o) (h' : PE B Γ s A' w' S o') (e : p = o.bind fun x => o'.bind fun y => g x y := by rfl) : PE B Γ s (eCall (f2 f) (aCons A (aCons A' aNil))) .new V p := fun F js env m gg v hv => by
  obtain ⟨d, m1, h1, h2, h3⟩ := (pe_bin u h h' e) F js env m gg v hv
  refine ⟨d, m1, ?_, h2, h3⟩
  rw [← h1]
  simp only [eCall, aCons, aNil, eBin]
  cases A env m with
  | ok x m1 => simp only [Out.bind_ok]; cases A' env m1 <;> rfl
  | exc _ _ => rfl
  | bad => rfl
theorem pe_len {g : α → Option Int} {p : Option Int} (u : Fun fLen (RaC R RaN) RInt (fun x => g x.1)) (h : PE B Γ s A w R o) (e : p = o.bind g := by rfl) : PE B Γ s (eCall fLen (aCons A aNil)) .new RInt p := fun F js env m gg v hv => by
  subst e
  obtain ⟨x, h1, h2⟩ := Option.bind_eq_some_iff.mp hv
  obtain ⟨d, m1, g1, g2, g3⟩ := h F js env m gg x h1
  obtain ⟨d', m2, k1, k2, k3⟩ := u.run (P := fun _ => False) (x := (x, ())) (fun i hi => hi.elim) ⟨d, [], rfl, Rp.any g3, rfl⟩ h2
  exact ⟨d', m2, by simp only [eCall, aCons, aNil, g1, Out.bind_ok, k1], g2.trans k2, k3⟩
/-! effects -/
theorem px_callU [ok : CtxOk Γ] {f : D1} {g : α → Option β} {o : Option (α × τ)} (u : U1 f R S g) (h : PX B Γ s A R o emb) {p : Option (β × τ)} (e : p = o.bind fun q => (g q.1).bind fun v => some (v, q.2) := by rfl) : PX B Γ s (eCall (f1 f) (aCons A aNil)) S p emb := fun F js env m gg v hv => by
  obtain ⟨d, m1, h1, h2⟩ := (px_un u h e) F js env m gg v hv
  refine ⟨d, m1, ?_, h2⟩
  rw [← h1]
  simp only [eCall, aCons, aNil, eUn]
  cases A env m <;> rfl
theorem px_callV [ok : CtxOk Γ] {f : D1} {g : α → Option β} {o : Option (α × τ)} (u : V1 f R S g) (h : PX B Γ s A R o emb) {p : Option (β × τ)} (e : p = o.bind fun q => (g q.1).bind fun v => some (v, q.2) := by rfl) : PX B Γ s (eCall (f1 f) (aCons A aNil)) S p emb := fun F js env m gg v hv => by
  obtain ⟨d, m1, h1, h2⟩ := (px_unV u h e) F js env m gg v hv
  refine ⟨d, m1, ?_, h2⟩
  rw [← h1]
  simp only [eCall, aCons, aNil, eUn]
  cases A env m <;> rfl
theorem px_len [ok : CtxOk Γ] {g : α → Option Int} {o : Option (α × τ)} (u : Fun fLen (RaC R RaN) RInt (fun x => g x.1)) (h : PX B Γ s A R o emb) {p : Option (Int × τ)} (e : p = o.bind fun q => (g q.1).bind fun v => some (v, q.2) := by rfl) : PX B Γ s (eCall fLen (aCons A aNil)) RInt p emb := fun F js env m gg v hv => by
  subst e
  obtain ⟨q, h1, h2⟩ := Option.bind_eq_some_iff.mp hv
  obtain ⟨y, h3, h4⟩ := Option.bind_eq_some_iff.mp h2
  cases h4
  obtain ⟨d, m1, l1, l2, l3, l4⟩ := h F js env m gg q h1
  obtain ⟨d2, m2, n1, n2, n3⟩ := u.run (P := fun _ => False) (x := (q.1, ())) (fun i hi => hi.elim) ⟨d, [], rfl, Rp.any l3, rfl⟩ h3
  exact ⟨d2, m2, by simp only [eCall, aCons, aNil, l1, Out.bind_ok, n1], l2.grw n2, n3, l4.tr n2.eff⟩
theorem px_call1 [ok : CtxOk Γ] {α1 : Type} {R1 : Rp α1} {A1 : DE} {o1 : Option (α1 × τ)}  {D : DF} {V : Rp ρ} {f : α1 → Option ρ} {p : Option (ρ × τ)} (u : Fun D (RaC R1 RaN) V (fun x => f x.1)) (h1 : PX B Γ s A1 R1 o1 emb)  (e : p = o1.bind fun q1 => (f q1.1).bind fun v => some (v, q1.2) := by rfl) : PX B Γ s (eCall D (aCons A1 aNil)) V p emb :=
  px_call u (pxa_cons h1 (fun t1 => (pxa_nil rfl rfl)) rfl) (by rw [e]; simp only [Option.bind_assoc, Option.bind_some])
theorem px_io1 [ok : CtxOk Γ] {α1 : Type} {R1 : Rp α1} {A1 : DE} {o1 : Option (α1 × τ)}  {C : Rc τ} [mx : Mix C] {D : DF} {V : Rp ρ} {i : Nat} {pj : σ → τ} {ud : σ → τ → σ} {f : τ → α1 → Option (ρ × τ)} {p : Option (ρ × τ)} (fx : FunX D C (RaC R1 RaN) V (fun b x => f b x.1)) (oa : OwnAt Γ i C pj ud) (h1 : PX B Γ s A1 R1 o1 emb)  (hp : ∀ t, pj (emb t) = t := by intro _; rfl) (hu : ∀ t t', ud (emb t) t' = emb t' := by intro _ _; rfl) (e : p = o1.bind fun q1 => f q1.2 q1.1 := by rfl) : PX B Γ s (eCall D (aCons (eVar i) (aCons A1 aNil))) V p emb :=
  px_callX2 fx oa (pxa_cons h1 (fun t1 => (pxa_nil rfl rfl)) rfl) hp hu (by rw [e]; simp only [Option.bind_assoc, Option.bind_some])
theorem px_call2 [ok : CtxOk Γ] {α1 α2 : Type} {R1 : Rp α1} {R2 : Rp α2} {A1 A2 : DE} {o1 : Option (α1 × τ)} {o2 : τ → Option (α2 × τ)} {D : DF} {V : Rp ρ} {f : α1 → α2 → Option ρ} {p : Option (ρ × τ)} (u : Fun D (RaC R1 (RaC R2 RaN)) V (fun x => f x.1 x.2.1)) (h1 : PX B Γ s A1 R1 o1 emb) (h2 : ∀ t, PX B Γ (emb t) A2 R2 (o2 t) emb) (e : p = o1.bind fun q1 => (o2 q1.2).bind fun q2 => (f q1.1 q2.1).bind fun v => some (v, q2.2) := by rfl) : PX B Γ s (eCall D (aCons A1 (aCons A2 aNil))) V p emb :=
  px_call u (pxa_cons h1 (fun t1 => (pxa_cons (h2 t1) (fun t2 => (pxa_nil rfl rfl)) rfl)) rfl) (by rw [e]; simp only [Option.bind_assoc, Option.bind_some])
theorem px_io2 [ok : CtxOk Γ] {α1 α2 : Type} {R1 : Rp α1} {R2 : Rp α2} {A1 A2 : DE} {o1 : Option (α1 × τ)} {o2 : τ → Option (α2 × τ)} {C : Rc τ} [mx : Mix C] {D : DF} {V : Rp ρ} {i : Nat} {pj : σ → τ} {ud : σ → τ → σ} {f : τ → α1 → α2 → Option (ρ × τ)} {p : Option (ρ × τ)} (fx : FunX D C (RaC R1 (RaC R2 RaN)) V (fun b x => f b x.1 x.2.1)) (oa : OwnAt Γ i C pj ud) (h1 : PX B Γ s A1 R1 o1 emb) (h2 : ∀ t, PX B Γ (emb t) A2 R2 (o2 t) emb) (hp : ∀ t, pj (emb t) = t := by intro _; rfl) (hu : ∀ t t', ud (emb t) t' = emb t' := by intro _ _; rfl) (e : p = o1.bind fun q1 => (o2 q1.2).bind fun q2 => f q2.2 q1.1 q2.1 := by rfl) : PX B Γ s (eCall D (aCons (eVar i) (aCons A1 (aCons A2 aNil)))) V p emb :=
  px_callX2 fx oa (pxa_cons h1 (fun t1 => (pxa_cons (h2 t1) (fun t2 => (pxa_nil rfl rfl)) rfl)) rfl) hp hu (by rw [e]; simp only [Option.bind_assoc, Option.bind_some])
theorem px_tp2 [ok : CtxOk Γ] {α1 α2 : Type} {R1 : Rp α1} {R2 : Rp α2} {A1 A2 : DE} {o1 : Option (α1 × τ)} {o2 : τ → Option (α2 × τ)} {p : Option ((α1 × α2) × τ)} (h1 : PX B Γ s A1 R1 o1 emb) (h2 : ∀ t, PX B Γ (emb t) A2 R2 (o2 t) emb) (e : p = o1.bind fun q1 => (o2 q1.2).bind fun q2 => some ((q1.1, q2.1), q2.2) := by rfl) : PX B Γ s (eTup (aCons A1 (aCons A2 aNil))) (RP2 R1 R2) p emb :=
  px_tup2 (pxa_cons h1 (fun t1 => (pxa_cons (h2 t1) (fun t2 => (pxa_nil rfl rfl)) rfl)) rfl) (by rw [e]; simp only [Option.bind_assoc, Option.bind_some])
theorem px_call3 [ok : CtxOk Γ] {α1 α2 α3 : Type} {R1 : Rp α1} {R2 : Rp α2} {R3 : Rp α3} {A1 A2 A3 : DE} {o1 : Option (α1 × τ)} {o2 : τ → Option (α2 × τ)} {o3 : τ → Option (α3 × τ)} {D : DF} {V : Rp ρ} {f : α1 → α2 → α3 → Option ρ} {p : Option (ρ × τ)} (u : Fun D (RaC R1 (RaC R2 (RaC R3 RaN))) V (fun x => f x.1 x.2.1 x.2.2.1)) (h1 : PX B Γ s A1 R1 o1 emb) (h2 : ∀ t, PX B Γ (emb t) A2 R2 (o2 t) emb) (h3 : ∀ t, PX B Γ (emb t) A3 R3 (o3 t) emb) (e : p = o1.bind fun q1 => (o2 q1.2).bind fun q2 => (o3 q2.2).bind fun q3 => (f q1.1 q2.1 q3.1).bind fun v => some (v, q3.2) := by rfl) : PX B Γ s (eCall D (aCons A1 (aCons A2 (aCons A3 aNil)))) V p emb :=
  px_call u (pxa_cons h1 (fun t1 => (pxa_cons (h2 t1) (fun t2 => (pxa_cons (h3 t2) (fun t3 => (pxa_nil rfl rfl)) rfl)) rfl)) rfl) (by rw [e]; simp only [Option.bind_assoc, Option.bind_some])
theorem px_io3 [ok : CtxOk Γ] {α1 α2 α3 : Type} {R1 : Rp α1} {R2 : Rp α2} {R3 : Rp α3} {A1 A2 A3 : DE} {o1 : Option (α1 × τ)} {o2 : τ → Option (α2 × τ)} {o3 : τ → Option (α3 × τ)} {C : Rc τ} [mx : Mix C] {D : DF} {V : Rp ρ} {i : Nat} {pj : σ → τ} {ud : σ → τ → σ} {f : τ → α1 → α2 → α3 → Option (ρ × τ)} {p : Option (ρ × τ)} (fx : FunX D C (RaC R1 (RaC R2 (RaC R3 RaN))) V (fun b x => f b x.1 x.2.1 x.2.2.1)) (oa : OwnAt Γ i C pj ud) (h1 : PX B Γ s A1 R1 o1 emb) (h2 : ∀ t, PX B Γ (emb t) A2 R2 (o2 t) emb) (h3 : ∀ t, PX B Γ (emb t) A3 R3 (o3 t) emb) (hp : ∀ t, pj (emb t) = t := by intro _; rfl) (hu : ∀ t t', ud (emb t) t' = emb t' := by intro _ _; rfl) (e : p = o1.bind fun q1 => (o2 q1.2).bind fun q2 => (o3 q2.2).bind fun q3 => f q3.2 q1.1 q2.1 q3.1 := by rfl) : PX B Γ s (eCall D (aCons (eVar i) (aCons A1 (aCons A2 (aCons A3 aNil))))) V p emb :=
  px_callX2 fx oa (pxa_cons h1 (fun t1 => (pxa_cons (h2 t1) (fun t2 => (pxa_cons (h3 t2) (fun t3 => (pxa_nil rfl rfl)) rfl)) rfl)) rfl) hp hu (by rw [e]; simp only [Option.bind_assoc, Option.bind_some])
theorem px_tp3 [ok : CtxOk Γ] {α1 α2 α3 : Type} {R1 : Rp α1} {R2 : Rp α2} {R3 : Rp α3} {A1 A2 A3 : DE} {o1 : Option (α1 × τ)} {o2 : τ → Option (α2 × τ)} {o3 : τ → Option (α3 × τ)} {p : Option ((α1 × α2 × α3) × τ)} (h1 : PX B Γ s A1 R1 o1 emb) (h2 : ∀ t, PX B Γ (emb t) A2 R2 (o2 t) emb) (h3 : ∀ t, PX B Γ (emb t) A3 R3 (o3 t) emb) (e : p = o1.bind fun q1 => (o2 q1.2).bind fun q2 => (o3 q2.2).bind fun q3 => some ((q1.1, q2.1, q3.1), q3.2) := by rfl) : PX B Γ s (eTup (aCons A1 (aCons A2 (aCons A3 aNil)))) (RP3 R1 R2 R3) p emb :=
  px_tup3 (pxa_cons h1 (fun t1 => (pxa_cons (h2 t1) (fun t2 => (pxa_cons (h3 t2) (fun t3 => (pxa_nil rfl rfl)) rfl)) rfl)) rfl) (by rw [e]; simp only [Option.bind_assoc, Option.bind_some])
theorem px_call4 [ok : CtxOk Γ] {α1 α2 α3 α4 : Type} {R1 : Rp α1} {R2 : Rp α2} {R3 : Rp α3} {R4 : Rp α4} {A1 A2 A3 A4 : DE} {o1 : Option (α1 × τ)} {o2 : τ → Option (α2 × τ)} {o3 : τ → Option (α3 × τ)} {o4 : τ → Option (α4 × τ)} {D : DF} {V : Rp ρ} {f : α1 → α2 → α3 → α4 → Option ρ} {p : Option (ρ × τ)} (u : Fun D (RaC R1 (RaC R2 (RaC R3 (RaC R4 RaN)))) V (fun x => f x.1 x.2.1 x.2.2.1 x.2.2.2.1)) (h1 : PX B Γ s A1 R1 o1 emb) (h2 : ∀ t, PX B Γ (emb t) A2 R2 (o2 t) emb) (h3 : ∀ t, PX B Γ (emb t) A3 R3 (o3 t) emb) (h4 : ∀ t, PX B Γ (emb t) A4 R4 (o4 t) emb) (e : p = o1.bind fun q1 => (o2 q1.2).bind fun q2 => (o3 q2.2).bind fun q3 => (o4 q3.2).bind fun q4 => (f q1.1 q2.1 q3.1 q4.1).bind fun v => some (v, q4.2) := by rfl) : PX B Γ s (eCall D (aCons A1 (aCons A2 (aCons A3 (aCons A4 aNil))))) V p emb :=
  px_call u (pxa_cons h1 (fun t1 => (pxa_cons (h2 t1) (fun t2 => (pxa_cons (h3 t2) (fun t3 => (pxa_cons (h4 t3) (fun t4 => (pxa_nil rfl rfl)) rfl)) rfl)) rfl)) rfl) (by rw [e]; simp only [Option.bind_assoc, Option.bind_some])
theorem px_io4 [ok : CtxOk Γ] {α1 α2 α3 α4 : Type} {R1 : Rp α1} {R2 : Rp α2} {R3 : Rp α3} {R4 : Rp α4} {A1 A2 A3 A4 : DE} {o1 : Option (α1 × τ)} {o2 : τ → Option (α2 × τ)} {o3 : τ → Option (α3 × τ)} {o4 : τ → Option (α4 × τ)} {C : Rc τ} [mx : Mix C] {D : DF} {V : Rp ρ} {i : Nat} {pj : σ → τ} {ud : σ → τ → σ} {f : τ → α1 → α2 → α3 → α4 → Option (ρ × τ)} {p : Option (ρ × τ)} (fx : FunX D C (RaC R1 (RaC R2 (RaC R3 (RaC R4 RaN)))) V (fun b x => f b x.1 x.2.1 x.2.2.1 x.2.2.2.1)) (oa : OwnAt Γ i C pj ud) (h1 : PX B Γ s A1 R1 o1 emb) (h2 : ∀ t, PX B Γ (emb t) A2 R2 (o2 t) emb) (h3 : ∀ t, PX B Γ (emb t) A3 R3 (o3 t) emb) (h4 : ∀ t, PX B Γ (emb t) A4 R4 (o4 t) emb) (hp : ∀ t, pj (emb t) = t := by intro _; rfl) (hu : ∀ t t', ud (emb t) t' = emb t' := by intro _ _; rfl) (e : p = o1.bind fun q1 => (o2 q1.2).bind fun q2 => (o3 q2.2).bind fun q3 => (o4 q3.2).bind fun q4 => f q4.2 q1.1 q2.1 q3.1 q4.1 := by rfl) : PX B Γ s (eCall D (aCons (eVar i) (aCons A1 (aCons A2 (aCons A3 (aCons A4 aNil)))))) V p emb :=
  px_callX2 fx oa (pxa_cons h1 (fun t1 => (pxa_cons (h2 t1) (fun t2 => (pxa_cons (h3 t2) (fun t3 => (pxa_cons (h4 t3) (fun t4 => (pxa_nil rfl rfl)) rfl)) rfl)) rfl)) rfl) hp hu (by rw [e]; simp only [Option.bind_assoc, Option.bind_some])
theorem px_tp4 [ok : CtxOk Γ] {α1 α2 α3 α4 : Type} {R1 : Rp α1} {R2 : Rp α2} {R3 : Rp α3} {R4 : Rp α4} {A1 A2 A3 A4 : DE} {o1 : Option (α1 × τ)} {o2 : τ → Option (α2 × τ)} {o3 : τ → Option (α3 × τ)} {o4 : τ → Option (α4 × τ)} {p : Option ((α1 × α2 × α3 × α4) × τ)} (h1 : PX B Γ s A1 R1 o1 emb) (h2 : ∀ t, PX B Γ (emb t) A2 R2 (o2 t) emb) (h3 : ∀ t, PX B Γ (emb t) A3 R3 (o3 t) emb) (h4 : ∀ t, PX B Γ (emb t) A4 R4 (o4 t) emb) (e : p = o1.bind fun q1 => (o2 q1.2).bind fun q2 => (o3 q2.2).bind fun q3 => (o4 q3.2).bind fun q4 => some ((q1.1, q2.1, q3.1, q4.1), q4.2) := by rfl) : PX B Γ s (eTup (aCons A1 (aCons A2 (aCons A3 (aCons A4 aNil))))) (RP4 R1 R2 R3 R4) p emb :=
  px_tup4 (pxa_cons h1 (fun t1 => (pxa_cons (h2 t1) (fun t2 => (pxa_cons (h3 t2) (fun t3 => (pxa_cons (h4 t3) (fun t4 => (pxa_nil rfl rfl)) rfl)) rfl)) rfl)) rfl) (by rw [e]; simp only [Option.bind_assoc, Option.bind_some])
theorem px_call5 [ok : CtxOk Γ] {α1 α2 α3 α4 α5 : Type} {R1 : Rp α1} {R2 : Rp α2} {R3 : Rp α3} {R4 : Rp α4} {R5 : Rp α5} {A1 A2 A3 A4 A5 : DE} {o1 : Option (α1 × τ)} {o2 : τ → Option (α2 × τ)} {o3 : τ → Option (α3 × τ)} {o4 : τ → Option (α4 × τ)} {o5 : τ → Option (α5 × τ)} {D : DF} {V : Rp ρ} {f : α1 → α2 → α3 → α4 → α5 → Option ρ} {p : Option (ρ × τ)} (u : Fun D (RaC R1 (RaC R2 (RaC R3 (RaC R4 (RaC R5 RaN))))) V (fun x => f x.1 x.2.1 x.2.2.1 x.2.2.2.1 x.2.2.2.2.1)) (h1 : PX B Γ s A1 R1 o1 emb) (h2 : ∀ t, PX B Γ (emb t) A2 R2 (o2 t) emb) (h3 : ∀ t, PX B Γ (emb t) A3 R3 (o3 t) emb) (h4 : ∀ t, PX B Γ (emb t) A4 R4 (o4 t) emb) (h5 : ∀ t, PX B Γ (emb t) A5 R5 (o5 t) emb) (e : p = o1.bind fun q1 => (o2 q1.2).bind fun q2 => (o3 q2.2).bind fun q3 => (o4 q3.2).bind fun q4 => (o5 q4.2).bind fun q5 => (f q1.1 q2.1 q3.1 q4.1 q5.1).bind fun v => some (v, q5.2) := by rfl) : PX B Γ s (eCall D (aCons A1 (aCons A2 (aCons A3 (aCons A4 (aCons A5 aNil)))))) V p emb :=
  px_call u (pxa_cons h1 (fun t1 => (pxa_cons (h2 t1) (fun t2 => (pxa_cons (h3 t2) (fun t3 => (pxa_cons (h4 t3) (fun t4 => (pxa_cons (h5 t4) (fun t5 => (pxa_nil rfl rfl)) rfl)) rfl)) rfl)) rfl)) rfl) (by rw [e]; simp only [Option.bind_assoc, Option.bind_some])
theorem px_io5 [ok : CtxOk Γ] {α1 α2 α3 α4 α5 : Type} {R1 : Rp α1} {R2 : Rp α2} {R3 : Rp α3} {R4 : Rp α4} {R5 : Rp α5} {A1 A2 A3 A4 A5 : DE} {o1 : Option (α1 × τ)} {o2 : τ → Option (α2 × τ)} {o3 : τ → Option (α3 × τ)} {o4 : τ → Option (α4 × τ)} {o5 : τ → Option (α5 × τ)} {C : Rc τ} [mx : Mix C] {D : DF} {V : Rp ρ} {i : Nat} {pj : σ → τ} {ud : σ → τ → σ} {f : τ → α1 → α2 → α3 → α4 → α5 → Option (ρ × τ)} {p : Option (ρ × τ)} (fx : FunX D C (RaC R1 (RaC R2 (RaC R3 (RaC R4 (RaC R5 RaN))))) V (fun b x => f b x.1 x.2.1 x.2.2.1 x.2.2.2.1 x.2.2.2.2.1)) (oa : OwnAt Γ i C pj ud) (h1 : PX B Γ s A1 R1 o1 emb) (h2 : ∀ t, PX B Γ (emb t) A2 R2 (o2 t) emb) (h3 : ∀ t, PX B Γ (emb t) A3 R3 (o3 t) emb) (h4 : ∀ t, PX B Γ (emb t) A4 R4 (o4 t) emb) (h5 : ∀ t, PX B Γ (emb t) A5 R5 (o5 t) emb) (hp : ∀ t, pj (emb t) = t := by intro _; rfl) (hu : ∀ t t', ud (emb t) t' = emb t' := by intro _ _; rfl) (e : p = o1.bind fun q1 => (o2 q1.2).bind fun q2 => (o3 q2.2).bind fun q3 => (o4 q3.2).bind fun q4 => (o5 q4.2).bind fun q5 => f q5.2 q1.1 q2.1 q3.1 q4.1 q5.1 := by rfl) : PX B Γ s (eCall D (aCons (eVar i) (aCons A1 (aCons A2 (aCons A3 (aCons A4 (aCons A5 aNil))))))) V p emb :=
  px_callX2 fx oa (pxa_cons h1 (fun t1 => (pxa_cons (h2 t1) (fun t2 => (pxa_cons (h3 t2) (fun t3 => (pxa_cons (h4 t3) (fun t4 => (pxa_cons (h5 t4) (fun t5 => (pxa_nil rfl rfl)) rfl)) rfl)) rfl)) rfl)) rfl) hp hu (by rw [e]; simp only [Option.bind_assoc, Option.bind_some])
theorem px_tp5 [ok : CtxOk Γ] {α1 α2 α3 α4 α5 : Type} {R1 : Rp α1} {R2 : Rp α2} {R3 : Rp α3} {R4 : Rp α4} {R5 : Rp α5} {A1 A2 A3 A4 A5 : DE} {o1 : Option (α1 × τ)} {o2 : τ → Option (α2 × τ)} {o3 : τ → Option (α3 × τ)} {o4 : τ → Option (α4 × τ)} {o5 : τ → Option (α5 × τ)} {p : Option ((α1 × α2 × α3 × α4 × α5) × τ)} (h1 : PX B Γ s A1 R1 o1 emb) (h2 : ∀ t, PX B Γ (emb t) A2 R2 (o2 t) emb) (h3 : ∀ t, PX B Γ (emb t) A3 R3 (o3 t) emb) (h4 : ∀ t, PX B Γ (emb t) A4 R4 (o4 t) emb) (h5 : ∀ t, PX B Γ (emb t) A5 R5 (o5 t) emb) (e : p = o1.bind fun q1 => (o2 q1.2).bind fun q2 => (o3 q2.2).bind fun q3 => (o4 q3.2).bind fun q4 => (o5 q4.2).bind fun q5 => some ((q1.1, q2.1, q3.1, q4.1, q5.1), q5.2) := by rfl) : PX B Γ s (eTup (aCons A1 (aCons A2 (aCons A3 (aCons A4 (aCons A5 aNil)))))) (RP5 R1 R2 R3 R4 R5) p emb :=
  px_tup5 (pxa_cons h1 (fun t1 => (pxa_cons (h2 t1) (fun t2 => (pxa_cons (h3 t2) (fun t3 => (pxa_cons (h4 t3) (fun t4 => (pxa_cons (h5 t4) (fun t5 => (pxa_nil rfl rfl)) rfl)) rfl)) rfl)) rfl)) rfl) (by rw [e]; simp only [Option.bind_assoc, Option.bind_some])
theorem ps_parXF2 [ok : CtxOk Γ] {α1 α2 : Type} {R1 : Rp α1} {R2 : Rp α2} {A1 A2 : DE} {o1 : Option (α1 × τ)} {o2 : τ → Option (α2 × τ)} {i1 i2 : Nat} {σ1 σ2 : Type} {Γ1 : Ctx σ1} {Γ2 : Ctx σ2} {e1 : σ → α1 → σ1} {e2 : σ1 → α2 → σ2} (st1 : St (el := true) Γ i1 R1 Γ1 e1) (st2 : St (el := true) Γ1 i2 R2 Γ2 e2) (h1 : PX B Γ s A1 R1 o1 emb) (h2 : ∀ t, PX B Γ (emb t) A2 R2 (o2 t) emb) {p : Option ((α1 × α2 × Unit) × τ)} (e : p = o1.bind fun q1 => (o2 q1.2).bind fun q2 => some ((q1.1, q2.1, ()), q2.2) := by rfl) : PB B Γ s (sPar i1 i2 (aCons A1 (aCons A2 aNil))) p (eNx B Γ2 (fun q => e2 (e1 (emb q.2) q.1.1) q.1.2.1)) := by
  have h := ps_parX st1 st2 (pxa_cons h1 (fun t1 => (pxa_cons (h2 t1) (fun t2 => (pxa_nil rfl rfl)) rfl)) rfl)
  rw [e]
  intro F js env m g v hv
  exact h F js env m g v (by rw [← hv]; simp only [Option.bind_assoc, Option.bind_some])
theorem px_ioP1 [ok : CtxOk Γ] {α1 : Type} {R1 : Rp α1} {A1 : DE} {o1 : Option α1} {C : Rc τ} [mx : Mix C] {D : DF} {V : Rp ρ} {i : Nat} {pj : σ → τ} {ud : σ → τ → σ} {f : τ → α1 → Option (ρ × τ)} {p : Option (ρ × τ)} (fx : FunX D C (RaC R1 RaN) V (fun b x => f b x.1)) (oa : OwnAt Γ i C pj ud) (h1 : PE B Γ s A1 w R1 o1) (hu : ∀ t, ud s t = emb t := by intro _; rfl) (hw : w.ok = true := by rfl) (e : p = o1.bind fun x1 => f (pj s) x1 := by rfl) : PX B Γ s (eCall D (aCons (eVar i) (aCons A1 aNil))) V p emb :=
  px_callX fx oa (pa_cons h1 (pa_nil rfl) rfl) hu hw (by rw [e]; cases o1 <;> rfl)
theorem px_ioP2 [ok : CtxOk Γ] {α1 α2 : Type} {R1 : Rp α1} {R2 : Rp α2} {A1 A2 : DE} {o1 : Option α1} {o2 : Option α2} {C : Rc τ} [mx : Mix C] {D : DF} {V : Rp ρ} {i : Nat} {pj : σ → τ} {ud : σ → τ → σ} {f : τ → α1 → α2 → Option (ρ × τ)} {p : Option (ρ × τ)} (fx : FunX D C (RaC R1 (RaC R2 RaN)) V (fun b x => f b x.1 x.2.1)) (oa : OwnAt Γ i C pj ud) (h1 : PE B Γ s A1 w R1 o1) (h2 : PE B Γ s A2 w R2 o2) (hu : ∀ t, ud s t = emb t := by intro _; rfl) (hw : w.ok = true := by rfl) (e : p = o1.bind fun x1 => o2.bind fun x2 => f (pj s) x1 x2 := by rfl) : PX B Γ s (eCall D (aCons (eVar i) (aCons A1 (aCons A2 aNil)))) V p emb :=
  px_callX fx oa (pa_cons h1 (pa_cons h2 (pa_nil rfl) rfl) rfl) hu hw (by rw [e]; cases o1 <;> cases o2 <;> rfl)
theorem px_ioP3 [ok : CtxOk Γ] {α1 α2 α3 : Type} {R1 : Rp α1} {R2 : Rp α2} {R3 : Rp α3} {A1 A2 A3 : DE} {o1 : Option α1} {o2 : Option α2} {o3 : Option α3} {C : Rc τ} [mx : Mix C] {D : DF} {V : Rp ρ} {i : Nat} {pj : σ → τ} {ud : σ → τ → σ} {f : τ → α1 → α2 → α3 → Option (ρ × τ)} {p : Option (ρ × τ)} (fx : FunX D C (RaC R1 (RaC R2 (RaC R3 RaN))) V (fun b x => f b x.1 x.2.1 x.2.2.1)) (oa : OwnAt Γ i C pj ud) (h1 : PE B Γ s A1 w R1 o1) (h2 : PE B Γ s A2 w R2 o2) (h3 : PE B Γ s A3 w R3 o3) (hu : ∀ t, ud s t = emb t := by intro _; rfl) (hw : w.ok = true := by rfl) (e : p = o1.bind fun x1 => o2.bind fun x2 => o3.bind fun x3 => f (pj s) x1 x2 x3 := by rfl) : PX B Γ s (eCall D (aCons (eVar i) (aCons A1 (aCons A2 (aCons A3 aNil))))) V p emb :=
  px_callX fx oa (pa_cons h1 (pa_cons h2 (pa_cons h3 (pa_nil rfl) rfl) rfl) rfl) hu hw (by rw [e]; cases o1 <;> cases o2 <;> cases o3 <;> rfl)
theorem px_ioP4 [ok : CtxOk Γ] {α1 α2 α3 α4 : Type} {R1 : Rp α1} {R2 : Rp α2} {R3 : Rp α3} {R4 : Rp α4} {A1 A2 A3 A4 : DE} {o1 : Option α1} {o2 : Option α2} {o3 : Option α3} {o4 : Option α4} {C : Rc τ} [mx : Mix C] {D : DF} {V : Rp ρ} {i : Nat} {pj : σ → τ} {ud : σ → τ → σ} {f : τ → α1 → α2 → α3 → α4 → Option (ρ × τ)} {p : Option (ρ × τ)} (fx : FunX D C (RaC R1 (RaC R2 (RaC R3 (RaC R4 RaN)))) V (fun b x => f b x.1 x.2.1 x.2.2.1 x.2.2.2.1)) (oa : OwnAt Γ i C pj ud) (h1 : PE B Γ s A1 w R1 o1) (h2 : PE B Γ s A2 w R2 o2) (h3 : PE B Γ s A3 w R3 o3) (h4 : PE B Γ s A4 w R4 o4) (hu : ∀ t, ud s t = emb t := by intro _; rfl) (hw : w.ok = true := by rfl) (e : p = o1.bind fun x1 => o2.bind fun x2 => o3.bind fun x3 => o4.bind fun x4 => f (pj s) x1 x2 x3 x4 := by rfl) : PX B Γ s (eCall D (aCons (eVar i) (aCons A1 (aCons A2 (aCons A3 (aCons A4 aNil)))))) V p emb :=
  px_callX fx oa (pa_cons h1 (pa_cons h2 (pa_cons h3 (pa_cons h4 (pa_nil rfl) rfl) rfl) rfl) rfl) hu hw (by rw [e]; cases o1 <;> cases o2 <;> cases o3 <;> cases o4 <;> rfl)
theorem px_ioP5 [ok : CtxOk Γ] {α1 α2 α3 α4 α5 : Type} {R1 : Rp α1} {R2 : Rp α2} {R3 : Rp α3} {R4 : Rp α4} {R5 : Rp α5} {A1 A2 A3 A4 A5 : DE} {o1 : Option α1} {o2 : Option α2} {o3 : Option α3} {o4 : Option α4} {o5 : Option α5} {C : Rc τ} [mx : Mix C] {D : DF} {V : Rp ρ} {i : Nat} {pj : σ → τ} {ud : σ → τ → σ} {f : τ → α1 → α2 → α3 → α4 → α5 → Option (ρ × τ)} {p : Option (ρ × τ)} (fx : FunX D C (RaC R1 (RaC R2 (RaC R3 (RaC R4 (RaC R5 RaN))))) V (fun b x => f b x.1 x.2.1 x.2.2.1 x.2.2.2.1 x.2.2.2.2.1)) (oa : OwnAt Γ i C pj ud) (h1 : PE B Γ s A1 w R1 o1) (h2 : PE B Γ s A2 w R2 o2) (h3 : PE B Γ s A3 w R3 o3) (h4 : PE B Γ s A4 w R4 o4) (h5 : PE B Γ s A5 w R5 o5) (hu : ∀ t, ud s t = emb t := by intro _; rfl) (hw : w.ok = true := by rfl) (e : p = o1.bind fun x1 => o2.bind fun x2 => o3.bind fun x3 => o4.bind fun x4 => o5.bind fun x5 => f (pj s) x1 x2 x3 x4 x5 := by rfl) : PX B Γ s (eCall D (aCons (eVar i) (aCons A1 (aCons A2 (aCons A3 (aCons A4 (aCons A5 aNil))))))) V p emb :=
  px_callX fx oa (pa_cons h1 (pa_cons h2 (pa_cons h3 (pa_cons h4 (pa_cons h5 (pa_nil rfl) rfl) rfl) rfl) rfl) rfl) hu hw (by rw [e]; cases o1 <;> cases o2 <;> cases o3 <;> cases o4 <;> cases o5 <;> rfl)
end
end TM

end
section
set_option Elab.async false
set_option linter.all false
set_option maxRecDepth 100000
set_option maxHeartbeats 0
namespace My
open PySem PySem.Spec L2 DL

/-! ### the text by its places -/
def top (i : Nat) : Stmt := PySem.Challenge.pw_shoplands_k08_whole_least_sum.main.body.getD i (.Pass ⟨0, 0, 0, 0⟩)
abbrev st_names_of : Stmt := top 1
abbrev st_table_of : Stmt := top 2
abbrev st_is_order : Stmt := top 3
abbrev st_sum_of : Stmt := top 5
abbrev st__is_ahead : Stmt := top 6
abbrev st_least_sum : Stmt := top 7
abbrev st_is_least_sum : Stmt := top 8
abbrev st__law_cell : Stmt := top 10
abbrev st__law_digits : Stmt := top 11
abbrev st__law_draw : Stmt := top 12
abbrev st__law_pick : Stmt := top 13
abbrev st__law_like : Stmt := top 14
abbrev st__law_shuffled : Stmt := top 15
abbrev st__law_jobs : Stmt := top 16
abbrev st__law_names : Stmt := top 17
abbrev st__law_orders : Stmt := top 18
abbrev st__law_sum_of : Stmt := top 19
abbrev st__law_other : Stmt := top 20
abbrev st__law_changed : Stmt := top 21
abbrev st_law : Stmt := top 22
/-! ### the head -/
def df_names_of : He.DefD := ⟨("names_of", none), "names_of", "names_of", defArgs st_names_of, defBody st_names_of, defScope st_names_of, [], []⟩
def df_table_of : He.DefD := ⟨("table_of", none), "table_of", "table_of", defArgs st_table_of, defBody st_table_of, defScope st_table_of, [], []⟩
def df_is_order : He.DefD := ⟨("is_order", none), "is_order", "is_order", defArgs st_is_order, defBody st_is_order, defScope st_is_order, [], []⟩
def df_sum_of : He.DefD := ⟨("sum_of", none), "sum_of", "sum_of", defArgs st_sum_of, defBody st_sum_of, defScope st_sum_of, [], []⟩
def df__is_ahead : He.DefD := ⟨("_is_ahead", none), "_is_ahead", "_is_ahead", defArgs st__is_ahead, defBody st__is_ahead, defScope st__is_ahead, [], []⟩
def df_least_sum : He.DefD := ⟨("least_sum", none), "least_sum", "least_sum", defArgs st_least_sum, defBody st_least_sum, defScope st_least_sum, [], []⟩
def df_is_least_sum : He.DefD := ⟨("is_least_sum", none), "is_least_sum", "is_least_sum", defArgs st_is_least_sum, defBody st_is_least_sum, defScope st_is_least_sum, [], []⟩
def df__law_cell : He.DefD := ⟨("_law_cell", none), "_law_cell", "_law_cell", defArgs st__law_cell, defBody st__law_cell, defScope st__law_cell, [], []⟩
def df__law_digits : He.DefD := ⟨("_law_digits", none), "_law_digits", "_law_digits", defArgs st__law_digits, defBody st__law_digits, defScope st__law_digits, [], []⟩
def df__law_draw : He.DefD := ⟨("_law_draw", none), "_law_draw", "_law_draw", defArgs st__law_draw, defBody st__law_draw, defScope st__law_draw, [], []⟩
def df__law_pick : He.DefD := ⟨("_law_pick", none), "_law_pick", "_law_pick", defArgs st__law_pick, defBody st__law_pick, defScope st__law_pick, [], []⟩
def df__law_like : He.DefD := ⟨("_law_like", none), "_law_like", "_law_like", defArgs st__law_like, defBody st__law_like, defScope st__law_like, [], []⟩
def df__law_shuffled : He.DefD := ⟨("_law_shuffled", none), "_law_shuffled", "_law_shuffled", defArgs st__law_shuffled, defBody st__law_shuffled, defScope st__law_shuffled, [], []⟩
def df__law_jobs : He.DefD := ⟨("_law_jobs", none), "_law_jobs", "_law_jobs", defArgs st__law_jobs, defBody st__law_jobs, defScope st__law_jobs, [], []⟩
def df__law_names : He.DefD := ⟨("_law_names", none), "_law_names", "_law_names", defArgs st__law_names, defBody st__law_names, defScope st__law_names, [], []⟩
def df__law_orders : He.DefD := ⟨("_law_orders", none), "_law_orders", "_law_orders", defArgs st__law_orders, defBody st__law_orders, defScope st__law_orders, [], []⟩
def df__law_sum_of : He.DefD := ⟨("_law_sum_of", none), "_law_sum_of", "_law_sum_of", defArgs st__law_sum_of, defBody st__law_sum_of, defScope st__law_sum_of, [], []⟩
def df__law_other : He.DefD := ⟨("_law_other", none), "_law_other", "_law_other", defArgs st__law_other, defBody st__law_other, defScope st__law_other, [], []⟩
def df__law_changed : He.DefD := ⟨("_law_changed", none), "_law_changed", "_law_changed", defArgs st__law_changed, defBody st__law_changed, defScope st__law_changed, [], []⟩
def df_law : He.DefD := ⟨("law", none), "law", "law", defArgs st_law, defBody st_law, defScope st_law, [], []⟩
def hfn : List He.DefD := [df_names_of, df_table_of, df_is_order, df_sum_of, df__is_ahead, df_least_sum, df_is_least_sum, df__law_cell, df__law_digits, df__law_draw, df__law_pick, df__law_like, df__law_shuffled, df__law_jobs, df__law_names, df__law_orders, df__law_sum_of, df__law_other, df__law_changed, df_law]
def hfa : List He.Fa := [.glo "names_of", .glo "table_of", .glo "is_order", .glo "sum_of", .glo "_is_ahead", .glo "least_sum", .glo "is_least_sum", .glo "_law_cell", .glo "_law_digits", .glo "_law_draw", .glo "_law_pick", .glo "_law_like", .glo "_law_shuffled", .glo "_law_jobs", .glo "_law_names", .glo "_law_orders", .glo "_law_sum_of", .glo "_law_other", .glo "_law_changed", .glo "law", .free "all", .free "bool", .free "dict", .free "int", .free "isinstance", .free "len", .free "list", .free "min", .free "range", .free "set", .free "sorted", .free "str", .free "tuple", .free "zip"]
def hn0 : List PySem.Str := ["__name__", "names_of", "table_of", "is_order", "sum_of", "_is_ahead", "least_sum", "is_least_sum", "_law_cell", "_law_digits", "_law_draw", "_law_pick", "_law_like", "_law_shuffled", "_law_jobs", "_law_names", "_law_orders", "_law_sum_of", "_law_other", "_law_changed"]
def hnames : List PySem.Str := hn0
abbrev hR : PySem.W.OpenRow := PySem.W.OpenLaw.row PySem.Challenge.rw_shoplands_k08_whole_least_sum
abbrev hk : PySem.W.Hook := He.hookD 4 hfa hfn
def hob (s : PySem.W.SharedT) : He.AlD := He.obsDG 4 hfa hfn (HandSHeadRun.getT s)
theorem hob_eq (s : PySem.W.SharedT) : hob s = hk.obs s.abs := He.obsDG_eq (HandSHeadRun.getT_eq s)
theorem hrun (w : World) : HandSHeadRun.RunEq hR (PySem.W.view hR.prog [22]) hk hob 1500 hnames w := by
  intro os
  kernel_rfl
/-- what is left to be shown: the body of the law's def, and what it answers -/
theorem holds_of (k : Nat) (hk1 : Room (k + 1) callerA) (N : List Str) (S : DS) (sc : FnScope N ["script"] (defScope st_law))
    (F : ∀ (w : World) (K : PySem.W.Frag) (mg : Str → Option Value) (base : Heap), K.In base → base.Ns mainGlobals mg → He.SaysD hfa hfn K → ∀ W, SSs ((⟨hR.prog, w, K, mg, base⟩ : Sg).cn N (defScope st_law) k W) (defBody st_law) S)
    (T : ∀ ns : List Int, ns.length ≤ 63 → ∃ m, TM.runT N.length 1 S [.ref 0] [.rol (ns.map DV.int)] = .ok (.bl true) m) : PySem.Challenge.rw_shoplands_k08_whole_least_sum.Holds := by
  w_on; o_law
  refine HandSHeadRun.head_any (r := PySem.W.OpenLaw.row PySem.Challenge.rw_shoplands_k08_whole_least_sum) (q := PySem.W.view (PySem.W.OpenLaw.row PySem.Challenge.rw_shoplands_k08_whole_least_sum).prog [22]) (H := hk) (ob := hob) (M := 1500) (loose := hnames) (d := HandSHeadRun.topDef (PySem.W.OpenLaw.row PySem.Challenge.rw_shoplands_k08_whole_least_sum).prog 22) (kwd := []) hob_eq
    (by kernel_rfl) (fun s => by kernel_rfl) hrun (by kernel_rfl) (by kernel_rfl) (by kernel_rfl) (by rfl) (by first | assumption | decide +kernel) (by decide +kernel) ⟨rfl, rfl, rfl, rfl, rfl, by decide +kernel⟩ ?hw ?hc
  case hw => w_witness2
  case hc =>
    refine walk_end (l := PySem.Challenge.rw_shoplands_k08_whole_least_sum) (n := 63) (k := k + 1) (x := "script") rfl (by decide) (by kernel_rfl) hk1 ?_
    intro w mg fa h Y G hmg0
    obtain ⟨K, KX, c⟩ := Y
    have hmg : mg ("law" : PySem.Str) = some (.ref fa) := by
      have e : (HandSHeadRun.topDef (PySem.W.OpenLaw.row PySem.Challenge.rw_shoplands_k08_whole_least_sum).prog 22).name = ("law" : PySem.Str) := by kernel_rfl
      rw [← e]
      exact hmg0
    obtain ⟨fd, FL⟩ := c.def_ 19 (d := df_law) rfl
    have e := hmg.symm.trans (He.glo_ok KX G (c.fact 19 (f := .glo "law") rfl))
    cases e
    have b := FunD.bindsA (ps := ["script"]) FL fun _ _ _ _ _ _ us hl => match us, hl with | [_], _ => rfl
    exact ⟨K, fd, TM.runT N.length 1 S, KX, fun s v => b s [v] rfl, T, fun base h1 h2 => TM.fn_okT (G := ⟨hR.prog, w, K, mg, base⟩) FL sc (F w K mg base h1 h2 c)⟩

section
variable {G : Sg}
/-- the built-ins are what they are -/
structure Fr (G : Sg) : Prop where
  f_all : G.mg "all" = none
  f_bool : G.mg "bool" = none
  f_dict : G.mg "dict" = none
  f_int : G.mg "int" = none
  f_isinstance : G.mg "isinstance" = none
  f_len : G.mg "len" = none
  f_list : G.mg "list" = none
  f_min : G.mg "min" = none
  f_range : G.mg "range" = none
  f_set : G.mg "set" = none
  f_sorted : G.mg "sorted" = none
  f_str : G.mg "str" = none
  f_tuple : G.mg "tuple" = none
  f_zip : G.mg "zip" = none
def Df (G : Sg) (d : He.DefD) : Prop := ∃ fd, FunD G.K d.name d.qual d.params d.body d.scope [] [] (He.fAd G.K d.at_) fd ∧ G.mg d.name = some (.ref (He.fAd G.K d.at_))
noncomputable def c_names_of_1 : DE := (eComp (iAnyD (eBin ixD (eVar 0) (eC (.int 1)))) (gVar 1) tYesD (eBin ixD (eVar 1) (eC (.int 0))) [1])
noncomputable def S_names_of : DS := (sRet c_names_of_1)
noncomputable def D_names_of : DF := TM.runT 2 1 S_names_of
theorem sc_names_of : FnScope ["jobs", "row"] ["jobs"] (defScope st_names_of) := ⟨rfl, rfl, rfl, by decide +kernel, rfl, by decide +kernel, by decide +kernel⟩
theorem bd_names_of (Z : Fr G) (W : XK) : SSs (G.cn ["jobs", "row"] (defScope st_names_of) 0 W) (defBody st_names_of) S_names_of :=
  (ss_one (ss_ret (se_comp (own := [("row", 1)]) (si_any (se_ix (se_var 0) se_int)) (blkOk_by (by kernel_rfl)) (sgv_var 1) sts_nil (se_ix (se_var 1) se_int))))
theorem ok_names_of (Z : Fr G) (F : Df G df_names_of) : Fn G 1 "names_of" 1 D_names_of := by
  obtain ⟨fd, F, hg⟩ := F
  exact TM.fn_mkT F sc_names_of hg (fun W => bd_names_of Z W) (fun _ _ _ _ _ _ us hl => match us, hl with | [_], _ => rfl)
noncomputable def c_table_of_1 : DE := (eDComp (iAnyD (eBin ixD (eVar 0) (eC (.int 1)))) (gVar 1) tYesD (eBin ixD (eVar 1) (eC (.int 0))) (eVar 1) [1])
noncomputable def S_table_of : DS := (sRet c_table_of_1)
noncomputable def D_table_of : DF := TM.runT 2 1 S_table_of
theorem sc_table_of : FnScope ["jobs", "row"] ["jobs"] (defScope st_table_of) := ⟨rfl, rfl, rfl, by decide +kernel, rfl, by decide +kernel, by decide +kernel⟩
theorem bd_table_of (Z : Fr G) (W : XK) : SSs (G.cn ["jobs", "row"] (defScope st_table_of) 0 W) (defBody st_table_of) S_table_of :=
  (ss_one (ss_ret (se_dcomp (own := [("row", 1)]) (si_any (se_ix (se_var 0) se_int)) (blkOk_by (by kernel_rfl)) (sgv_var 1) sts_nil (se_ix (se_var 1) se_int) (se_var 1))))
theorem ok_table_of (Z : Fr G) (F : Df G df_table_of) : Fn G 1 "table_of" 1 D_table_of := by
  obtain ⟨fd, F, hg⟩ := F
  exact TM.fn_mkT F sc_table_of hg (fun W => bd_table_of Z W) (fun _ _ _ _ _ _ us hl => match us, hl with | [_], _ => rfl)
noncomputable def c_is_order_1 : DE := (eComp (iAnyD (eVar 1)) (gVar 2) tYesD (eUn (isI "str") (eVar 2)) [2])
noncomputable def S_is_order : DS := (sSeq (sIf (tOr' (tNot' (tru (eUn (isI "tuple") (eVar 1)))) (tNot' (tru (eCall (f1 allD) (aCons c_is_order_1 aNil))))) (sRet (eC (.bl false))) sSkip)
    (sRet (eBin eqD (eCall (f1 sortD) (aCons (eVar 1) aNil)) (eCall D_names_of (aCons (eVar 0) aNil)))))
noncomputable def D_is_order : DF := TM.runT 3 2 S_is_order
theorem sc_is_order : FnScope ["jobs", "thing", "name"] ["jobs", "thing"] (defScope st_is_order) := ⟨rfl, rfl, rfl, by decide +kernel, rfl, by decide +kernel, by decide +kernel⟩
theorem bd_is_order (Z : Fr G) (h_names_of : Fn G 1 "names_of" 1 D_names_of) (W : XK) : SSs (G.cn ["jobs", "thing", "name"] (defScope st_is_order) 1 W) (defBody st_is_order) S_is_order :=
  (ss_cons (ss_if (SW.st (sw_or (st_not (st_tru (se_isI "tuple" Z.f_isinstance Z.f_tuple (se_var 1)))) (sw_or1 (st_not (st_tru (se_all Z.f_all (se_comp (own := [("name", 2)]) (si_any (se_var 1)) (blkOk_by (by kernel_rfl)) (sgv_var 2) sts_nil (se_isI "str" Z.f_isinstance Z.f_str (se_var 2))))))))) (ss_one (ss_ret se_bl)) ss_nil)
    (ss_one (ss_ret (se_eq (se_sorted Z.f_sorted (se_var 1)) (se_call h_names_of (sa_cons (se_var 0) sa_nil) (aCons_len aNil_len) (Nat.le_of_ble_eq_true rfl))))))
theorem ok_is_order (Z : Fr G) (h_names_of : Fn G 1 "names_of" 1 D_names_of) (F : Df G df_is_order) : Fn G 2 "is_order" 2 D_is_order := by
  obtain ⟨fd, F, hg⟩ := F
  exact TM.fn_mkT F sc_is_order hg (fun W => bd_is_order Z h_names_of W) (fun _ _ _ _ _ _ us hl => match us, hl with | [_, _], _ => rfl)
noncomputable def b_sum_of_1 : DS := (sSeq (sAug 3 iAdd (eBin ixD (eBin dgetD (eVar 2) (eVar 5)) (eC (.int 1))))
    (sAug 4 iAdd (eBin iMul (eVar 3) (eBin ixD (eBin dgetD (eVar 2) (eVar 5)) (eC (.int 4))))))
noncomputable def S_sum_of : DS := (sSeq (sSet 2 (eCall D_table_of (aCons (eVar 0) aNil)))
    (sSeq (sAsg (eTup (aCons (eC (.int 0)) (aCons (eC (.int 0)) aNil))) (gTupD 2 (gsCons (gVar 3) (gsCons (gVar 4) gsNil))))
    (sSeq (sFor (iAnyD (eVar 1)) (gVar 5) b_sum_of_1)
    (sRet (eVar 4)))))
noncomputable def D_sum_of : DF := TM.runT 6 2 S_sum_of
theorem sc_sum_of : FnScope ["jobs", "order", "table", "now", "found", "name"] ["jobs", "order"] (defScope st_sum_of) := ⟨rfl, rfl, rfl, by decide +kernel, rfl, by decide +kernel, by decide +kernel⟩
theorem bd_sum_of (Z : Fr G) (h_table_of : Fn G 1 "table_of" 1 D_table_of) (W : XK) : SSs (G.cn ["jobs", "order", "table", "now", "found", "name"] (defScope st_sum_of) 1 W) (defBody st_sum_of) S_sum_of :=
  (ss_cons (ss_set 2 (se_call h_table_of (sa_cons (se_var 0) sa_nil) (aCons_len aNil_len) (Nat.le_of_ble_eq_true rfl)))
    (ss_cons (ss_asg (se_tup (sa_cons se_int (sa_cons se_int sa_nil))) (sg_tup (sgs_cons (sg_var 3) (sgs_cons (sg_var 4) sgs_nil))) (hw := by rintro ⟨⟩ h; cases h; rfl))
    (ss_cons (ss_for (si_any (se_var 1)) (sg_var 5) (ss_cons (ss_aug 3 pip_add bd_iadd (se_ix (se_dget (se_var 2) (se_var 5)) se_int))
    (ss_one (ss_aug 4 pip_add bd_iadd (se_mul (se_var 3) (se_ix (se_dget (se_var 2) (se_var 5)) se_int))))))
    (ss_one (ss_ret (se_var 4))))))
theorem ok_sum_of (Z : Fr G) (h_table_of : Fn G 1 "table_of" 1 D_table_of) (F : Df G df_sum_of) : Fn G 2 "sum_of" 2 D_sum_of := by
  obtain ⟨fd, F, hg⟩ := F
  exact TM.fn_mkT F sc_sum_of hg (fun W => bd_sum_of Z h_table_of W) (fun _ _ _ _ _ _ us hl => match us, hl with | [_, _], _ => rfl)
noncomputable def S__is_ahead : DS := (sSeq (sPar 2 3 (aCons (eBin iMul (eBin ixD (eVar 0) (eC (.int 4))) (eBin ixD (eVar 1) (eC (.int 1)))) (aCons (eBin iMul (eBin ixD (eVar 1) (eC (.int 4))) (eBin ixD (eVar 0) (eC (.int 1)))) aNil)))
    (sRet (eOrV (eBin gtD (eVar 2) (eVar 3)) (eAndV (eBin eqD (eVar 2) (eVar 3)) (eBin ltD (eBin ixD (eVar 0) (eC (.int 0))) (eBin ixD (eVar 1) (eC (.int 0))))))))
noncomputable def D__is_ahead : DF := TM.runT 4 2 S__is_ahead
theorem sc__is_ahead : FnScope ["one", "other", "mine", "yours"] ["one", "other"] (defScope st__is_ahead) := ⟨rfl, rfl, rfl, by decide +kernel, rfl, by decide +kernel, by decide +kernel⟩
theorem bd__is_ahead (Z : Fr G) (W : XK) : SSs (G.cn ["one", "other", "mine", "yours"] (defScope st__is_ahead) 0 W) (defBody st__is_ahead) S__is_ahead :=
  (ss_cons (ss_par 2 3 (sa_cons (se_mul (se_ix (se_var 0) se_int) (se_ix (se_var 1) se_int)) (sa_cons (se_mul (se_ix (se_var 1) se_int) (se_ix (se_var 0) se_int)) sa_nil)) (hw := by rintro ⟨⟩ h; cases h; rfl))
    (ss_one (ss_ret (se_or (se_gt (se_var 2) (se_var 3)) (se_one (se_and (se_eq (se_var 2) (se_var 3)) (se_one (se_lt (se_ix (se_var 0) se_int) (se_ix (se_var 1) se_int)))))))))
theorem ok__is_ahead (Z : Fr G) (F : Df G df__is_ahead) : Fn G 1 "_is_ahead" 2 D__is_ahead := by
  obtain ⟨fd, F, hg⟩ := F
  exact TM.fn_mkT F sc__is_ahead hg (fun W => bd__is_ahead Z W) (fun _ _ _ _ _ _ us hl => match us, hl with | [_, _], _ => rfl)
noncomputable def b_least_sum_1 : DS := (sIf (tru (eCall D__is_ahead (aCons (eBin dgetD (eVar 1) (eVar 5)) (aCons (eBin dgetD (eVar 1) (eVar 4)) aNil)))) (sSet 4 (eVar 5)) sSkip)
noncomputable def b_least_sum_2 : DS := (sSeq (sSet 4 (eBin ixD (eVar 2) (eC (.int 0))))
    (sSeq (sFor (iAnyD (eVar 2)) (gVar 5) b_least_sum_1)
    (sSeq (sExpr (eAppend (eVar 3) (eVar 4)))
    (sExpr (eRemove (eVar 2) (eVar 4))))))
noncomputable def S_least_sum : DS := (sSeq (sPar 1 2 (aCons (eCall D_table_of (aCons (eVar 0) aNil)) (aCons (eCall D_names_of (aCons (eVar 0) aNil)) aNil)))
    (sSeq (sSet 3 (eLst aNil))
    (sSeq (sWhile (tru (eVar 2)) b_least_sum_2)
    (sRet (eCall (f1 tupD) (aCons (eVar 3) aNil))))))
noncomputable def D_least_sum : DF := TM.runT 6 1 S_least_sum
theorem sc_least_sum : FnScope ["jobs", "table", "left", "found", "first", "name"] ["jobs"] (defScope st_least_sum) := ⟨rfl, rfl, rfl, by decide +kernel, rfl, by decide +kernel, by decide +kernel⟩
theorem bd_least_sum (Z : Fr G) (h_names_of : Fn G 1 "names_of" 1 D_names_of) (h_table_of : Fn G 1 "table_of" 1 D_table_of) (h__is_ahead : Fn G 1 "_is_ahead" 2 D__is_ahead) (W : XK) : SSs (G.cn ["jobs", "table", "left", "found", "first", "name"] (defScope st_least_sum) 1 W) (defBody st_least_sum) S_least_sum :=
  (ss_cons (ss_par 1 2 (sa_cons (se_call h_table_of (sa_cons (se_var 0) sa_nil) (aCons_len aNil_len) (Nat.le_of_ble_eq_true rfl)) (sa_cons (se_call h_names_of (sa_cons (se_var 0) sa_nil) (aCons_len aNil_len) (Nat.le_of_ble_eq_true rfl)) sa_nil)) (hw := by rintro ⟨⟩ h; cases h; rfl))
    (ss_cons (ss_set 3 (se_lst sa_nil))
    (ss_cons (ss_while (st_tru (se_var 2)) (ss_cons (ss_set 4 (se_ix (se_var 2) se_int))
    (ss_cons (ss_for (si_any (se_var 2)) (sg_var 5) (ss_one (ss_if (st_tru (se_call h__is_ahead (sa_cons (se_dget (se_var 1) (se_var 5)) (sa_cons (se_dget (se_var 1) (se_var 4)) sa_nil)) (aCons_len (aCons_len aNil_len)) (Nat.le_of_ble_eq_true rfl))) (ss_one (ss_set 4 (se_var 5))) ss_nil)))
    (ss_cons (ss_expr (se_append (se_var 3) (se_var 4)))
    (ss_one (ss_expr (se_remove (se_var 2) (se_var 4))))))))
    (ss_one (ss_ret (se_tuple Z.f_tuple (se_var 3)))))))
theorem ok_least_sum (Z : Fr G) (h_names_of : Fn G 1 "names_of" 1 D_names_of) (h_table_of : Fn G 1 "table_of" 1 D_table_of) (h__is_ahead : Fn G 1 "_is_ahead" 2 D__is_ahead) (F : Df G df_least_sum) : Fn G 2 "least_sum" 1 D_least_sum := by
  obtain ⟨fd, F, hg⟩ := F
  exact TM.fn_mkT F sc_least_sum hg (fun W => bd_least_sum Z h_names_of h_table_of h__is_ahead W) (fun _ _ _ _ _ _ us hl => match us, hl with | [_], _ => rfl)
noncomputable def c_is_least_sum_1 : DE := (eComp (iAnyD (eVar 1)) (gVar 4) tYesD (eBin dgetD (eVar 2) (eVar 4)) [4])
noncomputable def c_is_least_sum_2 : DE := (eComp (iZipD (eVar 3) (eSl (eVar 3) (oSome (eC (.int 1))) oNone)) (gTupD 2 (gsCons (gVar 5) (gsCons (gVar 6) gsNil))) tYesD (eBin leD (eBin iMul (eBin ixD (eVar 6) (eC (.int 4))) (eBin ixD (eVar 5) (eC (.int 1)))) (eBin iMul (eBin ixD (eVar 5) (eC (.int 4))) (eBin ixD (eVar 6) (eC (.int 1))))) [5, 6])
noncomputable def S_is_least_sum : DS := (sSeq (sIf (tNot' (tru (eCall D_is_order (aCons (eVar 0) (aCons (eVar 1) aNil))))) (sRet (eC (.bl false))) sSkip)
    (sSeq (sSet 2 (eCall D_table_of (aCons (eVar 0) aNil)))
    (sSeq (sSet 3 c_is_least_sum_1)
    (sRet (eCall (f1 allD) (aCons c_is_least_sum_2 aNil))))))
noncomputable def D_is_least_sum : DF := TM.runT 7 2 S_is_least_sum
theorem sc_is_least_sum : FnScope ["jobs", "thing", "table", "rows", "name", "ahead", "behind"] ["jobs", "thing"] (defScope st_is_least_sum) := ⟨rfl, rfl, rfl, by decide +kernel, rfl, by decide +kernel, by decide +kernel⟩
theorem bd_is_least_sum (Z : Fr G) (h_is_order : Fn G 2 "is_order" 2 D_is_order) (h_table_of : Fn G 1 "table_of" 1 D_table_of) (W : XK) : SSs (G.cn ["jobs", "thing", "table", "rows", "name", "ahead", "behind"] (defScope st_is_least_sum) 2 W) (defBody st_is_least_sum) S_is_least_sum :=
  (ss_cons (ss_if (st_not (st_tru (se_call h_is_order (sa_cons (se_var 0) (sa_cons (se_var 1) sa_nil)) (aCons_len (aCons_len aNil_len)) (Nat.le_of_ble_eq_true rfl)))) (ss_one (ss_ret se_bl)) ss_nil)
    (ss_cons (ss_set 2 (se_call h_table_of (sa_cons (se_var 0) sa_nil) (aCons_len aNil_len) (Nat.le_of_ble_eq_true rfl)))
    (ss_cons (ss_setLc 3 (own := [("name", 4)]) (si_any (se_var 1)) (blkOk_by (by kernel_rfl)) (sgv_var 4) sts_nil (se_dget (se_var 2) (se_var 4)) (hsw := sw_yes))
    (ss_one (ss_ret (se_all Z.f_all (se_comp (own := [("ahead", 5), ("behind", 6)]) (si_zip Z.f_zip (se_var 3) (se_slice (se_var 3) (so_some se_int) so_none)) (blkOk_by (by kernel_rfl)) (sgv_tup (sgvs_cons (sgv_var 5) (sgvs_cons (sgv_var 6) sgvs_nil))) sts_nil (se_le (se_mul (se_ix (se_var 6) se_int) (se_ix (se_var 5) se_int)) (se_mul (se_ix (se_var 5) se_int) (se_ix (se_var 6) se_int))))))))))
theorem ok_is_least_sum (Z : Fr G) (h_is_order : Fn G 2 "is_order" 2 D_is_order) (h_table_of : Fn G 1 "table_of" 1 D_table_of) (F : Df G df_is_least_sum) : Fn G 3 "is_least_sum" 2 D_is_least_sum := by
  obtain ⟨fd, F, hg⟩ := F
  exact TM.fn_mkT F sc_is_least_sum hg (fun W => bd_is_least_sum Z h_is_order h_table_of W) (fun _ _ _ _ _ _ us hl => match us, hl with | [_, _], _ => rfl)
noncomputable def S__law_cell : DS := (sSeq (sIf (tst (eBin ltD (eVar 1) (eCall fLen (aCons (eVar 0) aNil)))) (sRet (eBin ixD (eVar 0) (eVar 1))) sSkip)
    (sRet (eC (.int 0))))
noncomputable def D__law_cell : DF := TM.runT 2 2 S__law_cell
theorem sc__law_cell : FnScope ["script", "k"] ["script", "k"] (defScope st__law_cell) := ⟨rfl, rfl, rfl, by decide +kernel, rfl, by decide +kernel, by decide +kernel⟩
theorem bd__law_cell (Z : Fr G) (W : XK) : SSs (G.cn ["script", "k"] (defScope st__law_cell) 0 W) (defBody st__law_cell) S__law_cell :=
  (ss_cons (ss_if (st_lt (se_var 1) (se_len Z.f_len (se_var 0))) (ss_one (ss_ret (se_ix (se_var 0) (se_var 1)))) ss_nil)
    (ss_one (ss_ret se_int)))
theorem ok__law_cell (Z : Fr G) (F : Df G df__law_cell) : Fn G 1 "_law_cell" 2 D__law_cell := by
  obtain ⟨fd, F, hg⟩ := F
  exact TM.fn_mkT F sc__law_cell hg (fun W => bd__law_cell Z W) (fun _ _ _ _ _ _ us hl => match us, hl with | [_, _], _ => rfl)
noncomputable def b__law_digits_1 : DS := (sIf (tst (eBin gtD (eVar 5) (eC (.int 0)))) (sSeq (sExpr (eAppend (eVar 3) (eBin iMod (eCall (f1 intD) (aCons (eVar 5) aNil)) (eC (.int 1000)))))
    (sSet 5 (eBin iFdiv (eVar 5) (eC (.int 1000))))) sSkip)
noncomputable def b__law_digits_2 : DS := (sSeq (sSet 7 (eBin iMod (eCall (f1 intD) (aCons (eBin addD (eBin addD (eBin iMul (eVar 7) (eC (.int 16807))) (eBin iMul (eC (.int 7)) (eVar 6))) (eC (.int 1))) aNil)) (eC (.int 2147483647))))
    (sExpr (eAppend (eVar 3) (eBin iMod (eCall (f1 intD) (aCons (eBin iFdiv (eVar 7) (eC (.int 997))) aNil)) (eC (.int 1000))))))
noncomputable def b__law_digits_3 : DS := (sSeq (sSet 5 (eCall D__law_cell (aCons (eVar 0) (aCons (eVar 4) aNil))))
    (sSeq (sIf (tst (eBin ltD (eVar 5) (eC (.int 0)))) (sSet 5 (eBin iSub (eC (.int 1)) (eBin iMul (eC (.int 2)) (eVar 5)))) sSkip)
    (sSeq (sIf (tst (eBin gtD (eCall fLen (aCons (eVar 3) aNil)) (eC (.int 1500)))) sBreak sSkip)
    (sIf (tst (eBin geD (eVar 5) (eBin iPow (eC (.int 10)) (eC (.int 18))))) (sFor (iRng1D (eC (.int 60))) (gVar 6) b__law_digits_1) (sSeq (sSet 7 (eBin iMod (eCall (f1 intD) (aCons (eBin addD (eBin addD (eBin iMul (eVar 5) (eC (.int 48271))) (eBin iMul (eVar 4) (eC (.int 69621)))) (eC (.int 11))) aNil)) (eC (.int 2147483647))))
    (sFor (iRng1D (eC (.int 12))) (gVar 6) b__law_digits_2))))))
noncomputable def S__law_digits : DS := (sSeq (sSet 3 (eLst aNil))
    (sSeq (sFor (iRng2D (eVar 1) (eVar 2)) (gVar 4) b__law_digits_3)
    (sRet (eVar 3))))
noncomputable def D__law_digits : DF := TM.runT 8 3 S__law_digits
theorem sc__law_digits : FnScope ["script", "first", "last", "digits", "k", "cell", "step", "seed"] ["script", "first", "last"] (defScope st__law_digits) := ⟨rfl, rfl, rfl, by decide +kernel, rfl, by decide +kernel, by decide +kernel⟩
theorem bd__law_digits (Z : Fr G) (h__law_cell : Fn G 1 "_law_cell" 2 D__law_cell) (W : XK) : SSs (G.cn ["script", "first", "last", "digits", "k", "cell", "step", "seed"] (defScope st__law_digits) 1 W) (defBody st__law_digits) S__law_digits :=
  (ss_cons (ss_set 3 (se_lst sa_nil))
    (ss_cons (ss_for (si_range2 (se_var 1) (se_var 2) (hm := Z.f_range)) (sg_var 4) (ss_cons (ss_set 5 (se_call h__law_cell (sa_cons (se_var 0) (sa_cons (se_var 4) sa_nil)) (aCons_len (aCons_len aNil_len)) (Nat.le_of_ble_eq_true rfl)))
    (ss_cons (ss_if (st_lt (se_var 5) se_int) (ss_one (ss_set 5 (se_sub se_int (se_mul se_int (se_var 5))))) ss_nil)
    (ss_cons (ss_if (st_gt (se_len Z.f_len (se_var 3)) se_int) (ss_one ss_break) ss_nil)
    (ss_one (ss_if (st_ge (se_var 5) (se_pow se_int se_int)) (ss_one (ss_for (si_range1 se_int (hm := Z.f_range)) (sg_var 6) (ss_one (ss_if (st_gt (se_var 5) se_int) (ss_cons (ss_expr (se_append (se_var 3) (se_mod (se_intOf Z.f_int (se_var 5)) se_int)))
    (ss_one (ss_set 5 (se_fdiv (se_var 5) se_int)))) ss_nil)))) (ss_cons (ss_set 7 (se_mod (se_intOf Z.f_int (se_plus (se_plus (se_mul (se_var 5) se_int) (se_mul (se_var 4) se_int)) se_int)) se_int))
    (ss_one (ss_for (si_range1 se_int (hm := Z.f_range)) (sg_var 6) (ss_cons (ss_set 7 (se_mod (se_intOf Z.f_int (se_plus (se_plus (se_mul (se_var 7) se_int) (se_mul se_int (se_var 6))) se_int)) se_int))
    (ss_one (ss_expr (se_append (se_var 3) (se_mod (se_intOf Z.f_int (se_fdiv (se_var 7) se_int)) se_int))))))))))))))
    (ss_one (ss_ret (se_var 3)))))
theorem ok__law_digits (Z : Fr G) (h__law_cell : Fn G 1 "_law_cell" 2 D__law_cell) (F : Df G df__law_digits) : Fn G 2 "_law_digits" 3 D__law_digits := by
  obtain ⟨fd, F, hg⟩ := F
  exact TM.fn_mkT F sc__law_digits hg (fun W => bd__law_digits Z h__law_cell W) (fun _ _ _ _ _ _ us hl => match us, hl with | [_, _, _], _ => rfl)
noncomputable def S__law_draw : DS := (sSeq (sSet 2 (eBin ixD (eVar 0) (eC (.int 1))))
    (sSeq (sAsg (eBin addD (eVar 2) (eC (.int 1))) (gSetL (eVar 0) (eC (.int 1))))
    (sSeq (sIf (tst (eBin ltD (eVar 2) (eCall fLen (aCons (eBin ixD (eVar 0) (eC (.int 0))) aNil)))) (sRet (eBin iMod (eCall (f1 intD) (aCons (eBin ixD (eBin ixD (eVar 0) (eC (.int 0))) (eVar 2)) aNil)) (eVar 1))) sSkip)
    (sRet (eBin iMod (eCall (f1 intD) (aCons (eBin iMul (eVar 2) (eC (.int 7))) aNil)) (eVar 1))))))
noncomputable def D__law_draw : DF := TM.runT 3 2 S__law_draw
theorem sc__law_draw : FnScope ["box", "many", "at"] ["box", "many"] (defScope st__law_draw) := ⟨rfl, rfl, rfl, by decide +kernel, rfl, by decide +kernel, by decide +kernel⟩
theorem bd__law_draw (Z : Fr G) (W : XK) : SSs (G.cn ["box", "many", "at"] (defScope st__law_draw) 0 W) (defBody st__law_draw) S__law_draw :=
  (ss_cons (ss_set 2 (se_ix (se_var 0) se_int))
    (ss_cons (ss_asg (se_plus (se_var 2) se_int) (sg_setL (se_var 0) se_int))
    (ss_cons (ss_if (st_lt (se_var 2) (se_len Z.f_len (se_ix (se_var 0) se_int))) (ss_one (ss_ret (se_mod (se_intOf Z.f_int (se_ix (se_ix (se_var 0) se_int) (se_var 2))) (se_var 1)))) ss_nil)
    (ss_one (ss_ret (se_mod (se_intOf Z.f_int (se_mul (se_var 2) se_int)) (se_var 1)))))))
theorem ok__law_draw (Z : Fr G) (F : Df G df__law_draw) : Fn G 1 "_law_draw" 2 D__law_draw := by
  obtain ⟨fd, F, hg⟩ := F
  exact TM.fn_mkT F sc__law_draw hg (fun W => bd__law_draw Z W) (fun _ _ _ _ _ _ us hl => match us, hl with | [_, _], _ => rfl)
noncomputable def S__law_pick : DS := (sRet (eBin ixD (eVar 1) (eBin iMod (eCall (f1 intD) (aCons (eCall D__law_draw (aCons (eVar 0) (aCons (eC (.int 900)) aNil))) aNil)) (eCall fLen (aCons (eVar 1) aNil)))))
noncomputable def D__law_pick : DF := TM.runT 2 2 S__law_pick
theorem sc__law_pick : FnScope ["box", "things"] ["box", "things"] (defScope st__law_pick) := ⟨rfl, rfl, rfl, by decide +kernel, rfl, by decide +kernel, by decide +kernel⟩
theorem bd__law_pick (Z : Fr G) (h__law_draw : Fn G 1 "_law_draw" 2 D__law_draw) (W : XK) : SSs (G.cn ["box", "things"] (defScope st__law_pick) 1 W) (defBody st__law_pick) S__law_pick :=
  (ss_one (ss_ret (se_ix (se_var 1) (se_mod (se_intOf Z.f_int (se_call h__law_draw (sa_cons (se_var 0) (sa_cons se_int sa_nil)) (aCons_len (aCons_len aNil_len)) (Nat.le_of_ble_eq_true rfl))) (se_len Z.f_len (se_var 1))))))
theorem ok__law_pick (Z : Fr G) (h__law_draw : Fn G 1 "_law_draw" 2 D__law_draw) (F : Df G df__law_pick) : Fn G 2 "_law_pick" 2 D__law_pick := by
  obtain ⟨fd, F, hg⟩ := F
  exact TM.fn_mkT F sc__law_pick hg (fun W => bd__law_pick Z h__law_draw W) (fun _ _ _ _ _ _ us hl => match us, hl with | [_, _], _ => rfl)
noncomputable def c__law_like_1 (R_ : DF) : DE := (eComp (iRng1D (eCall fLen (aCons (eVar 1) aNil))) (gVar 2) (tNot' (tru (eCall R_ (aCons (eBin ixD (eVar 0) (eVar 2)) (aCons (eBin ixD (eVar 1) (eVar 2)) aNil))))) (eC (.int 1)) [2])
noncomputable def S__law_like (R_ : DF) : DS := (sSeq (sIf (tru (eUn (isI "tuple") (eVar 1))) (sSeq (sIf (tOr' (tNot' (tru (eUn (isI "tuple") (eVar 0)))) (tst (eBin neD (eCall fLen (aCons (eVar 0) aNil)) (eCall fLen (aCons (eVar 1) aNil))))) (sRet (eC (.bl false))) sSkip)
    (sRet (eBin eqD (c__law_like_1 R_) (eLst aNil)))) sSkip)
    (sSeq (sIf (tst (eUn isN (eVar 1))) (sRet (eUn isN (eVar 0))) sSkip)
    (sSeq (sIf (tst (eUn (isBD true) (eVar 1))) (sRet (eUn (isBD true) (eVar 0))) sSkip)
    (sSeq (sIf (tst (eUn (isBD false) (eVar 1))) (sRet (eUn (isBD false) (eVar 0))) sSkip)
    (sSeq (sIf (tru (eUn (isI "str") (eVar 1))) (sRet (eAndV (eUn (isI "str") (eVar 0)) (eBin eqD (eJoin (eC (.str "")) (eLst (aCons (eVar 0) aNil))) (eVar 1)))) sSkip)
    (sRet (eAndV (eUn (isI "int") (eVar 0)) (eAndV (eNotV (eUn (isI "bool") (eVar 0))) (eBin eqD (eVar 0) (eVar 1))))))))))
noncomputable def D__law_like : Nat → DF
  | 0 => dBad
  | j + 1 => TM.runT 3 2 (S__law_like (D__law_like j))
theorem sc__law_like : FnScope ["told", "due", "k"] ["told", "due"] (defScope st__law_like) := ⟨rfl, rfl, rfl, by decide +kernel, rfl, by decide +kernel, by decide +kernel⟩
theorem bd__law_like (Z : Fr G) (j : Nat) (R_ : DF) (h_rec : Fn G (0 + j) "_law_like" 2 R_) (W : XK) : SSs (G.cn ["told", "due", "k"] (defScope st__law_like) (0 + j) W) (defBody st__law_like) (S__law_like R_) :=
  (ss_cons (ss_if (st_tru (se_isI "tuple" Z.f_isinstance Z.f_tuple (se_var 1))) (ss_cons (ss_if (SW.st (sw_or (st_not (st_tru (se_isI "tuple" Z.f_isinstance Z.f_tuple (se_var 0)))) (sw_or1 (st_ne (se_len Z.f_len (se_var 0)) (se_len Z.f_len (se_var 1)))))) (ss_one (ss_ret se_bl)) ss_nil)
    (ss_one (ss_ret (se_eq (se_comp (own := [("k", 2)]) (si_range1 (se_len Z.f_len (se_var 1)) (hm := Z.f_range)) (blkOk_by (by kernel_rfl)) (sgv_var 2) (sts_one (st_not (st_tru (se_call h_rec (sa_cons (se_ix (se_var 0) (se_var 2)) (sa_cons (se_ix (se_var 1) (se_var 2)) sa_nil)) (aCons_len (aCons_len aNil_len)) (Nat.le_refl _))))) se_int) (se_lst sa_nil))))) ss_nil)
    (ss_cons (ss_if (st_isN (se_var 1)) (ss_one (ss_ret (se_isN (se_var 0)))) ss_nil)
    (ss_cons (ss_if (st_isB (se_var 1)) (ss_one (ss_ret (se_isB (se_var 0)))) ss_nil)
    (ss_cons (ss_if (st_isB (se_var 1)) (ss_one (ss_ret (se_isB (se_var 0)))) ss_nil)
    (ss_cons (ss_if (st_tru (se_isI "str" Z.f_isinstance Z.f_str (se_var 1))) (ss_one (ss_ret (se_and (se_isI "str" Z.f_isinstance Z.f_str (se_var 0)) (se_one (se_eq (se_join se_str (se_lst (sa_cons (se_var 0) sa_nil))) (se_var 1)))))) ss_nil)
    (ss_one (ss_ret (se_and (se_isI "int" Z.f_isinstance Z.f_int (se_var 0)) (se_and (se_not (se_isI "bool" Z.f_isinstance Z.f_bool (se_var 0))) (se_one (se_eq (se_var 0) (se_var 1))))))))))))
theorem ok__law_like (Z : Fr G) (F : Df G df__law_like) (j : Nat) : Fn G (0 + j) "_law_like" 2 (D__law_like j) := by
  obtain ⟨fd, F, hg⟩ := F
  induction j with
  | zero => exact fn_zero (ps := ["told", "due"]) F hg (fun _ _ _ _ _ _ us hl => match us, hl with | [_, _], _ => rfl)
  | succ j ih => exact TM.fn_mkT F sc__law_like hg (fun W => bd__law_like Z j (D__law_like j) ih W) (fun _ _ _ _ _ _ us hl => match us, hl with | [_, _], _ => rfl)
noncomputable def b__law_shuffled_1 : DS := (sExpr (eAppend (eVar 3) (ePopAt (eVar 2) (eBin iMod (eCall D__law_draw (aCons (eVar 0) (aCons (eC (.int 900)) aNil))) (eCall fLen (aCons (eVar 2) aNil))))))
noncomputable def S__law_shuffled : DS := (sSeq (sPar 2 3 (aCons (eCall (f1 listD) (aCons (eVar 1) aNil)) (aCons (eLst aNil) aNil)))
    (sSeq (sWhile (tst (eBin neD (eVar 2) (eLst aNil))) b__law_shuffled_1)
    (sRet (eCall (f1 tupD) (aCons (eVar 3) aNil)))))
noncomputable def D__law_shuffled : DF := TM.runT 4 2 S__law_shuffled
theorem sc__law_shuffled : FnScope ["box", "names", "left", "found"] ["box", "names"] (defScope st__law_shuffled) := ⟨rfl, rfl, rfl, by decide +kernel, rfl, by decide +kernel, by decide +kernel⟩
theorem bd__law_shuffled (Z : Fr G) (h__law_draw : Fn G 1 "_law_draw" 2 D__law_draw) (W : XK) : SSs (G.cn ["box", "names", "left", "found"] (defScope st__law_shuffled) 1 W) (defBody st__law_shuffled) S__law_shuffled :=
  (ss_cons (ss_par 2 3 (sa_cons (se_list Z.f_list (se_var 1)) (sa_cons (se_lst sa_nil) sa_nil)) (hw := by rintro ⟨⟩ h; cases h; rfl))
    (ss_cons (ss_while (st_ne (se_var 2) (se_lst sa_nil)) (ss_one (ss_expr (se_append (se_var 3) (se_popAt (se_var 2) (se_mod (se_call h__law_draw (sa_cons (se_var 0) (sa_cons se_int sa_nil)) (aCons_len (aCons_len aNil_len)) (Nat.le_of_ble_eq_true rfl)) (se_len Z.f_len (se_var 2))))))))
    (ss_one (ss_ret (se_tuple Z.f_tuple (se_var 3))))))
theorem ok__law_shuffled (Z : Fr G) (h__law_draw : Fn G 1 "_law_draw" 2 D__law_draw) (F : Df G df__law_shuffled) : Fn G 2 "_law_shuffled" 2 D__law_shuffled := by
  obtain ⟨fd, F, hg⟩ := F
  exact TM.fn_mkT F sc__law_shuffled hg (fun W => bd__law_shuffled Z h__law_draw W) (fun _ _ _ _ _ _ us hl => match us, hl with | [_, _], _ => rfl)
noncomputable def c__law_jobs_1 : DE := (eComp (iRng1D (eVar 1)) (gVar 10) tYesD (eBin addD (eC (.str "j")) (eCall (f1 strD) (aCons (eVar 10) aNil))) [10])
noncomputable def b__law_jobs_1 : DS := (sSeq (sSet 7 (eIf (tru (eVar 2)) (eCall D__law_draw (aCons (eVar 0) (aCons (eC (.int 9)) aNil))) (eC (.int 0))))
    (sExpr (eAppend (eVar 5) (eTup (aCons (eVar 6) (aCons (eBin addD (eC (.int 1)) (eCall D__law_draw (aCons (eVar 0) (aCons (eC (.int 5)) aNil)))) (aCons (eVar 7) (aCons (eBin addD (eVar 7) (eCall D__law_draw (aCons (eVar 0) (aCons (eC (.int 14)) aNil)))) (aCons (eCall D__law_draw (aCons (eVar 0) (aCons (eC (.int 5)) aNil))) aNil)))))))))
noncomputable def b__law_jobs_2 : DS := (sSeq (sPar 11 12 (aCons (eBin iMod (eCall D__law_draw (aCons (eVar 0) (aCons (eC (.int 900)) aNil))) (eVar 1)) (aCons (eBin iMod (eCall D__law_draw (aCons (eVar 0) (aCons (eC (.int 900)) aNil))) (eVar 1)) aNil)))
    (sIf (tst (eBin ltD (eVar 11) (eVar 12))) (sExpr (eAppend (eVar 9) (eTup (aCons (eBin ixD (eVar 8) (eVar 11)) (aCons (eBin ixD (eVar 8) (eVar 12)) aNil))))) sSkip))
noncomputable def S__law_jobs : DS := (sSeq (sSet 4 c__law_jobs_1)
    (sSeq (sSet 5 (eLst aNil))
    (sSeq (sFor (iAnyD (eVar 4)) (gVar 6) b__law_jobs_1)
    (sSeq (sSet 8 (eCall D__law_shuffled (aCons (eVar 0) (aCons (eVar 4) aNil))))
    (sSeq (sSet 9 (eLst aNil))
    (sSeq (sFor (iRng1D (eIf (tst (eBin gtD (eVar 1) (eC (.int 1)))) (eVar 3) (eC (.int 0)))) (gVar 10) b__law_jobs_2)
    (sRet (eTup (aCons (eC (.str "jobs")) (aCons (eCall (f1 tupD) (aCons (eVar 5) aNil)) (aCons (eCall (f1 tupD) (aCons (eUn sortSetD (eVar 9)) aNil)) aNil)))))))))))
noncomputable def D__law_jobs : DF := TM.runT 13 4 S__law_jobs
theorem sc__law_jobs : FnScope ["box", "many", "froms", "pairs", "names", "rows", "name", "begin", "place", "ahead", "k", "one", "other"] ["box", "many", "froms", "pairs"] (defScope st__law_jobs) := ⟨rfl, rfl, rfl, by decide +kernel, rfl, by decide +kernel, by decide +kernel⟩
theorem bd__law_jobs (Z : Fr G) (h__law_draw : Fn G 1 "_law_draw" 2 D__law_draw) (h__law_shuffled : Fn G 2 "_law_shuffled" 2 D__law_shuffled) (W : XK) : SSs (G.cn ["box", "many", "froms", "pairs", "names", "rows", "name", "begin", "place", "ahead", "k", "one", "other"] (defScope st__law_jobs) 2 W) (defBody st__law_jobs) S__law_jobs :=
  (ss_cons (ss_setLc 4 (own := [("k", 10)]) (si_range1 (se_var 1) (hm := Z.f_range)) (blkOk_by (by kernel_rfl)) (sgv_var 10) sts_nil (se_plus se_str (se_strOf Z.f_str (se_var 10))) (hsw := sw_yes))
    (ss_cons (ss_set 5 (se_lst sa_nil))
    (ss_cons (ss_for (si_any (se_var 4)) (sg_var 6) (ss_cons (ss_set 7 (se_ifExp (st_tru (se_var 2)) (se_call h__law_draw (sa_cons (se_var 0) (sa_cons se_int sa_nil)) (aCons_len (aCons_len aNil_len)) (Nat.le_of_ble_eq_true rfl)) se_int))
    (ss_one (ss_expr (se_append (se_var 5) (se_tup (sa_cons (se_var 6) (sa_cons (se_plus se_int (se_call h__law_draw (sa_cons (se_var 0) (sa_cons se_int sa_nil)) (aCons_len (aCons_len aNil_len)) (Nat.le_of_ble_eq_true rfl))) (sa_cons (se_var 7) (sa_cons (se_plus (se_var 7) (se_call h__law_draw (sa_cons (se_var 0) (sa_cons se_int sa_nil)) (aCons_len (aCons_len aNil_len)) (Nat.le_of_ble_eq_true rfl))) (sa_cons (se_call h__law_draw (sa_cons (se_var 0) (sa_cons se_int sa_nil)) (aCons_len (aCons_len aNil_len)) (Nat.le_of_ble_eq_true rfl)) sa_nil)))))))))))
    (ss_cons (ss_set 8 (se_call h__law_shuffled (sa_cons (se_var 0) (sa_cons (se_var 4) sa_nil)) (aCons_len (aCons_len aNil_len)) (Nat.le_of_ble_eq_true rfl)))
    (ss_cons (ss_set 9 (se_lst sa_nil))
    (ss_cons (ss_for (si_range1 (se_ifExp (st_gt (se_var 1) se_int) (se_var 3) se_int) (hm := Z.f_range)) (sg_var 10) (ss_cons (ss_par 11 12 (sa_cons (se_mod (se_call h__law_draw (sa_cons (se_var 0) (sa_cons se_int sa_nil)) (aCons_len (aCons_len aNil_len)) (Nat.le_of_ble_eq_true rfl)) (se_var 1)) (sa_cons (se_mod (se_call h__law_draw (sa_cons (se_var 0) (sa_cons se_int sa_nil)) (aCons_len (aCons_len aNil_len)) (Nat.le_of_ble_eq_true rfl)) (se_var 1)) sa_nil)) (hw := by rintro ⟨⟩ h; cases h; rfl))
    (ss_one (ss_if (st_lt (se_var 11) (se_var 12)) (ss_one (ss_expr (se_append (se_var 9) (se_tup (sa_cons (se_ix (se_var 8) (se_var 11)) (sa_cons (se_ix (se_var 8) (se_var 12)) sa_nil)))))) ss_nil))))
    (ss_one (ss_ret (se_tup (sa_cons se_str (sa_cons (se_tuple Z.f_tuple (se_var 5)) (sa_cons (se_tuple Z.f_tuple (se_sortSet Z.f_sorted Z.f_set (se_var 9))) sa_nil))))))))))))
theorem ok__law_jobs (Z : Fr G) (h__law_draw : Fn G 1 "_law_draw" 2 D__law_draw) (h__law_shuffled : Fn G 2 "_law_shuffled" 2 D__law_shuffled) (F : Df G df__law_jobs) : Fn G 3 "_law_jobs" 4 D__law_jobs := by
  obtain ⟨fd, F, hg⟩ := F
  exact TM.fn_mkT F sc__law_jobs hg (fun W => bd__law_jobs Z h__law_draw h__law_shuffled W) (fun _ _ _ _ _ _ us hl => match us, hl with | [_, _, _, _], _ => rfl)
noncomputable def c__law_names_1 : DE := (eComp (iAnyD (eBin ixD (eVar 0) (eC (.int 1)))) (gVar 1) tYesD (eBin ixD (eVar 1) (eC (.int 0))) [1])
noncomputable def S__law_names : DS := (sRet c__law_names_1)
noncomputable def D__law_names : DF := TM.runT 2 1 S__law_names
theorem sc__law_names : FnScope ["jobs", "row"] ["jobs"] (defScope st__law_names) := ⟨rfl, rfl, rfl, by decide +kernel, rfl, by decide +kernel, by decide +kernel⟩
theorem bd__law_names (Z : Fr G) (W : XK) : SSs (G.cn ["jobs", "row"] (defScope st__law_names) 0 W) (defBody st__law_names) S__law_names :=
  (ss_one (ss_ret (se_comp (own := [("row", 1)]) (si_any (se_ix (se_var 0) se_int)) (blkOk_by (by kernel_rfl)) (sgv_var 1) sts_nil (se_ix (se_var 1) se_int))))
theorem ok__law_names (Z : Fr G) (F : Df G df__law_names) : Fn G 1 "_law_names" 1 D__law_names := by
  obtain ⟨fd, F, hg⟩ := F
  exact TM.fn_mkT F sc__law_names hg (fun W => bd__law_names Z W) (fun _ _ _ _ _ _ us hl => match us, hl with | [_], _ => rfl)
noncomputable def c__law_orders_1 : DE := (eComp (iRng1D (eBin addD (eCall fLen (aCons (eVar 4) aNil)) (eC (.int 1)))) (gVar 5) tYesD (eBin addD (eBin addD (eSl (eVar 4) oNone (oSome (eVar 5))) (eTup (aCons (eVar 2) aNil))) (eSl (eVar 4) (oSome (eVar 5)) oNone)) [5])
noncomputable def b__law_orders_1 : DS := (sSet 3 (eBin addD (eVar 3) c__law_orders_1))
noncomputable def b__law_orders_2 : DS := (sSeq (sSet 3 (eLst aNil))
    (sSeq (sFor (iAnyD (eVar 1)) (gVar 4) b__law_orders_1)
    (sSet 1 (eVar 3))))
noncomputable def S__law_orders : DS := (sSeq (sSet 1 (eLst (aCons (eTup aNil) aNil)))
    (sSeq (sFor (iAnyD (eVar 0)) (gVar 2) b__law_orders_2)
    (sRet (eVar 1))))
noncomputable def D__law_orders : DF := TM.runT 6 1 S__law_orders
theorem sc__law_orders : FnScope ["names", "found", "name", "longer", "row", "k"] ["names"] (defScope st__law_orders) := ⟨rfl, rfl, rfl, by decide +kernel, rfl, by decide +kernel, by decide +kernel⟩
theorem bd__law_orders (Z : Fr G) (W : XK) : SSs (G.cn ["names", "found", "name", "longer", "row", "k"] (defScope st__law_orders) 0 W) (defBody st__law_orders) S__law_orders :=
  (ss_cons (ss_set 1 (se_lst (sa_cons (se_tup sa_nil) sa_nil)))
    (ss_cons (ss_for (si_any (se_var 0)) (sg_var 2) (ss_cons (ss_set 3 (se_lst sa_nil))
    (ss_cons (ss_for (si_any (se_var 1)) (sg_var 4) (ss_one (ss_set 3 (se_plus (se_var 3) (se_comp (own := [("k", 5)]) (si_range1 (se_plus (se_len Z.f_len (se_var 4)) se_int) (hm := Z.f_range)) (blkOk_by (by kernel_rfl)) (sgv_var 5) sts_nil (se_plus (se_plus (se_slice (se_var 4) so_none (so_some (se_var 5))) (se_tup (sa_cons (se_var 2) sa_nil))) (se_slice (se_var 4) (so_some (se_var 5)) so_none)))))))
    (ss_one (ss_set 1 (se_var 3))))))
    (ss_one (ss_ret (se_var 1)))))
theorem ok__law_orders (Z : Fr G) (F : Df G df__law_orders) : Fn G 1 "_law_orders" 1 D__law_orders := by
  obtain ⟨fd, F, hg⟩ := F
  exact TM.fn_mkT F sc__law_orders hg (fun W => bd__law_orders Z W) (fun _ _ _ _ _ _ us hl => match us, hl with | [_], _ => rfl)
noncomputable def c__law_sum_of_1 : DE := (eComp (iAnyD (eBin ixD (eVar 0) (eC (.int 1)))) (gVar 6) tYesD (eTup (aCons (eBin ixD (eVar 6) (eC (.int 0))) (aCons (eVar 6) aNil))) [6])
noncomputable def b__law_sum_of_1 : DS := (sSeq (sSet 3 (eBin addD (eVar 3) (eBin ixD (eBin dgetD (eVar 2) (eVar 5)) (eC (.int 1)))))
    (sSet 4 (eBin addD (eVar 4) (eBin iMul (eVar 3) (eBin ixD (eBin dgetD (eVar 2) (eVar 5)) (eC (.int 4)))))))
noncomputable def S__law_sum_of : DS := (sSeq (sPar3 2 3 4 (aCons (eCall (f1 dictPD) (aCons c__law_sum_of_1 aNil)) (aCons (eC (.int 0)) (aCons (eC (.int 0)) aNil))))
    (sSeq (sFor (iAnyD (eVar 1)) (gVar 5) b__law_sum_of_1)
    (sRet (eVar 4))))
noncomputable def D__law_sum_of : DF := TM.runT 7 2 S__law_sum_of
theorem sc__law_sum_of : FnScope ["jobs", "order", "table", "here", "found", "name", "row"] ["jobs", "order"] (defScope st__law_sum_of) := ⟨rfl, rfl, rfl, by decide +kernel, rfl, by decide +kernel, by decide +kernel⟩
theorem bd__law_sum_of (Z : Fr G) (W : XK) : SSs (G.cn ["jobs", "order", "table", "here", "found", "name", "row"] (defScope st__law_sum_of) 0 W) (defBody st__law_sum_of) S__law_sum_of :=
  (ss_cons (ss_par3 2 3 4 (sa_cons (se_dictP Z.f_dict (se_comp (own := [("row", 6)]) (si_any (se_ix (se_var 0) se_int)) (blkOk_by (by kernel_rfl)) (sgv_var 6) sts_nil (se_tup (sa_cons (se_ix (se_var 6) se_int) (sa_cons (se_var 6) sa_nil))))) (sa_cons se_int (sa_cons se_int sa_nil))) (hw := by rintro ⟨⟩ h; cases h; rfl))
    (ss_cons (ss_for (si_any (se_var 1)) (sg_var 5) (ss_cons (ss_set 3 (se_plus (se_var 3) (se_ix (se_dget (se_var 2) (se_var 5)) se_int)))
    (ss_one (ss_set 4 (se_plus (se_var 4) (se_mul (se_var 3) (se_ix (se_dget (se_var 2) (se_var 5)) se_int)))))))
    (ss_one (ss_ret (se_var 4)))))
theorem ok__law_sum_of (Z : Fr G) (F : Df G df__law_sum_of) : Fn G 1 "_law_sum_of" 2 D__law_sum_of := by
  obtain ⟨fd, F, hg⟩ := F
  exact TM.fn_mkT F sc__law_sum_of hg (fun W => bd__law_sum_of Z W) (fun _ _ _ _ _ _ us hl => match us, hl with | [_, _], _ => rfl)
noncomputable def c__law_other_1 : DE := (eComp (iRng1D (eCall fLen (aCons (eVar 1) aNil))) (gVar 3) tYesD (eBin ixD (eVar 1) (eBin iSub (eBin iSub (eCall fLen (aCons (eVar 1) aNil)) (eC (.int 1))) (eVar 3))) [3])
noncomputable def S__law_other : DS := (sSeq (sIf (tru (eUn (isI "tuple") (eVar 1))) (sSeq (sSet 2 (eCall (f1 tupD) (aCons c__law_other_1 aNil)))
    (sRet (eBin ixD (eLst (aCons (eCall (f1 listD) (aCons (eVar 1) aNil)) (aCons (eBin addD (eVar 1) (eSl (eVar 1) oNone (oSome (eC (.int 1))))) (aCons (eSl (eVar 1) (oSome (eC (.int 1))) oNone) (aCons (eC .non) (aCons (eTup aNil) (aCons (eVar 2) aNil))))))) (eCall D__law_draw (aCons (eVar 0) (aCons (eC (.int 6)) aNil)))))) sSkip)
    (sSeq (sIf (tru (eUn (isI "str") (eVar 1))) (sRet (eBin ixD (eLst (aCons (eC (.str "j0")) (aCons (eC (.str "j1")) (aCons (eC (.str "j2")) (aCons (eC (.str "s0")) (aCons (eC (.str "jobs")) (aCons (eC (.str "two")) (aCons (eC (.str "full")) (aCons (eC (.str "A")) (aCons (eC (.str "")) (aCons (eC (.str "x y")) (aCons (eC .non) (aCons (eC (.str "j9")) aNil))))))))))))) (eCall D__law_draw (aCons (eVar 0) (aCons (eC (.int 12)) aNil))))) sSkip)
    (sSeq (sIf (tst (eUn isN (eVar 1))) (sRet (eBin ixD (eLst (aCons (eC (.int 0)) (aCons (eC (.str "")) (aCons (eTup aNil) aNil)))) (eCall D__law_draw (aCons (eVar 0) (aCons (eC (.int 3)) aNil))))) sSkip)
    (sRet (eBin ixD (eLst (aCons (eBin addD (eVar 1) (eC (.int 1))) (aCons (eBin iSub (eVar 1) (eC (.int 1))) (aCons (eBin iSub (eC (.int 0)) (eVar 1)) (aCons (eC (.bl true)) (aCons (eC .non) (aCons (eC (.int 0)) (aCons (eC (.int 100)) aNil)))))))) (eCall D__law_draw (aCons (eVar 0) (aCons (eC (.int 7)) aNil))))))))
noncomputable def D__law_other : DF := TM.runT 4 2 S__law_other
theorem sc__law_other : FnScope ["box", "thing", "behind", "k"] ["box", "thing"] (defScope st__law_other) := ⟨rfl, rfl, rfl, by decide +kernel, rfl, by decide +kernel, by decide +kernel⟩
theorem bd__law_other (Z : Fr G) (h__law_draw : Fn G 1 "_law_draw" 2 D__law_draw) (W : XK) : SSs (G.cn ["box", "thing", "behind", "k"] (defScope st__law_other) 1 W) (defBody st__law_other) S__law_other :=
  (ss_cons (ss_if (st_tru (se_isI "tuple" Z.f_isinstance Z.f_tuple (se_var 1))) (ss_cons (ss_set 2 (se_tuple Z.f_tuple (se_comp (own := [("k", 3)]) (si_range1 (se_len Z.f_len (se_var 1)) (hm := Z.f_range)) (blkOk_by (by kernel_rfl)) (sgv_var 3) sts_nil (se_ix (se_var 1) (se_sub (se_sub (se_len Z.f_len (se_var 1)) se_int) (se_var 3))))))
    (ss_one (ss_ret (se_ix (se_lst (sa_cons (se_list Z.f_list (se_var 1)) (sa_cons (se_plus (se_var 1) (se_slice (se_var 1) so_none (so_some se_int))) (sa_cons (se_slice (se_var 1) (so_some se_int) so_none) (sa_cons se_non (sa_cons (se_tup sa_nil) (sa_cons (se_var 2) sa_nil))))))) (se_call h__law_draw (sa_cons (se_var 0) (sa_cons se_int sa_nil)) (aCons_len (aCons_len aNil_len)) (Nat.le_of_ble_eq_true rfl)))))) ss_nil)
    (ss_cons (ss_if (st_tru (se_isI "str" Z.f_isinstance Z.f_str (se_var 1))) (ss_one (ss_ret (se_ix (se_lst (sa_cons se_str (sa_cons se_str (sa_cons se_str (sa_cons se_str (sa_cons se_str (sa_cons se_str (sa_cons se_str (sa_cons se_str (sa_cons se_str (sa_cons se_str (sa_cons se_non (sa_cons se_str sa_nil))))))))))))) (se_call h__law_draw (sa_cons (se_var 0) (sa_cons se_int sa_nil)) (aCons_len (aCons_len aNil_len)) (Nat.le_of_ble_eq_true rfl))))) ss_nil)
    (ss_cons (ss_if (st_isN (se_var 1)) (ss_one (ss_ret (se_ix (se_lst (sa_cons se_int (sa_cons se_str (sa_cons (se_tup sa_nil) sa_nil)))) (se_call h__law_draw (sa_cons (se_var 0) (sa_cons se_int sa_nil)) (aCons_len (aCons_len aNil_len)) (Nat.le_of_ble_eq_true rfl))))) ss_nil)
    (ss_one (ss_ret (se_ix (se_lst (sa_cons (se_plus (se_var 1) se_int) (sa_cons (se_sub (se_var 1) se_int) (sa_cons (se_sub se_int (se_var 1)) (sa_cons se_bl (sa_cons se_non (sa_cons se_int (sa_cons se_int sa_nil)))))))) (se_call h__law_draw (sa_cons (se_var 0) (sa_cons se_int sa_nil)) (aCons_len (aCons_len aNil_len)) (Nat.le_of_ble_eq_true rfl))))))))
theorem ok__law_other (Z : Fr G) (h__law_draw : Fn G 1 "_law_draw" 2 D__law_draw) (F : Df G df__law_other) : Fn G 2 "_law_other" 2 D__law_other := by
  obtain ⟨fd, F, hg⟩ := F
  exact TM.fn_mkT F sc__law_other hg (fun W => bd__law_other Z h__law_draw W) (fun _ _ _ _ _ _ us hl => match us, hl with | [_, _], _ => rfl)
noncomputable def S__law_changed (R_ : DF) : DS := (sSeq (sIf (tOr' (tNot' (tru (eUn (isI "tuple") (eVar 1)))) (tOr' (tst (eBin eqD (eVar 1) (eTup aNil))) (tst (eBin eqD (eCall D__law_draw (aCons (eVar 0) (aCons (eC (.int 9)) aNil))) (eC (.int 0)))))) (sRet (eCall D__law_other (aCons (eVar 0) (aCons (eVar 1) aNil)))) sSkip)
    (sSeq (sSet 2 (eBin iMod (eCall D__law_draw (aCons (eVar 0) (aCons (eC (.int 900)) aNil))) (eCall fLen (aCons (eVar 1) aNil))))
    (sRet (eBin addD (eBin addD (eSl (eVar 1) oNone (oSome (eVar 2))) (eTup (aCons (eCall R_ (aCons (eVar 0) (aCons (eBin ixD (eVar 1) (eVar 2)) aNil))) aNil))) (eSl (eVar 1) (oSome (eBin addD (eVar 2) (eC (.int 1)))) oNone)))))
noncomputable def D__law_changed : Nat → DF
  | 0 => dBad
  | j + 1 => TM.runT 3 2 (S__law_changed (D__law_changed j))
theorem sc__law_changed : FnScope ["box", "thing", "at"] ["box", "thing"] (defScope st__law_changed) := ⟨rfl, rfl, rfl, by decide +kernel, rfl, by decide +kernel, by decide +kernel⟩
theorem bd__law_changed (Z : Fr G) (h__law_draw : Fn G 1 "_law_draw" 2 D__law_draw) (h__law_other : Fn G 2 "_law_other" 2 D__law_other) (j : Nat) (R_ : DF) (h_rec : Fn G (2 + j) "_law_changed" 2 R_) (W : XK) : SSs (G.cn ["box", "thing", "at"] (defScope st__law_changed) (2 + j) W) (defBody st__law_changed) (S__law_changed R_) :=
  (ss_cons (ss_if (SW.st (sw_or (st_not (st_tru (se_isI "tuple" Z.f_isinstance Z.f_tuple (se_var 1)))) (sw_or (st_eq (se_var 1) (se_tup sa_nil)) (sw_or1 (st_eq (se_call h__law_draw (sa_cons (se_var 0) (sa_cons se_int sa_nil)) (aCons_len (aCons_len aNil_len)) (Nat.le_trans (Nat.le_of_ble_eq_true rfl) (Nat.le_add_right _ _))) se_int))))) (ss_one (ss_ret (se_call h__law_other (sa_cons (se_var 0) (sa_cons (se_var 1) sa_nil)) (aCons_len (aCons_len aNil_len)) (Nat.le_trans (Nat.le_of_ble_eq_true rfl) (Nat.le_add_right _ _))))) ss_nil)
    (ss_cons (ss_set 2 (se_mod (se_call h__law_draw (sa_cons (se_var 0) (sa_cons se_int sa_nil)) (aCons_len (aCons_len aNil_len)) (Nat.le_trans (Nat.le_of_ble_eq_true rfl) (Nat.le_add_right _ _))) (se_len Z.f_len (se_var 1))))
    (ss_one (ss_ret (se_plus (se_plus (se_slice (se_var 1) so_none (so_some (se_var 2))) (se_tup (sa_cons (se_call h_rec (sa_cons (se_var 0) (sa_cons (se_ix (se_var 1) (se_var 2)) sa_nil)) (aCons_len (aCons_len aNil_len)) (Nat.le_refl _)) sa_nil))) (se_slice (se_var 1) (so_some (se_plus (se_var 2) se_int)) so_none))))))
theorem ok__law_changed (Z : Fr G) (h__law_draw : Fn G 1 "_law_draw" 2 D__law_draw) (h__law_other : Fn G 2 "_law_other" 2 D__law_other) (F : Df G df__law_changed) (j : Nat) : Fn G (2 + j) "_law_changed" 2 (D__law_changed j) := by
  obtain ⟨fd, F, hg⟩ := F
  induction j with
  | zero => exact fn_zero (ps := ["box", "thing"]) F hg (fun _ _ _ _ _ _ us hl => match us, hl with | [_, _], _ => rfl)
  | succ j ih => exact TM.fn_mkT F sc__law_changed hg (fun W => bd__law_changed Z h__law_draw h__law_other j (D__law_changed j) ih W) (fun _ _ _ _ _ _ us hl => match us, hl with | [_, _], _ => rfl)
noncomputable def c_law_1 : DE := (eComp (iAnyD (eVar 4)) (gVar 9) tYesD (eCall D__law_sum_of (aCons (eVar 3) (aCons (eVar 9) aNil))) [9])
noncomputable def b_law_1 : DS := (sSeq (sSet 9 (eIf (tst (eBin ltD (eVar 8) (eC (.int 5)))) (eCall D__law_pick (aCons (eVar 1) (aCons (eVar 4) aNil))) (eVar 6)))
    (sSeq (sIf (tOr' (tNot' (tru (eCall (D__law_like 10) (aCons (eCall D_sum_of (aCons (eVar 3) (aCons (eVar 9) aNil))) (aCons (eCall D__law_sum_of (aCons (eVar 3) (aCons (eVar 9) aNil))) aNil))))) (tNot' (tru (eCall (D__law_like 10) (aCons (eCall D_is_least_sum (aCons (eVar 3) (aCons (eVar 9) aNil))) (aCons (eBin eqD (eCall D__law_sum_of (aCons (eVar 3) (aCons (eVar 9) aNil))) (eVar 7)) aNil)))))) (sRet (eC (.bl false))) sSkip)
    (sSeq (sSet 10 (eCall (D__law_changed 10) (aCons (eVar 1) (aCons (eVar 6) aNil))))
    (sIf (tNot' (tru (eCall (D__law_like 10) (aCons (eCall D_is_least_sum (aCons (eVar 3) (aCons (eVar 10) aNil))) (aCons (eAndV (eBin inD (eVar 10) (eVar 4)) (eBin eqD (eCall D__law_sum_of (aCons (eVar 3) (aCons (eVar 10) aNil))) (eVar 7))) aNil))))) (sRet (eC (.bl false))) sSkip))))
noncomputable def b_law_2 : DS := (sSeq (sSet 3 (eCall D__law_jobs (aCons (eVar 1) (aCons (eCall D__law_draw (aCons (eVar 1) (aCons (eC (.int 6)) aNil))) (aCons (eC (.bl false)) (aCons (eCall D__law_draw (aCons (eVar 1) (aCons (eC (.int 2)) aNil))) aNil))))))
    (sSeq (sSet 4 (eCall D__law_orders (aCons (eCall D__law_names (aCons (eVar 3) aNil)) aNil)))
    (sSeq (sSet 5 c_law_1)
    (sSeq (sPar 6 7 (aCons (eCall D_least_sum (aCons (eVar 3) aNil)) (aCons (eCall (f1 (bestD PySem.W.minD)) (aCons (eVar 5) aNil)) aNil)))
    (sSeq (sIf (tOr' (tst (eBin notInD (eVar 6) (eVar 4))) (tst (eBin neD (eCall D__law_sum_of (aCons (eVar 3) (aCons (eVar 6) aNil))) (eVar 7)))) (sRet (eC (.bl false))) sSkip)
    (sFor (iRng1D (eC (.int 8))) (gVar 8) b_law_1))))))
noncomputable def S_law : DS := (sSeq (sSet 1 (eLst (aCons (eCall D__law_digits (aCons (eVar 0) (aCons (eC (.int 0)) (aCons (eC (.int 63)) aNil)))) (aCons (eC (.int 0)) aNil))))
    (sSeq (sFor (iRng1D (eC (.int 2))) (gVar 2) b_law_2)
    (sRet (eC (.bl true)))))
noncomputable def D_law : DF := TM.runT 11 1 S_law
theorem sc_law : FnScope ["script", "box", "turn", "jobs", "orders", "sums", "told", "least", "step", "order", "thing"] ["script"] (defScope st_law) := ⟨rfl, rfl, rfl, by decide +kernel, rfl, by decide +kernel, by decide +kernel⟩
theorem bd_law (Z : Fr G) (h__law_digits : Fn G 2 "_law_digits" 3 D__law_digits) (h__law_jobs : Fn G 3 "_law_jobs" 4 D__law_jobs) (h__law_draw : Fn G 1 "_law_draw" 2 D__law_draw) (h__law_orders : Fn G 1 "_law_orders" 1 D__law_orders) (h__law_names : Fn G 1 "_law_names" 1 D__law_names) (h__law_sum_of : Fn G 1 "_law_sum_of" 2 D__law_sum_of) (h_least_sum : Fn G 2 "least_sum" 1 D_least_sum) (h__law_pick : Fn G 2 "_law_pick" 2 D__law_pick) (h__law_like : Fn G 10 "_law_like" 2 (D__law_like 10)) (h_sum_of : Fn G 2 "sum_of" 2 D_sum_of) (h_is_least_sum : Fn G 3 "is_least_sum" 2 D_is_least_sum) (h__law_changed : Fn G 12 "_law_changed" 2 (D__law_changed 10)) (W : XK) : SSs (G.cn ["script", "box", "turn", "jobs", "orders", "sums", "told", "least", "step", "order", "thing"] (defScope st_law) 12 W) (defBody st_law) S_law :=
  (ss_cons (ss_set 1 (se_lst (sa_cons (se_call h__law_digits (sa_cons (se_var 0) (sa_cons se_int (sa_cons se_int sa_nil))) (aCons_len (aCons_len (aCons_len aNil_len))) (Nat.le_of_ble_eq_true rfl)) (sa_cons se_int sa_nil))))
    (ss_cons (ss_for (si_range1 se_int (hm := Z.f_range)) (sg_var 2) (ss_cons (ss_set 3 (se_call h__law_jobs (sa_cons (se_var 1) (sa_cons (se_call h__law_draw (sa_cons (se_var 1) (sa_cons se_int sa_nil)) (aCons_len (aCons_len aNil_len)) (Nat.le_of_ble_eq_true rfl)) (sa_cons se_bl (sa_cons (se_call h__law_draw (sa_cons (se_var 1) (sa_cons se_int sa_nil)) (aCons_len (aCons_len aNil_len)) (Nat.le_of_ble_eq_true rfl)) sa_nil)))) (aCons_len (aCons_len (aCons_len (aCons_len aNil_len)))) (Nat.le_of_ble_eq_true rfl)))
    (ss_cons (ss_set 4 (se_call h__law_orders (sa_cons (se_call h__law_names (sa_cons (se_var 3) sa_nil) (aCons_len aNil_len) (Nat.le_of_ble_eq_true rfl)) sa_nil) (aCons_len aNil_len) (Nat.le_of_ble_eq_true rfl)))
    (ss_cons (ss_setLc 5 (own := [("order", 9)]) (si_any (se_var 4)) (blkOk_by (by kernel_rfl)) (sgv_var 9) sts_nil (se_call h__law_sum_of (sa_cons (se_var 3) (sa_cons (se_var 9) sa_nil)) (aCons_len (aCons_len aNil_len)) (Nat.le_of_ble_eq_true rfl)) (hsw := sw_yes))
    (ss_cons (ss_par 6 7 (sa_cons (se_call h_least_sum (sa_cons (se_var 3) sa_nil) (aCons_len aNil_len) (Nat.le_of_ble_eq_true rfl)) (sa_cons (se_minL Z.f_min (se_var 5)) sa_nil)) (hw := by rintro ⟨⟩ h; cases h; rfl))
    (ss_cons (ss_if (SW.st (sw_or (st_notIn (se_var 6) (se_var 4)) (sw_or1 (st_ne (se_call h__law_sum_of (sa_cons (se_var 3) (sa_cons (se_var 6) sa_nil)) (aCons_len (aCons_len aNil_len)) (Nat.le_of_ble_eq_true rfl)) (se_var 7))))) (ss_one (ss_ret se_bl)) ss_nil)
    (ss_one (ss_for (si_range1 se_int (hm := Z.f_range)) (sg_var 8) (ss_cons (ss_set 9 (se_ifExp (st_lt (se_var 8) se_int) (se_call h__law_pick (sa_cons (se_var 1) (sa_cons (se_var 4) sa_nil)) (aCons_len (aCons_len aNil_len)) (Nat.le_of_ble_eq_true rfl)) (se_var 6)))
    (ss_cons (ss_if (SW.st (sw_or (st_not (st_tru (se_call h__law_like (sa_cons (se_call h_sum_of (sa_cons (se_var 3) (sa_cons (se_var 9) sa_nil)) (aCons_len (aCons_len aNil_len)) (Nat.le_of_ble_eq_true rfl)) (sa_cons (se_call h__law_sum_of (sa_cons (se_var 3) (sa_cons (se_var 9) sa_nil)) (aCons_len (aCons_len aNil_len)) (Nat.le_of_ble_eq_true rfl)) sa_nil)) (aCons_len (aCons_len aNil_len)) (Nat.le_of_ble_eq_true rfl)))) (sw_or1 (st_not (st_tru (se_call h__law_like (sa_cons (se_call h_is_least_sum (sa_cons (se_var 3) (sa_cons (se_var 9) sa_nil)) (aCons_len (aCons_len aNil_len)) (Nat.le_of_ble_eq_true rfl)) (sa_cons (se_eq (se_call h__law_sum_of (sa_cons (se_var 3) (sa_cons (se_var 9) sa_nil)) (aCons_len (aCons_len aNil_len)) (Nat.le_of_ble_eq_true rfl)) (se_var 7)) sa_nil)) (aCons_len (aCons_len aNil_len)) (Nat.le_of_ble_eq_true rfl))))))) (ss_one (ss_ret se_bl)) ss_nil)
    (ss_cons (ss_set 10 (se_call h__law_changed (sa_cons (se_var 1) (sa_cons (se_var 6) sa_nil)) (aCons_len (aCons_len aNil_len)) (Nat.le_of_ble_eq_true rfl)))
    (ss_one (ss_if (st_not (st_tru (se_call h__law_like (sa_cons (se_call h_is_least_sum (sa_cons (se_var 3) (sa_cons (se_var 10) sa_nil)) (aCons_len (aCons_len aNil_len)) (Nat.le_of_ble_eq_true rfl)) (sa_cons (se_and (se_in (se_var 10) (se_var 4)) (se_one (se_eq (se_call h__law_sum_of (sa_cons (se_var 3) (sa_cons (se_var 10) sa_nil)) (aCons_len (aCons_len aNil_len)) (Nat.le_of_ble_eq_true rfl)) (se_var 7)))) sa_nil)) (aCons_len (aCons_len aNil_len)) (Nat.le_of_ble_eq_true rfl)))) (ss_one (ss_ret se_bl)) ss_nil)))))))))))))
    (ss_one (ss_ret se_bl))))
theorem law_body (w : World) (K : PySem.W.Frag) (mg : Str → Option Value) (base : Heap) (h1 : K.In base) (h2 : base.Ns mainGlobals mg) (c : He.SaysD hfa hfn K) (W : XK) : SSs ((⟨hR.prog, w, K, mg, base⟩ : Sg).cn ["script", "box", "turn", "jobs", "orders", "sums", "told", "least", "step", "order", "thing"] (defScope st_law) 12 W) (defBody st_law) S_law := by
  have Z : Fr ⟨hR.prog, w, K, mg, base⟩ := ⟨He.free_ok h1 h2 (c.fact 20 (f := .free "all") rfl), He.free_ok h1 h2 (c.fact 21 (f := .free "bool") rfl), He.free_ok h1 h2 (c.fact 22 (f := .free "dict") rfl), He.free_ok h1 h2 (c.fact 23 (f := .free "int") rfl), He.free_ok h1 h2 (c.fact 24 (f := .free "isinstance") rfl), He.free_ok h1 h2 (c.fact 25 (f := .free "len") rfl), He.free_ok h1 h2 (c.fact 26 (f := .free "list") rfl), He.free_ok h1 h2 (c.fact 27 (f := .free "min") rfl), He.free_ok h1 h2 (c.fact 28 (f := .free "range") rfl), He.free_ok h1 h2 (c.fact 29 (f := .free "set") rfl), He.free_ok h1 h2 (c.fact 30 (f := .free "sorted") rfl), He.free_ok h1 h2 (c.fact 31 (f := .free "str") rfl), He.free_ok h1 h2 (c.fact 32 (f := .free "tuple") rfl), He.free_ok h1 h2 (c.fact 33 (f := .free "zip") rfl)⟩
  have h_names_of := ok_names_of Z (let ⟨fd, F⟩ := c.def_ 0 (d := df_names_of) rfl; ⟨fd, F, He.glo_ok h1 h2 (c.fact 0 (f := .glo "names_of") rfl)⟩)
  have h_table_of := ok_table_of Z (let ⟨fd, F⟩ := c.def_ 1 (d := df_table_of) rfl; ⟨fd, F, He.glo_ok h1 h2 (c.fact 1 (f := .glo "table_of") rfl)⟩)
  have h_is_order := ok_is_order Z h_names_of (let ⟨fd, F⟩ := c.def_ 2 (d := df_is_order) rfl; ⟨fd, F, He.glo_ok h1 h2 (c.fact 2 (f := .glo "is_order") rfl)⟩)
  have h_sum_of := ok_sum_of Z h_table_of (let ⟨fd, F⟩ := c.def_ 3 (d := df_sum_of) rfl; ⟨fd, F, He.glo_ok h1 h2 (c.fact 3 (f := .glo "sum_of") rfl)⟩)
  have h__is_ahead := ok__is_ahead Z (let ⟨fd, F⟩ := c.def_ 4 (d := df__is_ahead) rfl; ⟨fd, F, He.glo_ok h1 h2 (c.fact 4 (f := .glo "_is_ahead") rfl)⟩)
  have h_least_sum := ok_least_sum Z h_names_of h_table_of h__is_ahead (let ⟨fd, F⟩ := c.def_ 5 (d := df_least_sum) rfl; ⟨fd, F, He.glo_ok h1 h2 (c.fact 5 (f := .glo "least_sum") rfl)⟩)
  have h_is_least_sum := ok_is_least_sum Z h_is_order h_table_of (let ⟨fd, F⟩ := c.def_ 6 (d := df_is_least_sum) rfl; ⟨fd, F, He.glo_ok h1 h2 (c.fact 6 (f := .glo "is_least_sum") rfl)⟩)
  have h__law_cell := ok__law_cell Z (let ⟨fd, F⟩ := c.def_ 7 (d := df__law_cell) rfl; ⟨fd, F, He.glo_ok h1 h2 (c.fact 7 (f := .glo "_law_cell") rfl)⟩)
  have h__law_digits := ok__law_digits Z h__law_cell (let ⟨fd, F⟩ := c.def_ 8 (d := df__law_digits) rfl; ⟨fd, F, He.glo_ok h1 h2 (c.fact 8 (f := .glo "_law_digits") rfl)⟩)
  have h__law_draw := ok__law_draw Z (let ⟨fd, F⟩ := c.def_ 9 (d := df__law_draw) rfl; ⟨fd, F, He.glo_ok h1 h2 (c.fact 9 (f := .glo "_law_draw") rfl)⟩)
  have h__law_pick := ok__law_pick Z h__law_draw (let ⟨fd, F⟩ := c.def_ 10 (d := df__law_pick) rfl; ⟨fd, F, He.glo_ok h1 h2 (c.fact 10 (f := .glo "_law_pick") rfl)⟩)
  have h__law_like := ok__law_like Z (let ⟨fd, F⟩ := c.def_ 11 (d := df__law_like) rfl; ⟨fd, F, He.glo_ok h1 h2 (c.fact 11 (f := .glo "_law_like") rfl)⟩) 10
  have h__law_shuffled := ok__law_shuffled Z h__law_draw (let ⟨fd, F⟩ := c.def_ 12 (d := df__law_shuffled) rfl; ⟨fd, F, He.glo_ok h1 h2 (c.fact 12 (f := .glo "_law_shuffled") rfl)⟩)
  have h__law_jobs := ok__law_jobs Z h__law_draw h__law_shuffled (let ⟨fd, F⟩ := c.def_ 13 (d := df__law_jobs) rfl; ⟨fd, F, He.glo_ok h1 h2 (c.fact 13 (f := .glo "_law_jobs") rfl)⟩)
  have h__law_names := ok__law_names Z (let ⟨fd, F⟩ := c.def_ 14 (d := df__law_names) rfl; ⟨fd, F, He.glo_ok h1 h2 (c.fact 14 (f := .glo "_law_names") rfl)⟩)
  have h__law_orders := ok__law_orders Z (let ⟨fd, F⟩ := c.def_ 15 (d := df__law_orders) rfl; ⟨fd, F, He.glo_ok h1 h2 (c.fact 15 (f := .glo "_law_orders") rfl)⟩)
  have h__law_sum_of := ok__law_sum_of Z (let ⟨fd, F⟩ := c.def_ 16 (d := df__law_sum_of) rfl; ⟨fd, F, He.glo_ok h1 h2 (c.fact 16 (f := .glo "_law_sum_of") rfl)⟩)
  have h__law_other := ok__law_other Z h__law_draw (let ⟨fd, F⟩ := c.def_ 17 (d := df__law_other) rfl; ⟨fd, F, He.glo_ok h1 h2 (c.fact 17 (f := .glo "_law_other") rfl)⟩)
  have h__law_changed := ok__law_changed Z h__law_draw h__law_other (let ⟨fd, F⟩ := c.def_ 18 (d := df__law_changed) rfl; ⟨fd, F, He.glo_ok h1 h2 (c.fact 18 (f := .glo "_law_changed") rfl)⟩) 10
  exact bd_law Z h__law_digits h__law_jobs h__law_draw h__law_orders h__law_names h__law_sum_of h_least_sum h__law_pick h__law_like h_sum_of h_is_least_sum h__law_changed W
theorem from_law (T : ∀ ns : List Int, ns.length ≤ 63 → ∃ m, TM.runT 11 1 S_law [.ref 0] [.rol (ns.map DV.int)] = .ok (.bl true) m) : PySem.Challenge.rw_shoplands_k08_whole_least_sum.Holds :=
  holds_of 12 ⟨rfl, by decide, by decide⟩ ["script", "box", "turn", "jobs", "orders", "sums", "told", "least", "step", "order", "thing"] S_law sc_law law_body T
end
end My
end
section
set_option Elab.async false
set_option linter.all false
set_option maxRecDepth 100000
set_option maxHeartbeats 4000000
set_option autoImplicit false
/-! digits and draws of the script -/
namespace My
open PySem PySem.Spec L2 DL
theorem runT_ret {N n : Nat} {S : DS} {ds : List DV} {m : Mem} {d : DV} {m2 : Mem} (hn : ds.length = n) (h : (S (envOf N ds) m).sat fun fl m' => fl.val = some d ∧ m' = m2) : TM.runT N n S ds m = .ok d m2 := by
  obtain ⟨fl, m', e, h1, rfl⟩ := h.ex
  unfold TM.runT
  rw [if_pos hn, e]
  cases fl with
  | rt d => cases h1; rfl
  | nx e => cases h1; rfl
  | bk e => cases h1
  | ct e => cases h1
theorem cell_eq {ns : List Int} {m : Mem} (h0 : m[0]? = some (.rol (ns.map .int))) (k : Nat) : ∃ c, D__law_cell [.ref 0, .int (k : Int)] m = .ok (.int c) m := by
  by_cases h : k < ns.length
  · refine ⟨ns[k], runT_ret rfl ?_⟩
    have h1 : atI (ns.map DV.int) (k : Int) = some (.int ns[k]) := by rw [DL.atI_nat, List.getElem?_map, List.getElem?_eq_getElem h]; rfl
    simp [S__law_cell, envOf, fLen_rol h0, h, ixD_rol h0, h1]
    rfl
  · refine ⟨0, runT_ret rfl ?_⟩
    simp [S__law_cell, envOf, fLen_rol h0, h]
    rfl
@[simp] theorem cm_r7 (i : Int) : CMul i 7 = True := eq_true (.inr ⟨by omega, by omega⟩)
@[simp] theorem cm_r16807 (i : Int) : CMul i 16807 = True := eq_true (.inr ⟨by omega, by omega⟩)
@[simp] theorem cm_r48271 (i : Int) : CMul i 48271 = True := eq_true (.inr ⟨by omega, by omega⟩)
@[simp] theorem cm_r69621 (i : Int) : CMul i 69621 = True := eq_true (.inr ⟨by omega, by omega⟩)
@[simp] theorem cm_l2 (i : Int) : CMul 2 i = True := eq_true (.inl ⟨by omega, by omega⟩)
@[simp] theorem cm_l7 (i : Int) : CMul 7 i = True := eq_true (.inl ⟨by omega, by omega⟩)
@[simp] theorem cd_997 (i : Int) : CDiv i 997 = True := eq_true ⟨by omega, by omega⟩
@[simp] theorem cd_1000 (i : Int) : CDiv i 1000 = True := eq_true ⟨by omega, by omega⟩
@[simp] theorem cp_1018 : CPow 10 18 = True := eq_true ⟨by omega, by omega, by decide⟩
theorem app_last {A B : DE} {env : DL.Env} {m : Mem} {is : List Int} {y : Int} (hA : A env (m ++ [.lst (is.map .int)]) = .ok (.ref m.length) (m ++ [.lst (is.map .int)])) (hB : B env (m ++ [.lst (is.map .int)]) = .ok (.int y) (m ++ [.lst (is.map .int)])) (hl : is.length ≤ 1000000) :
    eAppend A B env (m ++ [.lst (is.map .int)]) = .ok .non (m ++ [.lst ((is ++ [y]).map .int)]) := by
  rw [eAppend_eq hA at0 hB at0 (by rw [List.length_map]; omega)]
  simp
theorem digits_eq {ns : List Int} {m : Mem} (h0 : m[0]? = some (.rol (ns.map .int))) (a b : Nat) (ha : a ≤ 1000) (hb : b ≤ 1000) : ∃ is : List Int, D__law_digits [.ref 0, .int (a : Int), .int (b : Int)] m = .ok (.ref m.length) (m ++ [.lst (is.map .int)]) := by
  suffices h : ∃ is : List Int, (S__law_digits (envOf 8 [.ref 0, .int (a : Int), .int (b : Int)]) m).sat fun fl m' => fl.val = some (.ref m.length) ∧ m' = m ++ [.lst (is.map .int)] by
    obtain ⟨is, h⟩ := h
    exact ⟨is, runT_ret rfl h⟩
  suffices h : (S__law_digits (envOf 8 [.ref 0, .int (a : Int), .int (b : Int)]) m).sat fun fl m' => ∃ is : List Int, fl.val = some (.ref m.length) ∧ m' = m ++ [.lst (is.map .int)] by
    obtain ⟨fl, m', e, is, h1, h2⟩ := h.ex
    exact ⟨is, by rw [e]; exact ⟨h1, h2⟩⟩
  have hm : ∀ l, (m ++ l)[0]? = some (.rol (ns.map .int)) := fun l => (Grow.app m l).get h0
  simp [S__law_digits, envOf]
  refine sFor_of (rng2_eq (m1 := m ++ [.lst []]) (m2 := m ++ [.lst []]) (a := a) (b := b) (by simp) (by simp) (by omega) (by omega))
    (fun i env m' => ∃ x4 x5 x6 x7, ∃ is : List Int, env = [some (.ref 0), some (.int (a : Int)), some (.int (b : Int)), some (.ref m.length), x4, x5, x6, x7] ∧ is.length ≤ 1560 ∧ m' = m ++ [.lst (is.map .int)])
    ⟨none, none, none, none, [], rfl, by simp, rfl⟩ (fun i env m' _ => guard_nil m') ?_ ?_
  · rintro i d env m' hd ⟨x4, x5, x6, x7, is, rfl, his, rfl⟩
    have hi : i < b - a := by have := (List.getElem?_eq_some_iff.mp hd).1; simpa using this
    rw [List.getElem?_map, List.getElem?_range hi] at hd
    cases hd
    obtain ⟨c, hc⟩ := cell_eq (hm [.lst (is.map .int)]) (a + i)
    simp only [Int.natCast_add] at hc ⊢
    have hlen : ∀ js : List Int, fLen [.ref m.length] (m ++ [.lst (js.map .int)]) = .ok (.int js.length) (m ++ [.lst (js.map .int)]) := fun js => by rw [fLen_ref (xs := js.map .int) at0]; simp
    simp [b__law_digits_3, hc, hlen]
    have one : ∀ (c : Int) (k : Int), is.length ≤ 1500 → (sFor (iRng1D (eC (.int 60))) (gVar 6) b__law_digits_1 [some (.ref 0), some (.int (a : Int)), some (.int (b : Int)), some (.ref m.length), some (.int k), some (.int c), x6, x7] (m ++ [.lst (is.map .int)])).sat fun fl m' => ∃ env, fl = .nx env ∧ ∃ x4 x5 x6 x7, ∃ is : List Int, env = [some (.ref 0), some (.int (a : Int)), some (.int (b : Int)), some (.ref m.length), x4, x5, x6, x7] ∧ is.length ≤ 1560 ∧ m' = m ++ [.lst (is.map .int)] := by
      intro c k hle
      refine sFor_of (rng1_eq (m1 := m ++ [.lst (is.map .int)]) (n := 60) (by simp) (by omega))
        (fun j env m' => ∃ c x6, ∃ js : List Int, env = [some (.ref 0), some (.int (a : Int)), some (.int (b : Int)), some (.ref m.length), some (.int k), some (.int c), x6, x7] ∧ js.length ≤ 1500 + j ∧ m' = m ++ [.lst (js.map .int)]) ⟨c, x6, is, rfl, hle, rfl⟩ (fun i env m' _ => guard_nil m') ?_ ?_
      · rintro j d env m' hd ⟨c, x6, js, rfl, hjs, rfl⟩
        have hj : j < 60 := by have := (List.getElem?_eq_some_iff.mp hd).1; simpa using this
        simp [b__law_digits_1]
        by_cases h : 0 < c
        · rw [if_pos h, app_last (y := c % 1000) (by simp) (by simp) (by omega)]
          simp only [sat_ok]
          exact ⟨js ++ [c % 1000], by simp; omega, rfl⟩
        · rw [if_neg h]
          exact ⟨js, by omega, rfl⟩
      · rintro env m' ⟨c, x6, js, rfl, hjs, rfl⟩
        exact ⟨_, rfl, _, _, _, _, js, rfl, by simpa using hjs, rfl⟩
    have two : ∀ (c : Int) (k : Int) (s : Int), is.length ≤ 1500 → (sFor (iRng1D (eC (.int 12))) (gVar 6) b__law_digits_2 [some (.ref 0), some (.int (a : Int)), some (.int (b : Int)), some (.ref m.length), some (.int k), some (.int c), x6, some (.int s)] (m ++ [.lst (is.map .int)])).sat fun fl m' => ∃ env, fl = .nx env ∧ ∃ x4 x5 x6 x7, ∃ is : List Int, env = [some (.ref 0), some (.int (a : Int)), some (.int (b : Int)), some (.ref m.length), x4, x5, x6, x7] ∧ is.length ≤ 1560 ∧ m' = m ++ [.lst (is.map .int)] := by
      intro c k s hle
      refine sFor_of (rng1_eq (m1 := m ++ [.lst (is.map .int)]) (n := 12) (by simp) (by omega))
        (fun j env m' => ∃ s x6, ∃ js : List Int, env = [some (.ref 0), some (.int (a : Int)), some (.int (b : Int)), some (.ref m.length), some (.int k), some (.int c), x6, some (.int s)] ∧ js.length ≤ 1500 + j ∧ m' = m ++ [.lst (js.map .int)]) ⟨s, x6, is, rfl, hle, rfl⟩ (fun i env m' _ => guard_nil m') ?_ ?_
      · rintro j d env m' hd ⟨s, x6, js, rfl, hjs, rfl⟩
        have hj : j < 12 := by have := (List.getElem?_eq_some_iff.mp hd).1; simpa using this
        rw [List.getElem?_map, List.getElem?_range hj] at hd
        cases hd
        simp [b__law_digits_2]
        rw [app_last (y := ((s * 16807 + 7 * (j : Int) + 1) % 2147483647) / 997 % 1000) (by simp) (by simp) (by omega)]
        simp only [sat_ok]
        exact ⟨js ++ [((s * 16807 + 7 * (j : Int) + 1) % 2147483647) / 997 % 1000], by simp; omega, rfl⟩
      · rintro env m' ⟨s, x6, js, rfl, hjs, rfl⟩
        have : js.length ≤ 1512 := by simpa using hjs
        exact ⟨_, rfl, _, _, _, _, js, rfl, by omega, rfl⟩
    by_cases hc0 : c < 0
    · rw [if_pos hc0]
      by_cases hl : (1500 : Int) < is.length
      · rw [if_pos hl]; exact ⟨rfl, is, rfl⟩
      · rw [if_neg hl]
        by_cases hb : (1000000000000000000 : Int) ≤ 1 - 2 * c
        · rw [if_pos hb]
          refine (one _ _ (by omega)).mono ?_
          rintro fl m' ⟨env, rfl, y4, y5, y6, y7, js, rfl, h1, rfl⟩
          exact ⟨⟨_, _, _, _, rfl⟩, js, h1, rfl⟩
        · rw [if_neg hb]
          refine (two _ _ _ (by omega)).mono ?_
          rintro fl m' ⟨env, rfl, y4, y5, y6, y7, js, rfl, h1, rfl⟩
          exact ⟨⟨_, _, _, _, rfl⟩, js, h1, rfl⟩
    · rw [if_neg hc0]
      by_cases hl : (1500 : Int) < is.length
      · rw [if_pos hl]; exact ⟨rfl, is, rfl⟩
      · rw [if_neg hl]
        by_cases hb : (1000000000000000000 : Int) ≤ c
        · rw [if_pos hb]
          refine (one _ _ (by omega)).mono ?_
          rintro fl m' ⟨env, rfl, y4, y5, y6, y7, js, rfl, h1, rfl⟩
          exact ⟨⟨_, _, _, _, rfl⟩, js, h1, rfl⟩
        · rw [if_neg hb]
          refine (two _ _ _ (by omega)).mono ?_
          rintro fl m' ⟨env, rfl, y4, y5, y6, y7, js, rfl, h1, rfl⟩
          exact ⟨⟨_, _, _, _, rfl⟩, js, h1, rfl⟩
  · rintro env m' ⟨x4, x5, x6, x7, is, rfl, his, rfl⟩
    simp
    exact ⟨rfl, is, rfl⟩
theorem digits_start (ns : List Int) : ∃ is : List Int, D__law_digits [.ref 0, .int 0, .int 63] [.rol (ns.map DV.int)] = .ok (.ref 1) [.rol (ns.map DV.int), .lst (is.map .int)] :=
  digits_eq (m := [.rol (ns.map DV.int)]) rfl 0 63 (by omega) (by omega)
noncomputable abbrev F__law_draw : TM.Box → Int → Option (Int × TM.Box) := TM.drawO
theorem f__law_draw : TM.FunX D__law_draw TM.CBox (TM.RaC TM.RInt TM.RaN) TM.RInt (fun b x => F__law_draw b x.1) := ⟨fun {P m k ob ds t x v t'} hP hPk hk hc hr hv => by
  obtain ⟨d, es, rfl, h1, h2⟩ := hr
  cases (show es = [] from h2)
  cases (show d = .int x.1 from h1)
  unfold F__law_draw TM.drawO at hv
  split at hv
  case isFalse => cases hv
  rename_i hj
  cases hv
  obtain ⟨rfl, hne, hd⟩ := hc
  have hne' : k ≠ 1 := fun e => hne e.symm
  have hkl := (List.getElem?_eq_some_iff.mp hk).1
  obtain ⟨is, a⟩ := t
  simp only at hk hd
  have hdr : (m.set k (.lst [.ref 1, .int ((a : Int) + 1)]))[1]? = some (.lst (is.map .int)) := by rw [List.getElem?_set_ne hne']; exact hd
  have hbr : (m.set k (.lst [.ref 1, .int ((a : Int) + 1)]))[k]? = some (.lst [.ref 1, .int ((a : Int) + 1)]) := by rw [List.getElem?_set_self hkl]
  have hset : ∀ v, setL (.ref k) (.int 1) v m = .ok () (m.set k (.lst [.ref 1, v])) := by
    intro v
    simp only [setL, hk]
    rfl
  have h0 : ixD (.ref k) (.int 1) m = .ok (.int (a : Int)) m := by rw [ixD_ref hk]; rfl
  have key : D__law_draw [.ref k, .int x.1] m = .ok (.int (TM.drawV ⟨is, a⟩ x.1)) (m.set k (.lst [.ref 1, .int ((a : Int) + 1)])) := by
    refine runT_ret rfl ?_
    have h2 : ixD (.ref k) (.int 0) (m.set k (.lst [.ref 1, .int ((a : Int) + 1)])) = .ok (.ref 1) (m.set k (.lst [.ref 1, .int ((a : Int) + 1)])) := by rw [ixD_ref hbr]; rfl
    by_cases hlt : a < is.length
    · have h1 : atI (is.map DV.int) (a : Int) = some (.int is[a]) := by rw [DL.atI_nat, List.getElem?_map, List.getElem?_eq_getElem hlt]; rfl
      have e : TM.drawV ⟨is, a⟩ x.1 = is[a] % x.1 := by unfold TM.drawV; simp only [List.getElem?_eq_getElem hlt]
      rw [e]
      simp [S__law_draw, envOf, h0, gSetL, hset, h2, fLen_ref hdr, hlt, ixD_ref hdr, h1, hj]
      rfl
    · have e : TM.drawV ⟨is, a⟩ x.1 = ((a : Int) * 7) % x.1 := by unfold TM.drawV; simp only [List.getElem?_eq_none (Nat.le_of_not_lt hlt)]
      rw [e]
      simp [S__law_draw, envOf, h0, gSetL, hset, h2, fLen_ref hdr, hlt, hj]
      rfl
  refine ⟨_, _, .lst [.ref 1, .int ((a : Int) + 1)], key, by simp, fun i o hi h => by rw [List.getElem?_set_ne (fun e => hi e.symm)]; exact h, hbr, ⟨by simp, hne, hdr⟩, rfl⟩⟩
end My

end
section
set_option Elab.async false
set_option linter.all false
set_option maxRecDepth 100000
set_option maxHeartbeats 400000
set_option autoImplicit false
/-! the typed mirrors of the defs -/
namespace My
open PySem DL TM
open L2 (Key)
noncomputable def F_names_of (jobs : (Str × (List (Str × Int × Int × Int × Int)) × (List (Str × Str)))) : Option (List Str) :=
    (((some jobs).bind fun x1 => some x1.2.1).bind fun x4 => (szO x4.length).bind fun _ => mapO x4 (fun (y2 : (Str × Int × Int × Int × Int)) => (some y2).bind fun x3 => some x3.1)).bind fun x5 => some x5
theorem f_names_of : Fun D_names_of (RaC (RP3 RStr (RTup (RP5 RStr RInt RInt RInt RInt)) (RTup (RP2 RStr RStr))) RaN) (RLst RStr) (fun x_ => F_names_of x_.1) :=
  fun_of (es_p (es_nS es_n0)) rfl (fun _ _ _ x_ => (PB.un (ps_ret (w := .str) accR_fn (PE.wk (w := .new) (w' := .str) (pe_map (pi_tup (pe_prj j31 (pe_var v0 (e := rfl)) (e := rfl)) (e := rfl)) (w_cons (dV d0) w_nil) (t_var (sV s0)) (fun y2 => (pe_prj j50 (pe_var (vV v0) (e := rfl)) (e := rfl))) (ho := rfl))) (e := by first | (unfold F_names_of; dsimp only [id]; done) | (unfold F_names_of; dsimp only [id]; rfl) | rfl))))
noncomputable def F_table_of (jobs : (Str × (List (Str × Int × Int × Int × Int)) × (List (Str × Str)))) : Option (List (Key × (Str × Int × Int × Int × Int))) :=
    (((some jobs).bind fun x6 => some x6.2.1).bind fun x9 => (szO x9.length).bind fun _ => dfilO (V := RStr) x9 [] (fun (y7 : (Str × Int × Int × Int × Int)) => some true) (fun (y7 : (Str × Int × Int × Int × Int)) => (some y7).bind fun x8 => some x8.1) (fun (y7 : (Str × Int × Int × Int × Int)) => some y7)).bind fun x10 => some x10
theorem f_table_of : Fun D_table_of (RaC (RP3 RStr (RTup (RP5 RStr RInt RInt RInt RInt)) (RTup (RP2 RStr RStr))) RaN) (RDic (RP5 RStr RInt RInt RInt RInt)) (fun x_ => F_table_of x_.1) :=
  fun_of (es_p (es_nS es_n0)) rfl (fun _ _ _ x_ => (PB.un (ps_ret (w := .str) accR_fn (PE.wk (w := .new) (w' := .str) (pe_dcompF (V := RStr) (pi_tup (pe_prj j31 (pe_var v0 (e := rfl)) (e := rfl)) (e := rfl)) (w_cons (dV d0) w_nil) (t_var (sV s0)) (fun y7 => (pt_yes (e := rfl))) (fun y7 => (pe_prj j50 (pe_var (vV v0) (e := rfl)) (e := rfl))) (fun y7 => (pe_var (vV v0) (e := rfl))) (ho := rfl))) (e := by first | (unfold F_table_of; dsimp only [id]; done) | (unfold F_table_of; dsimp only [id]; rfl) | rfl))))
noncomputable def F_is_order (jobs : (Str × (List (Str × Int × Int × Int × Int)) × (List (Str × Str)))) (thing : PyData) : Option Bool :=
    (((((some thing).bind fun x11 => (tyA x11).bind fun t => some (isTb t "tuple")).bind fun x12 => some x12).bind fun x13 => some (!x13)).bind fun x21 => if x21 then some true else (((((some thing).bind fun x14 => itA x14).bind fun x17 => (szO x17.length).bind fun _ => mapO x17 (fun (y15 : PyData) => (some y15).bind fun x16 => (tyA x16).bind fun t => some (isTb t "str"))).bind fun x18 => some (x18.all id)).bind fun x19 => some x19).bind fun x20 => some (!x20)).bind fun x31 => if x31 then
    (some false).bind fun x22 => some x22
    else
    (((((some thing).bind fun x23 => OfA.dn (R := (RTup RStr)) x23).bind fun x24 => (szO x24.length).bind fun _ => some (sortO RStr x24)).bind fun x25 => some (ToA.up (R := (RLst RStr)) x25)).bind fun x28 => (((some jobs).bind fun x26 => F_names_of x26).bind fun x27 => some (ToA.up (R := (RLst RStr)) x27)).bind fun x29 => eqA x28 x29).bind fun x30 => some x30
theorem f_is_order : Fun D_is_order (RaC (RP3 RStr (RTup (RP5 RStr RInt RInt RInt RInt)) (RTup (RP2 RStr RStr))) (RaC RAny RaN)) RBl (fun x_ => F_is_order x_.1 x_.2.1) :=
  fun_of (es_p (es_p (es_nS es_n0))) rfl (fun _ _ _ x_ => (ps_ifR (pt_or (pt_not (pt_tru tr_bl (pe_un (u_isI "tuple") (pe_var (vV v0) (e := rfl)) (e := rfl)) (e := rfl)) (e := rfl)) (pt_not (pt_tru tr_bl (pe_callU u_all (pe_map (pi_A (pe_var (vV v0) (e := rfl)) (e := rfl)) (w_cons (dV (dV d0)) w_nil) (t_var (sV (sV s0))) (fun y15 => (pe_un (u_isI "str") (pe_var (vV (vV v0)) (e := rfl)) (e := rfl))) (ho := rfl)) (e := rfl)) (e := rfl)) (e := rfl)) (e := rfl)) (ps_ret (w := .new) accR_fn (pe_bl (i := false) (e := rfl)) (e := rfl)) (PB.un (ps_ret (w := .new) accR_fn (pe_bin u_eqA (pe_up (pe_callU (u_sortT (R := RStr)) (pe_dn (R := (RTup RStr)) (pe_var (vV v0) (e := rfl)) (e := rfl)) (e := rfl)) (e := rfl)) (pe_up (pe_call1 (f := F_names_of) f_names_of (PE.flat (pe_var v0 (e := rfl))) (e := rfl)) (e := rfl)) (e := rfl)) (e := rfl))) (e := by first | (unfold F_is_order; dsimp only [id]; done) | (unfold F_is_order; dsimp only [id]; rfl) | rfl)))
noncomputable def F_sum_of (jobs : (Str × (List (Str × Int × Int × Int × Int)) × (List (Str × Str)))) (order : (List Str)) : Option Int :=
    ((some jobs).bind fun x33 => F_table_of x33).bind fun table_32 =>
    ((some (0 : Int)).bind fun x35 => (some (0 : Int)).bind fun x36 => some (x35, x36)).bind fun p34 =>
    ((some order).bind fun x52 => forO x52 (p34.1, p34.2) (fun (t37 : Int × Int) (i38 : Str) => ((((some table_32).bind fun x40 => (some i38).bind fun x41 => lookK x40 (.inr x41)).bind fun x42 => some x42.2.1).bind fun x43 => some (t37.1 + x43)).bind fun now_39 =>
    (((some now_39).bind fun x48 => (((some table_32).bind fun x45 => (some i38).bind fun x46 => lookK x45 (.inr x46)).bind fun x47 => some x47.2.2.2.2).bind fun x49 => mulO x48 x49).bind fun x50 => some (t37.2 + x50)).bind fun found_44 =>
    some (now_39, found_44))).bind fun w51 =>
    (some w51.2).bind fun x53 => some x53
theorem f_sum_of : Fun D_sum_of (RaC (RP3 RStr (RTup (RP5 RStr RInt RInt RInt RInt)) (RTup (RP2 RStr RStr))) (RaC (RTup RStr) RaN)) RInt (fun x_ => F_sum_of x_.1 x_.2.1) :=
  fun_of (es_p (es_p (es_nS (es_nS (es_nS (es_nS es_n0)))))) rfl (fun _ _ _ x_ => (ps_seqC (ps_set (el := true) (sV (sV s0)) (PE.wk (w := .new) (w' := .str) (pe_call1 (f := F_table_of) f_table_of (PE.flat (pe_var v0 (e := rfl))) (e := rfl)))) (fun table_32 => (x_.1, (x_.2.1, (table_32, ())))) (fun _ => rfl) (fun table_32 => (ps_seqC (ps_asg (el := true) (t_p2 (t_var (sV (sV (sV s0)))) (t_var (sV (sV (sV (sV s0)))))) (pe_tp2 (pe_int (i := 0) (e := rfl)) (pe_int (i := 0) (e := rfl)) (e := rfl))) (fun p34 => (x_.1, (x_.2.1, (table_32, (p34.1, (p34.2, ())))))) (fun _ => rfl) (fun p34 => (ps_seq (emb := (fun (t37 : Int × Int) => (table_32, (t37.1, (t37.2, ()))))) (ps_forN (el := true) (emb := (fun (t37 : Int × Int) => (table_32, (t37.1, (t37.2, ()))))) (t0 := (p34.1, p34.2)) (pi_tup (pe_var (vV v0) (e := rfl)) (e := rfl)) (Wk0.wk (kX (kX (kV (kV (kV (kD kN))))))) (t_var (sD (sD (sV (sV (sV s0)))))) (fun t37 i38 => (ps_at (table_32, (t37.1, (t37.2, (i38, ())))) rfl (ps_seqC (ps_aug u_iadd (vD (vD (vV v0))) (sD (sD (sV s1))) (pe_prj j51 (pe_binV (v_dget (R := (RP5 RStr RInt RInt RInt RInt)) (S := RStr)) (pe_var (vD (vD v0)) (e := rfl)) (pe_var (vD (vD (vV (vV (vV v0))))) (e := rfl)) (e := rfl)) (e := rfl))) (fun now_39 => (table_32, (now_39, (t37.2, (i38, ()))))) (fun _ => rfl) (fun now_39 => (ps_fin (ps_aug u_iadd (vD (vD (vV (vV v0)))) (sD (sD (sV (sV s1)))) (pe_bin u_mul (pe_var (vD (vD (vV v0))) (e := rfl)) (pe_prj j54 (pe_binV (v_dget (R := (RP5 RStr RInt RInt RInt RInt)) (S := RStr)) (pe_var (vD (vD v0)) (e := rfl)) (pe_var (vD (vD (vV (vV (vV v0))))) (e := rfl)) (e := rfl)) (e := rfl)) (e := rfl))) (fun found_44 => (accN_nx (emb := (fun (t37 : Int × Int) => (table_32, (t37.1, (t37.2, ()))))) (t := (now_39, found_44)) (Wk0.wk (kD (kD (kV (kV (kV (kX kN))))))))) (e := rfl))) (e := rfl)))) (ho := rfl)) (fun w51 => (PB.un (ps_ret (w := .new) accR_fn (PE.flat (pe_var (vD (vD (vV (vV v0)))) (e := rfl))) (e := rfl)))) (e := rfl))) (e := rfl))) (e := by first | (unfold F_sum_of; dsimp only [id]; done) | (unfold F_sum_of; dsimp only [id]; rfl) | rfl)))
noncomputable def F__is_ahead (one : (Str × Int × Int × Int × Int)) (other : (Str × Int × Int × Int × Int)) : Option Bool :=
    ((((some one).bind fun x55 => some x55.2.2.2.2).bind fun x57 => ((some other).bind fun x56 => some x56.2.1).bind fun x58 => mulO x57 x58).bind fun x63 => (((some other).bind fun x59 => some x59.2.2.2.2).bind fun x61 => ((some one).bind fun x60 => some x60.2.1).bind fun x62 => mulO x61 x62).bind fun x64 => some (x63, x64, ())).bind fun p54 =>
    (((some p54.1).bind fun x65 => (some p54.2.1).bind fun x66 => some (decide (x66 < x65))).bind fun x74 => if x74 then some true else ((some p54.1).bind fun x67 => (some p54.2.1).bind fun x68 => some (decide (x67 = x68))).bind fun x73 => if x73 then ((some one).bind fun x69 => some x69.1).bind fun x71 => ((some other).bind fun x70 => some x70.1).bind fun x72 => some (dlt RStr x71 x72) else some false).bind fun x75 => some x75
theorem f__is_ahead : Fun D__is_ahead (RaC (RP5 RStr RInt RInt RInt RInt) (RaC (RP5 RStr RInt RInt RInt RInt) RaN)) RBl (fun x_ => F__is_ahead x_.1 x_.2.1) :=
  fun_of (es_p (es_p (es_nS (es_nS es_n0)))) rfl (fun _ _ _ x_ => (ps_seqC (ps_parF2 (sV (sV s0)) (sV (sV (sV s0))) (pe_bin u_mul (pe_prj j54 (pe_var v0 (e := rfl)) (e := rfl)) (pe_prj j51 (pe_var (vV v0) (e := rfl)) (e := rfl)) (e := rfl)) (pe_bin u_mul (pe_prj j54 (pe_var (vV v0) (e := rfl)) (e := rfl)) (pe_prj j51 (pe_var v0 (e := rfl)) (e := rfl)) (e := rfl))) (fun p54 => (x_.1, (x_.2.1, (p54.1, (p54.2.1, ()))))) (fun _ => rfl) (fun p54 => (PB.un (ps_ret (w := .new) accR_fn (pe_or (pe_bin u_gtI (pe_var (vV (vV v0)) (e := rfl)) (pe_var (vV (vV (vV v0))) (e := rfl)) (e := rfl)) (pe_and (pe_bin u_eq (pe_var (vV (vV v0)) (e := rfl)) (pe_var (vV (vV (vV v0))) (e := rfl)) (e := rfl)) (pe_bin (u_lt (R := RStr)) (pe_prj j50 (pe_var v0 (e := rfl)) (e := rfl)) (pe_prj j50 (pe_var (vV v0) (e := rfl)) (e := rfl)) (e := rfl)) (e := rfl)) (e := rfl)) (e := rfl)))) (e := by first | (unfold F__is_ahead; dsimp only [id]; done) | (unfold F__is_ahead; dsimp only [id]; rfl) | rfl)))
noncomputable def F_least_sum (jobs : (Str × (List (Str × Int × Int × Int × Int)) × (List (Str × Str)))) : Option (List Str) :=
    (((some jobs).bind fun x77 => F_table_of x77).bind fun x79 => ((some jobs).bind fun x78 => F_names_of x78).bind fun x80 => some (x79, x80)).bind fun p76 =>
    (some ([] : List Str)).bind fun found_81 =>
    (whileO (p76.2, found_81) (fun (t82 : (List Str) × (List Str)) => (some t82.1).bind fun x104 => some (!x104.isEmpty)) (fun (t82 : (List Str) × (List Str)) => ((some t82.1).bind fun x85 => (some (0 : Int)).bind fun x86 => atO x85 x86).bind fun first_84 =>
    (forO t82.1 first_84 (fun (t87 : Str) (i88 : Str) => ((((some p76.1).bind fun x89 => (some i88).bind fun x90 => lookK x89 (.inr x90)).bind fun x93 => ((some p76.1).bind fun x91 => (some t87).bind fun x92 => lookK x91 (.inr x92)).bind fun x94 => F__is_ahead x93 x94).bind fun x95 => some x95).bind fun x97 => if x97 then
    (some i88).bind fun first_96 =>
    some first_96
    else
    some t87)).bind fun w98 =>
    ((some w98).bind fun x100 => (szO (t82.2.length + 1)).bind fun _ => some (t82.2 ++ [x100])).bind fun found_99 =>
    ((some w98).bind fun x102 => (szO t82.1.length).bind fun _ => remO RStr t82.1 x102).bind fun left_101 =>
    some (left_101, found_99))).bind fun w103 =>
    ((some w103.2).bind fun x105 => some x105).bind fun x106 => some x106
theorem f_least_sum : Fun D_least_sum (RaC (RP3 RStr (RTup (RP5 RStr RInt RInt RInt RInt)) (RTup (RP2 RStr RStr))) RaN) (RTup RStr) (fun x_ => F_least_sum x_.1) :=
  fun_of (es_p (es_nS (es_nS (es_nS (es_nS (es_nS es_n0)))))) rfl (fun _ _ _ x_ => (ps_seqC (ps_parVO (sV s0) (nV (nV n0)) (PE.wk (w := .new) (w' := .str) (pe_call1 (f := F_table_of) f_table_of (PE.flat (pe_var v0 (e := rfl))) (e := rfl))) (pe_call1 (f := F_names_of) f_names_of (PE.flat (pe_var v0 (e := rfl))) (e := rfl))) (fun p76 => (x_.1, (p76.1, (p76.2, ())))) (fun _ => rfl) (fun p76 => (ps_seqC (ps_own (nV (nV (nO n0))) (pe_lstF (R := RStr) (w := .new) (pal_nil (w := .new) (e := rfl)) (e := rfl))) (fun found_81 => (x_.1, (p76.1, (p76.2, (found_81, ()))))) (fun _ => rfl) (fun found_81 => (ps_seq (emb := (fun (t82 : (List Str) × (List Str)) => (p76.1, (t82.1, (t82.2, ()))))) (ps_whileN (emb := (fun (t82 : (List Str) × (List Str)) => (p76.1, (t82.1, (t82.2, ()))))) (t0 := (p76.2, found_81)) (Wk0.wk (kX (kV (kO (kO (kD (kD kN))))))) (fun t82 => (pt_tru tr_lst (pe_own (OwnAt.lok (oD (oV o0))) (e := rfl)) (e := rfl))) (fun t82 => (ps_seqC (ps_set (el := true) (sD (sV (sO (sO s0)))) (PE.flat (pe_binV v_ixL (pe_own (OwnAt.lok (oD (oV o0))) (e := rfl)) (PE.wk (w := .new) (w' := .any) (pe_int (i := 0) (e := rfl))) (e := rfl)))) (fun first_84 => (p76.1, (t82.1, (t82.2, (first_84, ()))))) (fun _ => rfl) (fun first_84 => (ps_seq (emb := (fun (t87 : Str) => (p76.1, (t82.1, (t82.2, (t87, ())))))) (ps_forOwnN (emb := (fun (t87 : Str) => (p76.1, (t82.1, (t82.2, (t87, ())))))) (t0 := first_84) (OwnAt.lok (oD (oV o0))) (lkD (lkV lk0)) (fun _ _ => (Wk0.wk (kD (kV (kL (kO (kV (kD kN)))))))) (sdD (sdV sd0)) (fun _ _ => (t_var (sD (sV (sL (sO (sV s0))))))) (fun _ _ t87 i88 => (ps_at (p76.1, (t82.1, (t82.2, (t87, (i88, ()))))) rfl (ps_if (pt_tru tr_bl (pe_call2 (f := F__is_ahead) f__is_ahead (PE.flat (pe_binV (v_dget (R := (RP5 RStr RInt RInt RInt RInt)) (S := RStr)) (pe_var (vD v0) (e := rfl)) (pe_var (vD (vV (vL (vO (vV v0))))) (e := rfl)) (e := rfl))) (PE.flat (pe_binV (v_dget (R := (RP5 RStr RInt RInt RInt RInt)) (S := RStr)) (pe_var (vD v0) (e := rfl)) (pe_var (vD (vV (vL (vO v0)))) (e := rfl)) (e := rfl))) (e := rfl)) (e := rfl)) (ps_fin (ps_set (el := true) (sD (sV (sL (sO s1)))) (PE.flat (pe_var (vD (vV (vL (vO (vV v0))))) (e := rfl)))) (fun first_96 => (accN_nx (emb := (fun (t87 : Str) => (p76.1, (t82.1, (t82.2, (t87, ())))))) (t := first_96) (Wk0.wk (kD (kV (kL (kO (kV (kX kN))))))))) (e := rfl)) (ps_skip (accN_nx (emb := (fun (t87 : Str) => (p76.1, (t82.1, (t82.2, (t87, ())))))) (t := t87) (Wk0.wk (kD (kV (kL (kO (kV (kX kN)))))))) (e := rfl)) (e := rfl)))) (fun _ _ _ => (Wk0.wk (kD (kV (kU (kO (kV (kD kN)))))))) (ho := rfl)) (fun w98 => (ps_seqC (ps_app (oD (oV (oO o0))) (PE.flat (pe_var (vD (vV (vO (vO v0)))) (e := rfl)))) (fun found_99 => (p76.1, (t82.1, (found_99, (w98, ()))))) (fun _ => rfl) (fun found_99 => (ps_fin (ps_rem (oD (oV o0)) (pe_var (vD (vV (vO (vO v0)))) (e := rfl))) (fun left_101 => (accN_nx (emb := (fun (t82 : (List Str) × (List Str)) => (p76.1, (t82.1, (t82.2, ()))))) (t := (left_101, found_99)) (Wk0.wk (kD (kV (kO (kO (kX (kD kN))))))))) (e := rfl))) (e := rfl))) (e := rfl))) (e := rfl))) (ho := rfl)) (fun w103 => (PB.un (ps_ret (w := .new) accR_fn (PE.flat (pe_callV v_tupL (pe_own (OwnAt.lok (oD (oV (oO o0)))) (e := rfl)) (e := rfl))) (e := rfl)))) (e := rfl))) (e := rfl))) (e := by first | (unfold F_least_sum; dsimp only [id]; done) | (unfold F_least_sum; dsimp only [id]; rfl) | rfl)))
noncomputable def F_is_least_sum (jobs : (Str × (List (Str × Int × Int × Int × Int)) × (List (Str × Str)))) (thing : PyData) : Option Bool :=
    ((((some jobs).bind fun x107 => (some thing).bind fun x108 => F_is_order x107 x108).bind fun x109 => some x109).bind fun x110 => some (!x110)).bind fun x141 => if x141 then
    (some false).bind fun x111 => some x111
    else
    ((some jobs).bind fun x113 => F_table_of x113).bind fun table_112 =>
    (((some thing).bind fun x115 => itA x115).bind fun x120 => (szO x120.length).bind fun _ => mapO x120 (fun (y116 : PyData) => (some table_112).bind fun x118 => ((some y116).bind fun x117 => OfA.dn (R := RStr) x117).bind fun x119 => lookK x118 (.inr x119))).bind fun rows_114 =>
    ((((some rows_114).bind fun x125 => ((some rows_114).bind fun x122 => ((some (1 : Int)).bind fun x121 => some (some x121)).bind fun x123 => (some none).bind fun x124 => some (cutO x122 x123 x124)).bind fun x126 => some (x125.zip x126)).bind fun x138 => (szO x138.length).bind fun _ => mapO x138 (fun (y127 : ((Str × Int × Int × Int × Int) × (Str × Int × Int × Int × Int))) => (((some y127.2).bind fun x128 => some x128.2.2.2.2).bind fun x130 => ((some y127.1).bind fun x129 => some x129.2.1).bind fun x131 => mulO x130 x131).bind fun x136 => (((some y127.1).bind fun x132 => some x132.2.2.2.2).bind fun x134 => ((some y127.2).bind fun x133 => some x133.2.1).bind fun x135 => mulO x134 x135).bind fun x137 => some (decide (x136 ≤ x137)))).bind fun x139 => some (x139.all id)).bind fun x140 => some x140
theorem f_is_least_sum : Fun D_is_least_sum (RaC (RP3 RStr (RTup (RP5 RStr RInt RInt RInt RInt)) (RTup (RP2 RStr RStr))) (RaC RAny RaN)) RBl (fun x_ => F_is_least_sum x_.1 x_.2.1) :=
  fun_of (es_p (es_p (es_nS (es_nS (es_nS (es_nS (es_nS es_n0))))))) rfl (fun _ _ _ x_ => (ps_ifR (pt_not (pt_tru tr_bl (pe_call2 (f := F_is_order) f_is_order (pe_var v0 (e := rfl)) (pe_var (vV v0) (e := rfl)) (e := rfl)) (e := rfl)) (e := rfl)) (ps_ret (w := .new) accR_fn (pe_bl (i := false) (e := rfl)) (e := rfl)) (ps_seqC (ps_set (el := true) (sV (sV s0)) (PE.wk (w := .new) (w' := .str) (pe_call1 (f := F_table_of) f_table_of (PE.flat (pe_var v0 (e := rfl))) (e := rfl)))) (fun table_112 => (x_.1, (x_.2.1, (table_112, ())))) (fun _ => rfl) (fun table_112 => (ps_seqC (ps_set (el := true) (sV (sV (sV s0))) (PE.wk (w := .new) (w' := .str) (pe_map (pi_A (pe_var (vV v0) (e := rfl)) (e := rfl)) (w_cons (dV (dV (dV (dD d0)))) w_nil) (t_var (sV (sV (sV (sD s0))))) (fun y116 => (pe_binV (v_dget (R := (RP5 RStr RInt RInt RInt RInt)) (S := RStr)) (pe_var (vV (vV v0)) (e := rfl)) (pe_dn (R := RStr) (pe_var (vV (vV (vV (vD v0)))) (e := rfl)) (e := rfl)) (e := rfl))) (ho := rfl)))) (fun rows_114 => (x_.1, (x_.2.1, (table_112, (rows_114, ()))))) (fun _ => rfl) (fun rows_114 => (PB.un (ps_ret (w := .new) accR_fn (pe_callU u_all (pe_map (pi_zipL (pe_var (vV (vV (vV v0))) (e := rfl)) (pe_sl sl_L (pe_var (vV (vV (vV v0))) (e := rfl)) (po_some (pe_int (i := 1) (e := rfl)) (e := rfl)) (po_none (e := rfl)) (e := rfl)) (e := rfl)) (w_cons (dV (dV (dV (dV (dD d0))))) (w_cons (dV (dV (dV (dV (dD (dD d0)))))) w_nil)) (t_p2 (t_var (sV (sV (sV (sV (sD s0)))))) (t_var (sV (sV (sV (sV (sD (sV s0)))))))) (fun y127 => (pe_bin u_leI (pe_bin u_mul (pe_prj j54 (pe_var (vV (vV (vV (vV (vD (vV v0)))))) (e := rfl)) (e := rfl)) (pe_prj j51 (pe_var (vV (vV (vV (vV (vD v0))))) (e := rfl)) (e := rfl)) (e := rfl)) (pe_bin u_mul (pe_prj j54 (pe_var (vV (vV (vV (vV (vD v0))))) (e := rfl)) (e := rfl)) (pe_prj j51 (pe_var (vV (vV (vV (vV (vD (vV v0)))))) (e := rfl)) (e := rfl)) (e := rfl)) (e := rfl))) (ho := rfl)) (e := rfl)) (e := rfl)))) (e := rfl))) (e := rfl)) (e := by first | (unfold F_is_least_sum; dsimp only [id]; done) | (unfold F_is_least_sum; dsimp only [id]; rfl) | rfl)))
noncomputable def F__law_pick (b_ : Box) (things : (List (List Str))) : Option ((List Str) × Box) :=
    (((some things).bind fun x142 => some (x142, b_)).bind fun q154 => ((((some (900 : Int)).bind fun x144 => F__law_draw q154.2 x144).bind fun q146 => (some q146.1).bind fun x147 => some (x147, q146.2)).bind fun q151 => (((some things).bind fun x149 => some (x149.length : Int)).bind fun x150 => some (x150, q151.2)).bind fun q152 => (modO q151.1 q152.1).bind fun x153 => some (x153, q152.2)).bind fun q155 => (atO q154.1 q155.1).bind fun x156 => some (x156, q155.2)).bind fun q160 => some (q160.1, q160.2)
theorem f__law_pick : FunX D__law_pick CBox (RaC (RLst (RTup RStr)) RaN) (RTup RStr) (fun b_ x_ => F__law_pick b_ x_.1) :=
  funx_of (es_p es_n0) rfl (fun _ _ _ _ b_ x_ => (PB.un (ps_retX (emb := (fun (e161 : Box) => (e161, (x_.1, ())))) (g := fun t158 v159 => (v159, t158)) (fun t158 => (accR_io io0)) (px_binV (emb := (fun (e157 : Box) => (e157, (x_.1, ())))) v_ixL (px_pure (emb := (fun (e157 : Box) => (e157, (x_.1, ())))) (t0 := b_) (pe_var (vO v0) (e := rfl)) rfl (e := rfl)) (fun t143 => (px_bin (emb := (fun (e157 : Box) => (e157, (x_.1, ())))) u_mod (px_callU (emb := (fun (e157 : Box) => (e157, (x_.1, ())))) u_int (px_ioP1 (emb := (fun (e157 : Box) => (e157, (x_.1, ())))) (f := F__law_draw) f__law_draw o0 (pe_int (i := 900) (e := rfl)) (e := rfl)) (e := rfl)) (fun t148 => (px_pure (emb := (fun (e157 : Box) => (e157, (x_.1, ())))) (t0 := t148) (pe_len (g := (fun (v : (List (List Str))) => some (v.length : Int))) f_lenL (pe_var (vO v0) (e := rfl)) (e := rfl)) rfl (e := rfl))) (e := rfl))) (e := rfl)) (e := by first | (unfold F__law_pick; dsimp only [id]; done) | (unfold F__law_pick; dsimp only [id]; rfl) | rfl))))
noncomputable def F__law_like : Nat → PyData → PyData → Option Bool
  | 0 => fun _ _ => none
  | j + 1 => fun told due =>
    (((some due).bind fun x162 => (tyA x162).bind fun t => some (isTb t "tuple")).bind fun x163 => some x163).bind fun x223 => if x223 then
    (((((some told).bind fun x164 => (tyA x164).bind fun t => some (isTb t "tuple")).bind fun x165 => some x165).bind fun x166 => some (!x166)).bind fun x171 => if x171 then some true else ((some told).bind fun x167 => lenA x167).bind fun x169 => ((some due).bind fun x168 => lenA x168).bind fun x170 => some (!decide (x169 = x170))).bind fun x188 => if x188 then
    (some false).bind fun x172 => some x172
    else
    (((((some due).bind fun x173 => lenA x173).bind fun x174 => rngO 0 x174).bind fun x184 => (szO x184.length).bind fun _ => filO x184 (fun (y175 : Int) => ((((some told).bind fun x176 => (some y175).bind fun x177 => atA x176 x177).bind fun x180 => ((some due).bind fun x178 => (some y175).bind fun x179 => atA x178 x179).bind fun x181 => F__law_like j x180 x181).bind fun x182 => some x182).bind fun x183 => some (!x183)) (fun (y175 : Int) => some (1 : Int))).bind fun x185 => (some ([] : List Int)).bind fun x186 => some (decide (x185 = x186))).bind fun x187 => some x187
    else
    ((some due).bind fun x189 => some (isNA x189)).bind fun x222 => if x222 then
    ((some told).bind fun x190 => some (isNA x190)).bind fun x191 => some x191
    else
    ((some due).bind fun x192 => some (isBA true x192)).bind fun x221 => if x221 then
    ((some told).bind fun x193 => some (isBA true x193)).bind fun x194 => some x194
    else
    ((some due).bind fun x195 => some (isBA false x195)).bind fun x220 => if x220 then
    ((some told).bind fun x196 => some (isBA false x196)).bind fun x197 => some x197
    else
    (((some due).bind fun x198 => (tyA x198).bind fun t => some (isTb t "str")).bind fun x199 => some x199).bind fun x219 => if x219 then
    (((some told).bind fun x200 => (tyA x200).bind fun t => some (isTb t "str")).bind fun x209 => if x209 then (((some ("" : Str)).bind fun x204 => (((some told).bind fun x201 => OfA.dn (R := RStr) x201).bind fun x202 => (some ([] : List Str)).bind fun x203 => some (x202 :: x203)).bind fun x205 => (szO ((x205.map (·.length)).sum + x205.length * x204.length)).bind fun _ => some (Txt.join x204 x205)).bind fun x206 => some (ToA.up (R := RStr) x206)).bind fun x207 => (some due).bind fun x208 => eqA x207 x208 else some false).bind fun x210 => some x210
    else
    (((some told).bind fun x211 => (tyA x211).bind fun t => some (isTb t "int")).bind fun x217 => if x217 then (((some told).bind fun x212 => (tyA x212).bind fun t => some (isTb t "bool")).bind fun x213 => some (!x213)).bind fun x216 => if x216 then (some told).bind fun x214 => (some due).bind fun x215 => eqA x214 x215 else some false else some false).bind fun x218 => some x218
theorem f__law_like : ∀ j, Fun (D__law_like j) (RaC RAny (RaC RAny RaN)) RBl (fun x_ => F__law_like j x_.1 x_.2.1)
  | 0 => ⟨fun _ _ h => by cases h⟩
  | j + 1 => by
    have ih := f__law_like j
    exact fun_of (es_p (es_p (es_nS es_n0))) rfl (fun _ _ _ x_ => (ps_ifR (pt_tru tr_bl (pe_un (u_isI "tuple") (pe_var (vV v0) (e := rfl)) (e := rfl)) (e := rfl)) (ps_ifR (pt_or (pt_not (pt_tru tr_bl (pe_un (u_isI "tuple") (pe_var v0 (e := rfl)) (e := rfl)) (e := rfl)) (e := rfl)) (pt_tst (pe_bin u_ne (pe_len (g := lenA) f_lenA (pe_var v0 (e := rfl)) (e := rfl)) (pe_len (g := lenA) f_lenA (pe_var (vV v0) (e := rfl)) (e := rfl)) (e := rfl)) (e := rfl)) (e := rfl)) (PB.st2 (ps_ret (w := .new) accR_fn (pe_bl (i := false) (e := rfl)) (e := rfl))) (ps_ret (w := .new) accR_fn (pe_bin u_eq (pe_compF (pi_rng1 (pe_len (g := lenA) f_lenA (pe_var (vV v0) (e := rfl)) (e := rfl)) (e := rfl)) (w_cons (dV (dV d0)) w_nil) (t_var (sV (sV s0))) (fun y175 => (pt_not (pt_tru tr_bl (pe_call2 (f := F__law_like j) ih (pe_binV v_ixA (pe_var v0 (e := rfl)) (pe_var (vV (vV v0)) (e := rfl)) (e := rfl)) (pe_binV v_ixA (pe_var (vV v0) (e := rfl)) (pe_var (vV (vV v0)) (e := rfl)) (e := rfl)) (e := rfl)) (e := rfl)) (e := rfl))) (fun y175 => (pe_int (i := 1) (e := rfl))) (ho := rfl)) (pe_lstF (R := RInt) (w := .new) (pal_nil (w := .new) (e := rfl)) (e := rfl)) (e := rfl)) (e := rfl)) (e := rfl)) (ps_ifR (pt_tst (pe_un u_isNA (pe_var (vV v0) (e := rfl)) (e := rfl)) (e := rfl)) (ps_ret (w := .new) accR_fn (pe_un u_isNA (pe_var v0 (e := rfl)) (e := rfl)) (e := rfl)) (ps_ifR (pt_tst (pe_un (u_isBA true) (pe_var (vV v0) (e := rfl)) (e := rfl)) (e := rfl)) (ps_ret (w := .new) accR_fn (pe_un (u_isBA true) (pe_var v0 (e := rfl)) (e := rfl)) (e := rfl)) (ps_ifR (pt_tst (pe_un (u_isBA false) (pe_var (vV v0) (e := rfl)) (e := rfl)) (e := rfl)) (ps_ret (w := .new) accR_fn (pe_un (u_isBA false) (pe_var v0 (e := rfl)) (e := rfl)) (e := rfl)) (ps_ifR (pt_tru tr_bl (pe_un (u_isI "str") (pe_var (vV v0) (e := rfl)) (e := rfl)) (e := rfl)) (ps_ret (w := .new) accR_fn (pe_and (pe_un (u_isI "str") (pe_var v0 (e := rfl)) (e := rfl)) (pe_bin u_eqA (pe_up (pe_join (pe_str (i := "") (e := rfl)) (pe_lstF (R := RStr) (w := .new) (pal_cons (PE.flat (pe_dn (R := RStr) (pe_var v0 (e := rfl)) (e := rfl))) (pal_nil (w := .new) (e := rfl)) (e := rfl)) (e := rfl)) (e := rfl) join_ok) (e := rfl)) (pe_var (vV v0) (e := rfl)) (e := rfl)) (e := rfl)) (e := rfl)) (PB.un (ps_ret (w := .new) accR_fn (pe_and (pe_un (u_isI "int") (pe_var v0 (e := rfl)) (e := rfl)) (pe_and (pe_not (pe_un (u_isI "bool") (pe_var v0 (e := rfl)) (e := rfl)) (e := rfl)) (pe_bin u_eqA (pe_var v0 (e := rfl)) (pe_var (vV v0) (e := rfl)) (e := rfl)) (e := rfl)) (e := rfl)) (e := rfl))) (e := rfl)) (e := rfl)) (e := rfl)) (e := rfl)) (e := by first | (unfold F__law_like; dsimp only [id]; done) | (unfold F__law_like; dsimp only [id]; rfl) | rfl)))
noncomputable def F__law_shuffled (b_ : Box) (names : (List Str)) : Option ((List Str) × Box) :=
    (((some names).bind fun x225 => some x225).bind fun x226 => (some ([] : List Str)).bind fun x227 => some (x226, x227)).bind fun p224 =>
    (whileO (b_, p224.1, p224.2) (fun (t228 : Box × (List Str) × (List Str)) => (some t228.2.1).bind fun x249 => (some ([] : List Str)).bind fun x250 => some (!decide (x249 = x250))) (fun (t228 : Box × (List Str) × (List Str)) => ((((((some (900 : Int)).bind fun x231 => F__law_draw ((t228.2.1, t228.1).2) x231).bind fun q234 => some (q234.1, ((t228.2.1, t228.1).1, q234.2))).bind fun q238 => (((some q238.2.1).bind fun x236 => some (x236.length : Int)).bind fun x237 => some (x237, q238.2)).bind fun q239 => (modO q238.1 q239.1).bind fun x240 => some (x240, q239.2)).bind fun q243 => (popO q243.2.1 q243.1).bind fun r244 => some (r244.1, (r244.2, q243.2.2))).bind fun q246 => (szO (t228.2.2.length + 1)).bind fun _ => some (t228.2.2 ++ [q246.1], q246.2)).bind fun found_230 =>
    some (found_230.2.2, found_230.2.1, found_230.1))).bind fun w248 =>
    ((some w248.2.2).bind fun x251 => some x251).bind fun x252 => some (x252, w248.1)
theorem f__law_shuffled : FunX D__law_shuffled CBox (RaC (RLst RStr) RaN) (RTup RStr) (fun b_ x_ => F__law_shuffled b_ x_.1) :=
  funx_of (es_p (es_nS (es_nS es_n0))) rfl (fun _ _ _ _ b_ x_ => (ps_seqC (ps_parOO (nO (nV n0)) (nO (nV (nO n0))) (pe_callU u_lstL (pe_var (vO v0) (e := rfl)) (e := rfl)) (pe_lstF (R := RStr) (w := .new) (pal_nil (w := .new) (e := rfl)) (e := rfl))) (fun p224 => (b_, (x_.1, (p224.1, (p224.2, ()))))) (fun _ => rfl) (fun p224 => (ps_seq (emb := (fun (t228 : Box × (List Str) × (List Str)) => (t228.1, (t228.2.1, (t228.2.2, ()))))) (ps_whileN (emb := (fun (t228 : Box × (List Str) × (List Str)) => (t228.1, (t228.2.1, (t228.2.2, ()))))) (t0 := (b_, p224.1, p224.2)) (Wk0.wk (kO (kX (kO (kO kN))))) (fun t228 => (pt_tst (pe_bin u_ne (pe_own (OwnAt.lok (oO (oD o0))) (e := rfl)) (pe_lstF (R := RStr) (w := .new) (pal_nil (w := .new) (e := rfl)) (e := rfl)) (e := rfl)) (e := rfl))) (fun t228 => (ps_fin (ps_appX (emb := (fun (e247 : (List Str) × Box) => (e247.2, (e247.1, (t228.2.2, ()))))) (oO (oD (oO o0))) (px_popAt (emb := (fun (e245 : (List Str) × Box) => (e245.2, (e245.1, (t228.2.2, ()))))) (nu := fun (t242 : (List Str) × Box) (l241 : (List Str)) => (l241, t242.2)) (oO (oD o0)) (px_bin (emb := (fun (e245 : (List Str) × Box) => (e245.2, (e245.1, (t228.2.2, ()))))) u_mod (px_emb (emb := fun (e232 : Box) => (e232, ((t228.2.1, t228.1).1, (t228.2.2, ())))) (emb2 := (fun (e233 : (List Str) × Box) => (e233.2, (e233.1, (t228.2.2, ()))))) (g := fun (b : Box) => ((t228.2.1, t228.1).1, b)) (px_ioP1 (emb := fun (e232 : Box) => (e232, ((t228.2.1, t228.1).1, (t228.2.2, ())))) (f := F__law_draw) f__law_draw o0 (pe_int (i := 900) (e := rfl)) (e := rfl)) (e := rfl)) (fun t235 => (px_pure (emb := (fun (e245 : (List Str) × Box) => (e245.2, (e245.1, (t228.2.2, ()))))) (t0 := t235) (pe_len (g := (fun (v : (List Str)) => some (v.length : Int))) f_lenL (pe_own (OwnAt.lok (oO (oD o0))) (e := rfl)) (e := rfl)) rfl (e := rfl))) (e := rfl)) (e := rfl))) (fun found_230 => (accN_nx (emb := (fun (t228 : Box × (List Str) × (List Str)) => (t228.1, (t228.2.1, (t228.2.2, ()))))) (t := (found_230.2.2, found_230.2.1, found_230.1)) (Wk0.wk (kO (kD (kO (kO kN))))))) (e := rfl))) (ho := rfl)) (fun w248 => (PB.un (ps_ret (w := .new) (accR_io io0) (PE.flat (pe_callV v_tupL (pe_own (OwnAt.lok (oO (oD (oO o0)))) (e := rfl)) (e := rfl))) (e := rfl)))) (e := rfl))) (e := by first | (unfold F__law_shuffled; dsimp only [id]; done) | (unfold F__law_shuffled; dsimp only [id]; rfl) | rfl)))
noncomputable def F__law_jobs (b_ : Box) (many : Int) (froms : Bool) (pairs : Int) : Option ((Str × (List (Str × Int × Int × Int × Int)) × (List (Str × Str))) × Box) :=
    (((some many).bind fun x254 => rngO 0 x254).bind fun x259 => (szO x259.length).bind fun _ => mapO x259 (fun (y255 : Int) => (some ("j" : Str)).bind fun x257 => ((some y255).bind fun x256 => strO x256).bind fun x258 => (szO (x257.length + x258.length)).bind fun _ => some (x257 ++ x258))).bind fun names_253 =>
    (some ([] : List (Str × Int × Int × Int × Int))).bind fun rows_260 =>
    ((some names_253).bind fun x303 => forO x303 (b_, rows_260) (fun (t261 : Box × (List (Str × Int × Int × Int × Int))) (i262 : Str) => ((((some froms).bind fun x264 => some x264).bind fun x265 => some (x265, t261.1)).bind fun q270 => if q270.1 then (some (9 : Int)).bind fun x267 => F__law_draw q270.2 x267 else (some (0 : Int)).bind fun x269 => some (x269, q270.2)).bind fun begin_263 =>
    ((((some i262).bind fun x274 => some (x274, begin_263.2)).bind fun q294 => (((some (1 : Int)).bind fun x276 => some (x276, q294.2)).bind fun q279 => ((some (5 : Int)).bind fun x278 => F__law_draw q279.2 x278).bind fun q280 => (some (q279.1 + q280.1)).bind fun x281 => some (x281, q280.2)).bind fun q295 => ((some begin_263.1).bind fun x283 => some (x283, q295.2)).bind fun q296 => (((some begin_263.1).bind fun x285 => some (x285, q296.2)).bind fun q288 => ((some (14 : Int)).bind fun x287 => F__law_draw q288.2 x287).bind fun q289 => (some (q288.1 + q289.1)).bind fun x290 => some (x290, q289.2)).bind fun q297 => ((some (5 : Int)).bind fun x292 => F__law_draw q297.2 x292).bind fun q298 => some ((q294.1, q295.1, q296.1, q297.1, q298.1), q298.2)).bind fun q300 => (szO (t261.2.length + 1)).bind fun _ => some (t261.2 ++ [q300.1], q300.2)).bind fun rows_273 =>
    some (rows_273.2, rows_273.1))).bind fun w302 =>
    ((some names_253).bind fun x305 => F__law_shuffled w302.1 x305).bind fun place_304 =>
    (some ([] : List (Str × Str))).bind fun ahead_308 =>
    (((((some many).bind fun x309 => (some (1 : Int)).bind fun x310 => some (decide (x310 < x309))).bind fun x311 => if x311 then some pairs else some (0 : Int)).bind fun x312 => rngO 0 x312).bind fun x346 => forO x346 (place_304.2, ahead_308) (fun (t313 : Box × (List (Str × Str))) (i314 : Int) => ((((some (900 : Int)).bind fun x316 => F__law_draw t313.1 x316).bind fun q319 => ((some many).bind fun x318 => some (x318, q319.2)).bind fun q320 => (modO q319.1 q320.1).bind fun x321 => some (x321, q320.2)).bind fun q331 => (((some (900 : Int)).bind fun x323 => F__law_draw q331.2 x323).bind fun q326 => ((some many).bind fun x325 => some (x325, q326.2)).bind fun q327 => (modO q326.1 q327.1).bind fun x328 => some (x328, q327.2)).bind fun q332 => some ((q331.1, q332.1, ()), q332.2)).bind fun p315 =>
    ((some p315.1.1).bind fun x334 => (some p315.1.2.1).bind fun x335 => some (decide (x334 < x335))).bind fun x344 => if x344 then
    ((((some place_304.1).bind fun x337 => (some p315.1.1).bind fun x338 => atO x337 x338).bind fun x341 => ((some place_304.1).bind fun x339 => (some p315.1.2.1).bind fun x340 => atO x339 x340).bind fun x342 => some (x341, x342)).bind fun x343 => (szO (t313.2.length + 1)).bind fun _ => some (t313.2 ++ [x343])).bind fun ahead_336 =>
    some (p315.2, ahead_336)
    else
    some (p315.2, t313.2))).bind fun w345 =>
    ((some ("jobs" : Str)).bind fun x350 => ((some w302.2).bind fun x347 => some x347).bind fun x351 => (((some w345.2).bind fun x348 => sortSetO (RP2 RStr RStr) x348).bind fun x349 => some x349).bind fun x352 => some (x350, x351, x352)).bind fun x353 => some (x353, w345.1)
theorem f__law_jobs : FunX D__law_jobs CBox (RaC RInt (RaC RBl (RaC RInt RaN))) (RP3 RStr (RTup (RP5 RStr RInt RInt RInt RInt)) (RTup (RP2 RStr RStr))) (fun b_ x_ => F__law_jobs b_ x_.1 x_.2.1 x_.2.2.1) :=
  funx_of (es_p (es_p (es_p (es_nS (es_nS (es_nS (es_nS (es_nS (es_nS (es_nS (es_nS (es_nS es_n0)))))))))))) rfl (fun _ _ _ _ b_ x_ => (ps_seqC (ps_set (el := true) (sO (sV (sV (sV s0)))) (PE.wk (w := .new) (w' := .str) (pe_map (pi_rng1 (pe_var (vO v0) (e := rfl)) (e := rfl)) (w_cons (dO (dV (dV (dV (dD (dD (dD (dD (dD (dD d0)))))))))) w_nil) (t_var (sO (sV (sV (sV (sD (sD (sD (sD (sD (sD s0))))))))))) (fun y255 => (pe_bin u_cat (pe_str (i := "j") (e := rfl)) (pe_callU u_str (pe_var (vO (vV (vV (vV (vD (vD (vD (vD (vD (vD v0)))))))))) (e := rfl)) (e := rfl)) (e := rfl))) (ho := rfl)))) (fun names_253 => (b_, (x_.1, (x_.2.1, (x_.2.2.1, (names_253, ())))))) (fun _ => rfl) (fun names_253 => (ps_seqC (ps_own (nO (nV (nV (nV (nV n0))))) (pe_lstF (R := (RP5 RStr RInt RInt RInt RInt)) (w := .new) (pal_nil (w := .new) (e := rfl)) (e := rfl))) (fun rows_260 => (b_, (x_.1, (x_.2.1, (x_.2.2.1, (names_253, (rows_260, ()))))))) (fun _ => rfl) (fun rows_260 => (ps_seq (emb := (fun (t261 : Box × (List (Str × Int × Int × Int × Int))) => (t261.1, (x_.1, (x_.2.1, (x_.2.2.1, (names_253, (t261.2, ())))))))) (ps_forN (el := true) (emb := (fun (t261 : Box × (List (Str × Int × Int × Int × Int))) => (t261.1, (x_.1, (x_.2.1, (x_.2.2.1, (names_253, (t261.2, ())))))))) (t0 := (b_, rows_260)) (pi_lst (pe_var (vO (vV (vV (vV v0)))) (e := rfl)) (e := rfl)) (Wk0.wk (kO (kV (kV (kV (kV (kO (kD (kD (kD (kD (kD (kD (kD kN)))))))))))))) (t_var (sO (sV (sV (sV (sV (sO s0))))))) (fun t261 i262 => (ps_at (t261.1, (x_.1, (x_.2.1, (x_.2.2.1, (names_253, (t261.2, (i262, ()))))))) rfl (ps_seqC (ps_setX (emb := (fun (e272 : Box) => (e272, (x_.1, (x_.2.1, (x_.2.2.1, (names_253, (t261.2, (i262, ()))))))))) (sO (sV (sV (sV (sV (sO (sV s0))))))) (px_if (emb := (fun (e271 : Box) => (e271, (x_.1, (x_.2.1, (x_.2.2.1, (names_253, (t261.2, (i262, ()))))))))) (ptx_pure (emb := (fun (e271 : Box) => (e271, (x_.1, (x_.2.1, (x_.2.2.1, (names_253, (t261.2, (i262, ()))))))))) (t0 := t261.1) (pt_tru tr_bl (pe_var (vO (vV v0)) (e := rfl)) (e := rfl)) rfl (e := rfl)) (fun t266 => (px_ioP1 (emb := (fun (e271 : Box) => (e271, (x_.1, (x_.2.1, (x_.2.2.1, (names_253, (t261.2, (i262, ()))))))))) (f := F__law_draw) f__law_draw o0 (pe_int (i := 9) (e := rfl)) (e := rfl))) (fun t268 => (px_pure (emb := (fun (e271 : Box) => (e271, (x_.1, (x_.2.1, (x_.2.2.1, (names_253, (t261.2, (i262, ()))))))))) (t0 := t268) (pe_int (i := 0) (e := rfl)) rfl (e := rfl))) (e := rfl))) (fun begin_263 => (begin_263.2, (x_.1, (x_.2.1, (x_.2.2.1, (names_253, (t261.2, (i262, (begin_263.1, ()))))))))) (fun _ => rfl) (fun begin_263 => (ps_fin (ps_appX (emb := (fun (e301 : Box) => (e301, (x_.1, (x_.2.1, (x_.2.2.1, (names_253, (t261.2, (i262, (begin_263.1, ())))))))))) (oO (oV (oV (oV (oV o0))))) (px_tp5 (emb := (fun (e299 : Box) => (e299, (x_.1, (x_.2.1, (x_.2.2.1, (names_253, (t261.2, (i262, (begin_263.1, ())))))))))) (px_pure (emb := (fun (e299 : Box) => (e299, (x_.1, (x_.2.1, (x_.2.2.1, (names_253, (t261.2, (i262, (begin_263.1, ())))))))))) (t0 := begin_263.2) (PE.flat (pe_var (vO (vV (vV (vV (vV (vO v0)))))) (e := rfl))) rfl (e := rfl)) (fun t275 => (px_bin (emb := (fun (e299 : Box) => (e299, (x_.1, (x_.2.1, (x_.2.2.1, (names_253, (t261.2, (i262, (begin_263.1, ())))))))))) u_add (px_pure (emb := (fun (e299 : Box) => (e299, (x_.1, (x_.2.1, (x_.2.2.1, (names_253, (t261.2, (i262, (begin_263.1, ())))))))))) (t0 := t275) (pe_int (i := 1) (e := rfl)) rfl (e := rfl)) (fun t277 => (px_ioP1 (emb := (fun (e299 : Box) => (e299, (x_.1, (x_.2.1, (x_.2.2.1, (names_253, (t261.2, (i262, (begin_263.1, ())))))))))) (f := F__law_draw) f__law_draw o0 (pe_int (i := 5) (e := rfl)) (e := rfl))) (e := rfl))) (fun t282 => (px_pure (emb := (fun (e299 : Box) => (e299, (x_.1, (x_.2.1, (x_.2.2.1, (names_253, (t261.2, (i262, (begin_263.1, ())))))))))) (t0 := t282) (PE.flat (pe_var (vO (vV (vV (vV (vV (vO (vV v0))))))) (e := rfl))) rfl (e := rfl))) (fun t284 => (px_bin (emb := (fun (e299 : Box) => (e299, (x_.1, (x_.2.1, (x_.2.2.1, (names_253, (t261.2, (i262, (begin_263.1, ())))))))))) u_add (px_pure (emb := (fun (e299 : Box) => (e299, (x_.1, (x_.2.1, (x_.2.2.1, (names_253, (t261.2, (i262, (begin_263.1, ())))))))))) (t0 := t284) (PE.flat (pe_var (vO (vV (vV (vV (vV (vO (vV v0))))))) (e := rfl))) rfl (e := rfl)) (fun t286 => (px_ioP1 (emb := (fun (e299 : Box) => (e299, (x_.1, (x_.2.1, (x_.2.2.1, (names_253, (t261.2, (i262, (begin_263.1, ())))))))))) (f := F__law_draw) f__law_draw o0 (pe_int (i := 14) (e := rfl)) (e := rfl))) (e := rfl))) (fun t291 => (px_ioP1 (emb := (fun (e299 : Box) => (e299, (x_.1, (x_.2.1, (x_.2.2.1, (names_253, (t261.2, (i262, (begin_263.1, ())))))))))) (f := F__law_draw) f__law_draw o0 (pe_int (i := 5) (e := rfl)) (e := rfl))) (e := rfl))) (fun rows_273 => (accN_nx (emb := (fun (t261 : Box × (List (Str × Int × Int × Int × Int))) => (t261.1, (x_.1, (x_.2.1, (x_.2.2.1, (names_253, (t261.2, ())))))))) (t := (rows_273.2, rows_273.1)) (Wk0.wk (kO (kV (kV (kV (kV (kO (kX (kX (kD (kD (kD (kD (kD kN)))))))))))))))) (e := rfl))) (e := rfl)))) (ho := rfl)) (fun w302 => (ps_seqC (ps_setX (emb := (fun (e307 : Box) => (e307, (x_.1, (x_.2.1, (x_.2.2.1, (names_253, (w302.2, ())))))))) (sO (sV (sV (sV (sV (sO (sD (sD s0)))))))) (px_ioP1 (emb := (fun (e306 : Box) => (e306, (x_.1, (x_.2.1, (x_.2.2.1, (names_253, (w302.2, ())))))))) (f := F__law_shuffled) f__law_shuffled o0 (pe_var (vO (vV (vV (vV v0)))) (e := rfl)) (e := rfl))) (fun place_304 => (place_304.2, (x_.1, (x_.2.1, (x_.2.2.1, (names_253, (w302.2, (place_304.1, ())))))))) (fun _ => rfl) (fun place_304 => (ps_seqC (ps_own (nO (nV (nV (nV (nV (nO (nD (nD (nV n0))))))))) (pe_lstF (R := (RP2 RStr RStr)) (w := .new) (pal_nil (w := .new) (e := rfl)) (e := rfl))) (fun ahead_308 => (place_304.2, (x_.1, (x_.2.1, (x_.2.2.1, (names_253, (w302.2, (place_304.1, (ahead_308, ()))))))))) (fun _ => rfl) (fun ahead_308 => (ps_seq (emb := (fun (t313 : Box × (List (Str × Str))) => (t313.1, (x_.1, (w302.2, (place_304.1, (t313.2, ()))))))) (ps_forN (el := true) (emb := (fun (t313 : Box × (List (Str × Str))) => (t313.1, (x_.1, (w302.2, (place_304.1, (t313.2, ()))))))) (t0 := (place_304.2, ahead_308)) (pi_rng1 (pe_if (pt_tst (pe_bin u_gtI (pe_var (vO v0) (e := rfl)) (pe_int (i := 1) (e := rfl)) (e := rfl)) (e := rfl)) (pe_var (vO (vV (vV v0))) (e := rfl)) (PE.wk (w := .new) (w' := .str) (pe_int (i := 0) (e := rfl))) (e := rfl)) (e := rfl)) (Wk0.wk (kO (kV (kX (kX (kX (kO (kD (kD (kV (kO (kD (kD (kD kN)))))))))))))) (t_var (sO (sV (sD (sD (sD (sO (sD (sD (sV (sO s0))))))))))) (fun t313 i314 => (ps_at (t313.1, (x_.1, (w302.2, (place_304.1, (t313.2, (i314, ())))))) rfl (ps_seqC (ps_parXF2 (emb := (fun (e333 : Box) => (e333, (x_.1, (w302.2, (place_304.1, (t313.2, (i314, ())))))))) (sO (sV (sD (sD (sD (sO (sD (sD (sV (sO (sV s0))))))))))) (sO (sV (sD (sD (sD (sO (sD (sD (sV (sO (sV (sV s0)))))))))))) (px_bin (emb := (fun (e330 : Box) => (e330, (x_.1, (w302.2, (place_304.1, (t313.2, (i314, ())))))))) u_mod (px_ioP1 (emb := (fun (e330 : Box) => (e330, (x_.1, (w302.2, (place_304.1, (t313.2, (i314, ())))))))) (f := F__law_draw) f__law_draw o0 (pe_int (i := 900) (e := rfl)) (e := rfl)) (fun t317 => (px_pure (emb := (fun (e330 : Box) => (e330, (x_.1, (w302.2, (place_304.1, (t313.2, (i314, ())))))))) (t0 := t317) (PE.flat (pe_var (vO v0) (e := rfl))) rfl (e := rfl))) (e := rfl)) (fun t322 => (px_bin (emb := (fun (e330 : Box) => (e330, (x_.1, (w302.2, (place_304.1, (t313.2, (i314, ())))))))) u_mod (px_ioP1 (emb := (fun (e330 : Box) => (e330, (x_.1, (w302.2, (place_304.1, (t313.2, (i314, ())))))))) (f := F__law_draw) f__law_draw o0 (pe_int (i := 900) (e := rfl)) (e := rfl)) (fun t324 => (px_pure (emb := (fun (e330 : Box) => (e330, (x_.1, (w302.2, (place_304.1, (t313.2, (i314, ())))))))) (t0 := t324) (PE.flat (pe_var (vO v0) (e := rfl))) rfl (e := rfl))) (e := rfl)))) (fun p315 => (p315.2, (x_.1, (w302.2, (place_304.1, (t313.2, (i314, (p315.1.1, (p315.1.2.1, ()))))))))) (fun _ => rfl) (fun p315 => (ps_if (pt_tst (pe_bin u_ltI (pe_var (vO (vV (vD (vD (vD (vO (vD (vD (vV (vO (vV v0))))))))))) (e := rfl)) (pe_var (vO (vV (vD (vD (vD (vO (vD (vD (vV (vO (vV (vV v0)))))))))))) (e := rfl)) (e := rfl)) (e := rfl)) (ps_fin (ps_app (oO (oV (oD (oD (oD (oO (oD (oD (oV o0))))))))) (pe_tp2 (pe_binV v_ixT (PE.flat (pe_var (vO (vV (vD (vD (vD (vO (vD (vD v0)))))))) (e := rfl))) (PE.flat (pe_var (vO (vV (vD (vD (vD (vO (vD (vD (vV (vO (vV v0))))))))))) (e := rfl))) (e := rfl)) (pe_binV v_ixT (PE.flat (pe_var (vO (vV (vD (vD (vD (vO (vD (vD v0)))))))) (e := rfl))) (PE.flat (pe_var (vO (vV (vD (vD (vD (vO (vD (vD (vV (vO (vV (vV v0)))))))))))) (e := rfl))) (e := rfl)) (e := rfl))) (fun ahead_336 => (accN_nx (emb := (fun (t313 : Box × (List (Str × Str))) => (t313.1, (x_.1, (w302.2, (place_304.1, (t313.2, ()))))))) (t := (p315.2, ahead_336)) (Wk0.wk (kO (kV (kD (kD (kD (kO (kD (kD (kV (kO (kX (kX (kX kN)))))))))))))))) (e := rfl)) (ps_skip (accN_nx (emb := (fun (t313 : Box × (List (Str × Str))) => (t313.1, (x_.1, (w302.2, (place_304.1, (t313.2, ()))))))) (t := (p315.2, t313.2)) (Wk0.wk (kO (kV (kD (kD (kD (kO (kD (kD (kV (kO (kX (kX (kX kN))))))))))))))) (e := rfl)) (e := rfl))) (e := rfl)))) (ho := rfl)) (fun w345 => (PB.un (ps_ret (w := .new) (accR_io io0) (pe_tp3 (pe_str (i := "jobs") (e := rfl)) (PE.flat (pe_callV v_tupL (pe_own (OwnAt.lok (oO (oV (oD (oD (oD o0)))))) (e := rfl)) (e := rfl))) (pe_callV v_tupL (pe_un (u_sortSet (R := (RP2 RStr RStr))) (pe_own (OwnAt.lok (oO (oV (oD (oD (oD (oO (oD (oD (oV o0)))))))))) (e := rfl)) (e := rfl)) (e := rfl)) (e := rfl)) (e := rfl)))) (e := rfl))) (e := rfl))) (e := rfl))) (e := rfl))) (e := rfl))) (e := by first | (unfold F__law_jobs; dsimp only [id]; done) | (unfold F__law_jobs; dsimp only [id]; rfl) | rfl)))
noncomputable def F__law_names (jobs : (Str × (List (Str × Int × Int × Int × Int)) × (List (Str × Str)))) : Option (List Str) :=
    (((some jobs).bind fun x354 => some x354.2.1).bind fun x357 => (szO x357.length).bind fun _ => mapO x357 (fun (y355 : (Str × Int × Int × Int × Int)) => (some y355).bind fun x356 => some x356.1)).bind fun x358 => some x358
theorem f__law_names : Fun D__law_names (RaC (RP3 RStr (RTup (RP5 RStr RInt RInt RInt RInt)) (RTup (RP2 RStr RStr))) RaN) (RLst RStr) (fun x_ => F__law_names x_.1) :=
  fun_of (es_p (es_nS es_n0)) rfl (fun _ _ _ x_ => (PB.un (ps_ret (w := .str) accR_fn (PE.wk (w := .new) (w' := .str) (pe_map (pi_tup (pe_prj j31 (pe_var v0 (e := rfl)) (e := rfl)) (e := rfl)) (w_cons (dV d0) w_nil) (t_var (sV s0)) (fun y355 => (pe_prj j50 (pe_var (vV v0) (e := rfl)) (e := rfl))) (ho := rfl))) (e := by first | (unfold F__law_names; dsimp only [id]; done) | (unfold F__law_names; dsimp only [id]; rfl) | rfl))))
noncomputable def F__law_orders (names : (List Str)) : Option (List (List Str)) :=
    ((some ([] : List Str)).bind fun x360 => (some ([] : List (List Str))).bind fun x361 => some (x360 :: x361)).bind fun found_359 =>
    ((some names).bind fun x394 => forO x394 found_359 (fun (t362 : (List (List Str))) (i363 : Str) => (some ([] : List (List Str))).bind fun longer_364 =>
    ((some t362).bind fun x391 => forO x391 longer_364 (fun (t365 : (List (List Str))) (i366 : (List Str)) => ((some t365).bind fun x388 => (((((some i366).bind fun x368 => some (x368.length : Int)).bind fun x369 => (some (1 : Int)).bind fun x370 => some (x369 + x370)).bind fun x371 => rngO 0 x371).bind fun x387 => (szO x387.length).bind fun _ => mapO x387 (fun (y372 : Int) => (((some i366).bind fun x374 => (some none).bind fun x375 => ((some y372).bind fun x373 => some (some x373)).bind fun x376 => some (cutO x374 x375 x376)).bind fun x379 => ((some i363).bind fun x377 => (some ([] : List Str)).bind fun x378 => some (x377 :: x378)).bind fun x380 => (szO (x379.length + x380.length)).bind fun _ => some (x379 ++ x380)).bind fun x385 => ((some i366).bind fun x382 => ((some y372).bind fun x381 => some (some x381)).bind fun x383 => (some none).bind fun x384 => some (cutO x382 x383 x384)).bind fun x386 => (szO (x385.length + x386.length)).bind fun _ => some (x385 ++ x386))).bind fun x389 => (szO (x388.length + x389.length)).bind fun _ => some (x388 ++ x389)).bind fun longer_367 =>
    some longer_367)).bind fun w390 =>
    (some w390).bind fun found_392 =>
    some found_392)).bind fun w393 =>
    (some w393).bind fun x395 => some x395
theorem f__law_orders : Fun D__law_orders (RaC (RLst RStr) RaN) (RLst (RTup RStr)) (fun x_ => F__law_orders x_.1) :=
  fun_of (es_p (es_nS (es_nS (es_nS (es_nS (es_nS es_n0)))))) rfl (fun _ _ _ x_ => (ps_seqC (ps_set (el := true) (sV s0) (PE.wk (w := .new) (w' := .str) (pe_lstF (R := (RTup RStr)) (w := .new) (pal_cons (pe_tupL (R := RStr) (w := .new) (pal_nil (w := .new) (e := rfl)) (e := rfl)) (pal_nil (w := .new) (e := rfl)) (e := rfl)) (e := rfl)))) (fun found_359 => (x_.1, (found_359, ()))) (fun _ => rfl) (fun found_359 => (ps_seq (emb := (fun (t362 : (List (List Str))) => (t362, ()))) (ps_forN (el := true) (emb := (fun (t362 : (List (List Str))) => (t362, ()))) (t0 := found_359) (pi_lst (pe_var v0 (e := rfl)) (e := rfl)) (Wk0.wk (kX (kV (kD (kD (kD (kD kN))))))) (t_var (sD (sV s0))) (fun t362 i363 => (ps_at (t362, (i363, ())) rfl (ps_seqC (ps_set (el := true) (sD (sV (sV s0))) (PE.wk (w := .new) (w' := .str) (pe_lstF (R := (RTup RStr)) (w := .new) (pal_nil (w := .new) (e := rfl)) (e := rfl)))) (fun longer_364 => (t362, (i363, (longer_364, ())))) (fun _ => rfl) (fun longer_364 => (ps_seq (emb := (fun (t365 : (List (List Str))) => (i363, (t365, ())))) (ps_forN (el := true) (emb := (fun (t365 : (List (List Str))) => (i363, (t365, ())))) (t0 := longer_364) (pi_lst (pe_var (vD v0) (e := rfl)) (e := rfl)) (Wk0.wk (kD (kX (kV (kV (kD (kD kN))))))) (t_var (sD (sD (sV (sV s0))))) (fun t365 i366 => (ps_at (i363, (t365, (i366, ()))) rfl (ps_fin (ps_set (el := true) (sD (sD (sV s1))) (pe_binV v_catL (pe_var (vD (vD (vV v0))) (e := rfl)) (PE.wk (w := .new) (w' := .str) (pe_map (pi_rng1 (pe_bin u_add (pe_len (g := (fun (v : (List Str)) => some (v.length : Int))) f_lenT (pe_var (vD (vD (vV (vV v0)))) (e := rfl)) (e := rfl)) (pe_int (i := 1) (e := rfl)) (e := rfl)) (e := rfl)) (w_cons (dD (dD (dV (dV (dV d0))))) w_nil) (t_var (sD (sD (sV (sV (sV s0)))))) (fun y372 => (pe_binV v_catT (pe_binV v_catT (pe_sl sl_T (PE.flat (pe_var (vD (vD (vV (vV v0)))) (e := rfl))) (po_none (e := rfl)) (po_some (pe_var (vD (vD (vV (vV (vV v0))))) (e := rfl)) (e := rfl)) (e := rfl)) (pe_tupL (R := RStr) (w := .new) (pal_cons (PE.flat (pe_var (vD (vD v0)) (e := rfl))) (pal_nil (w := .new) (e := rfl)) (e := rfl)) (e := rfl)) (e := rfl)) (pe_sl sl_T (PE.flat (pe_var (vD (vD (vV (vV v0)))) (e := rfl))) (po_some (pe_var (vD (vD (vV (vV (vV v0))))) (e := rfl)) (e := rfl)) (po_none (e := rfl)) (e := rfl)) (e := rfl))) (ho := rfl))) (e := rfl))) (fun longer_367 => (accN_nx (emb := (fun (t365 : (List (List Str))) => (i363, (t365, ())))) (t := longer_367) (Wk0.wk (kD (kD (kV (kV (kX (kD kN))))))))) (e := rfl)))) (ho := rfl)) (fun w390 => (ps_fin (ps_set (el := true) (sD s0) (pe_var (vD (vD (vV v0))) (e := rfl))) (fun found_392 => (accN_nx (emb := (fun (t362 : (List (List Str))) => (t362, ()))) (t := found_392) (Wk0.wk (kD (kV (kX (kX (kD (kD kN))))))))) (e := rfl))) (e := rfl))) (e := rfl)))) (ho := rfl)) (fun w393 => (PB.un (ps_ret (w := .str) accR_fn (pe_var (vD v0) (e := rfl)) (e := rfl)))) (e := rfl))) (e := by first | (unfold F__law_orders; dsimp only [id]; done) | (unfold F__law_orders; dsimp only [id]; rfl) | rfl)))
noncomputable def F__law_sum_of (jobs : (Str × (List (Str × Int × Int × Int × Int)) × (List (Str × Str)))) (order : (List Str)) : Option Int :=
    (((((some jobs).bind fun x397 => some x397.2.1).bind fun x402 => (szO x402.length).bind fun _ => mapO x402 (fun (y398 : (Str × Int × Int × Int × Int)) => ((some y398).bind fun x399 => some x399.1).bind fun x400 => (some y398).bind fun x401 => some (x400, x401))).bind fun x403 => some (dictO (S := RStr) x403)).bind fun x404 => (some (0 : Int)).bind fun x405 => (some (0 : Int)).bind fun x406 => some (x404, x405, x406, ())).bind fun p396 =>
    ((some order).bind fun x424 => forO x424 (p396.2.1, p396.2.2.1) (fun (t407 : Int × Int) (i408 : Str) => ((some t407.1).bind fun x413 => (((some p396.1).bind fun x410 => (some i408).bind fun x411 => lookK x410 (.inr x411)).bind fun x412 => some x412.2.1).bind fun x414 => some (x413 + x414)).bind fun here_409 =>
    ((some t407.2).bind fun x421 => ((some here_409).bind fun x419 => (((some p396.1).bind fun x416 => (some i408).bind fun x417 => lookK x416 (.inr x417)).bind fun x418 => some x418.2.2.2.2).bind fun x420 => mulO x419 x420).bind fun x422 => some (x421 + x422)).bind fun found_415 =>
    some (here_409, found_415))).bind fun w423 =>
    (some w423.2).bind fun x425 => some x425
theorem f__law_sum_of : Fun D__law_sum_of (RaC (RP3 RStr (RTup (RP5 RStr RInt RInt RInt RInt)) (RTup (RP2 RStr RStr))) (RaC (RTup RStr) RaN)) RInt (fun x_ => F__law_sum_of x_.1 x_.2.1) :=
  fun_of (es_p (es_p (es_nS (es_nS (es_nS (es_nS (es_nS es_n0))))))) rfl (fun _ _ _ x_ => (ps_seqC (ps_parF3 (sV (sV s0)) (sV (sV (sV s0))) (sV (sV (sV (sV s0)))) (pe_callV (v_dictP (R := (RP5 RStr RInt RInt RInt RInt)) (S := RStr)) (pe_map (pi_tup (pe_prj j31 (pe_var v0 (e := rfl)) (e := rfl)) (e := rfl)) (w_cons (dV (dV (dD (dD (dD (dD d0)))))) w_nil) (t_var (sV (sV (sD (sD (sD (sD s0))))))) (fun y398 => (pe_tp2 (PE.flat (pe_prj j50 (pe_var (vV (vV (vD (vD (vD (vD v0)))))) (e := rfl)) (e := rfl))) (PE.flat (pe_var (vV (vV (vD (vD (vD (vD v0)))))) (e := rfl))) (e := rfl))) (ho := rfl)) (e := rfl)) (pe_int (i := 0) (e := rfl)) (pe_int (i := 0) (e := rfl))) (fun p396 => (x_.1, (x_.2.1, (p396.1, (p396.2.1, (p396.2.2.1, ())))))) (fun _ => rfl) (fun p396 => (ps_seq (emb := (fun (t407 : Int × Int) => (p396.1, (t407.1, (t407.2, ()))))) (ps_forN (el := true) (emb := (fun (t407 : Int × Int) => (p396.1, (t407.1, (t407.2, ()))))) (t0 := (p396.2.1, p396.2.2.1)) (pi_tup (pe_var (vV v0) (e := rfl)) (e := rfl)) (Wk0.wk (kX (kX (kV (kV (kV (kD (kD kN)))))))) (t_var (sD (sD (sV (sV (sV s0)))))) (fun t407 i408 => (ps_at (p396.1, (t407.1, (t407.2, (i408, ())))) rfl (ps_seqC (ps_set (el := true) (sD (sD (sV s1))) (pe_bin u_add (pe_var (vD (vD (vV v0))) (e := rfl)) (pe_prj j51 (pe_binV (v_dget (R := (RP5 RStr RInt RInt RInt RInt)) (S := RStr)) (pe_var (vD (vD v0)) (e := rfl)) (pe_var (vD (vD (vV (vV (vV v0))))) (e := rfl)) (e := rfl)) (e := rfl)) (e := rfl))) (fun here_409 => (p396.1, (here_409, (t407.2, (i408, ()))))) (fun _ => rfl) (fun here_409 => (ps_fin (ps_set (el := true) (sD (sD (sV (sV s1)))) (pe_bin u_add (pe_var (vD (vD (vV (vV v0)))) (e := rfl)) (pe_bin u_mul (pe_var (vD (vD (vV v0))) (e := rfl)) (pe_prj j54 (pe_binV (v_dget (R := (RP5 RStr RInt RInt RInt RInt)) (S := RStr)) (pe_var (vD (vD v0)) (e := rfl)) (pe_var (vD (vD (vV (vV (vV v0))))) (e := rfl)) (e := rfl)) (e := rfl)) (e := rfl)) (e := rfl))) (fun found_415 => (accN_nx (emb := (fun (t407 : Int × Int) => (p396.1, (t407.1, (t407.2, ()))))) (t := (here_409, found_415)) (Wk0.wk (kD (kD (kV (kV (kV (kX (kD kN)))))))))) (e := rfl))) (e := rfl)))) (ho := rfl)) (fun w423 => (PB.un (ps_ret (w := .new) accR_fn (PE.flat (pe_var (vD (vD (vV (vV v0)))) (e := rfl))) (e := rfl)))) (e := rfl))) (e := by first | (unfold F__law_sum_of; dsimp only [id]; done) | (unfold F__law_sum_of; dsimp only [id]; rfl) | rfl)))
noncomputable def F__law_other (b_ : Box) (thing : PyData) : Option (PyData × Box) :=
    (((some thing).bind fun x426 => (tyA x426).bind fun t => some (isTb t "tuple")).bind fun x427 => some x427).bind fun x593 => if x593 then
    (((((some thing).bind fun x429 => lenA x429).bind fun x430 => rngO 0 x430).bind fun x439 => (szO x439.length).bind fun _ => mapO x439 (fun (y431 : Int) => (some thing).bind fun x437 => ((((some thing).bind fun x432 => lenA x432).bind fun x433 => (some (1 : Int)).bind fun x434 => some (x433 - x434)).bind fun x435 => (some y431).bind fun x436 => some (x435 - x436)).bind fun x438 => atA x437 x438)).bind fun x440 => some x440).bind fun behind_428 =>
    (((((((some thing).bind fun x441 => OfA.dn (R := (RTup RAny)) x441).bind fun x442 => some x442).bind fun x443 => some (ToA.up (R := (RLst RAny)) x443)).bind fun x467 => (((some thing).bind fun x448 => ((some thing).bind fun x445 => (some none).bind fun x446 => ((some (1 : Int)).bind fun x444 => some (some x444)).bind fun x447 => cutA x445 x446 x447).bind fun x449 => catA x448 x449).bind fun x465 => (((some thing).bind fun x451 => ((some (1 : Int)).bind fun x450 => some (some x450)).bind fun x452 => (some none).bind fun x453 => cutA x451 x452 x453).bind fun x463 => (((some ()).bind fun x454 => some (ToA.up (R := RNon) x454)).bind fun x461 => (((some ([] : List PyData)).bind fun x455 => some (ToA.up (R := (RTup RAny)) x455)).bind fun x459 => (((some behind_428).bind fun x456 => some (ToA.up (R := (RTup RAny)) x456)).bind fun x457 => (some ([] : List PyData)).bind fun x458 => some (x457 :: x458)).bind fun x460 => some (x459 :: x460)).bind fun x462 => some (x461 :: x462)).bind fun x464 => some (x463 :: x464)).bind fun x466 => some (x465 :: x466)).bind fun x468 => some (x467 :: x468)).bind fun x469 => some (x469, b_)).bind fun q472 => ((some (6 : Int)).bind fun x471 => F__law_draw q472.2 x471).bind fun q473 => (atO q472.1 q473.1).bind fun x474 => some (x474, q473.2)).bind fun q478 => some (q478.1, q478.2)
    else
    (((some thing).bind fun x480 => (tyA x480).bind fun t => some (isTb t "str")).bind fun x481 => some x481).bind fun x592 => if x592 then
    (((((some ("j0" : Str)).bind fun x482 => some (ToA.up (R := RStr) x482)).bind fun x516 => (((some ("j1" : Str)).bind fun x483 => some (ToA.up (R := RStr) x483)).bind fun x514 => (((some ("j2" : Str)).bind fun x484 => some (ToA.up (R := RStr) x484)).bind fun x512 => (((some ("s0" : Str)).bind fun x485 => some (ToA.up (R := RStr) x485)).bind fun x510 => (((some ("jobs" : Str)).bind fun x486 => some (ToA.up (R := RStr) x486)).bind fun x508 => (((some ("two" : Str)).bind fun x487 => some (ToA.up (R := RStr) x487)).bind fun x506 => (((some ("full" : Str)).bind fun x488 => some (ToA.up (R := RStr) x488)).bind fun x504 => (((some ("A" : Str)).bind fun x489 => some (ToA.up (R := RStr) x489)).bind fun x502 => (((some ("" : Str)).bind fun x490 => some (ToA.up (R := RStr) x490)).bind fun x500 => (((some ("x y" : Str)).bind fun x491 => some (ToA.up (R := RStr) x491)).bind fun x498 => (((some ()).bind fun x492 => some (ToA.up (R := RNon) x492)).bind fun x496 => (((some ("j9" : Str)).bind fun x493 => some (ToA.up (R := RStr) x493)).bind fun x494 => (some ([] : List PyData)).bind fun x495 => some (x494 :: x495)).bind fun x497 => some (x496 :: x497)).bind fun x499 => some (x498 :: x499)).bind fun x501 => some (x500 :: x501)).bind fun x503 => some (x502 :: x503)).bind fun x505 => some (x504 :: x505)).bind fun x507 => some (x506 :: x507)).bind fun x509 => some (x508 :: x509)).bind fun x511 => some (x510 :: x511)).bind fun x513 => some (x512 :: x513)).bind fun x515 => some (x514 :: x515)).bind fun x517 => some (x516 :: x517)).bind fun x518 => some (x518, b_)).bind fun q521 => ((some (12 : Int)).bind fun x520 => F__law_draw q521.2 x520).bind fun q522 => (atO q521.1 q522.1).bind fun x523 => some (x523, q522.2)).bind fun q527 => some (q527.1, q527.2)
    else
    ((some thing).bind fun x529 => some (isNA x529)).bind fun x591 => if x591 then
    (((((some (0 : Int)).bind fun x530 => some (ToA.up (R := RInt) x530)).bind fun x537 => (((some ("" : Str)).bind fun x531 => some (ToA.up (R := RStr) x531)).bind fun x535 => (((some ([] : List PyData)).bind fun x532 => some (ToA.up (R := (RTup RAny)) x532)).bind fun x533 => (some ([] : List PyData)).bind fun x534 => some (x533 :: x534)).bind fun x536 => some (x535 :: x536)).bind fun x538 => some (x537 :: x538)).bind fun x539 => some (x539, b_)).bind fun q542 => ((some (3 : Int)).bind fun x541 => F__law_draw q542.2 x541).bind fun q543 => (atO q542.1 q543.1).bind fun x544 => some (x544, q543.2)).bind fun q548 => some (q548.1, q548.2)
    else
    (((((((some thing).bind fun x550 => OfA.dn (R := RInt) x550).bind fun x551 => (some (1 : Int)).bind fun x552 => some (x551 + x552)).bind fun x553 => some (ToA.up (R := RInt) x553)).bind fun x578 => (((((some thing).bind fun x554 => OfA.dn (R := RInt) x554).bind fun x555 => (some (1 : Int)).bind fun x556 => some (x555 - x556)).bind fun x557 => some (ToA.up (R := RInt) x557)).bind fun x576 => ((((some (0 : Int)).bind fun x559 => ((some thing).bind fun x558 => OfA.dn (R := RInt) x558).bind fun x560 => some (x559 - x560)).bind fun x561 => some (ToA.up (R := RInt) x561)).bind fun x574 => (((some true).bind fun x562 => some (ToA.up (R := RBl) x562)).bind fun x572 => (((some ()).bind fun x563 => some (ToA.up (R := RNon) x563)).bind fun x570 => (((some (0 : Int)).bind fun x564 => some (ToA.up (R := RInt) x564)).bind fun x568 => (((some (100 : Int)).bind fun x565 => some (ToA.up (R := RInt) x565)).bind fun x566 => (some ([] : List PyData)).bind fun x567 => some (x566 :: x567)).bind fun x569 => some (x568 :: x569)).bind fun x571 => some (x570 :: x571)).bind fun x573 => some (x572 :: x573)).bind fun x575 => some (x574 :: x575)).bind fun x577 => some (x576 :: x577)).bind fun x579 => some (x578 :: x579)).bind fun x580 => some (x580, b_)).bind fun q583 => ((some (7 : Int)).bind fun x582 => F__law_draw q583.2 x582).bind fun q584 => (atO q583.1 q584.1).bind fun x585 => some (x585, q584.2)).bind fun q589 => some (q589.1, q589.2)
theorem f__law_other : FunX D__law_other CBox (RaC RAny RaN) RAny (fun b_ x_ => F__law_other b_ x_.1) :=
  funx_of (es_p (es_nS (es_nS es_n0))) rfl (fun _ _ _ _ b_ x_ => (ps_ifR (pt_tru tr_bl (pe_un (u_isI "tuple") (pe_var (vO v0) (e := rfl)) (e := rfl)) (e := rfl)) (ps_seqC (ps_set (el := true) (sO (sV s0)) (pe_callV v_tupL (pe_mapN (pi_rng1 (pe_len (g := lenA) f_lenA (pe_var (vO v0) (e := rfl)) (e := rfl)) (e := rfl)) (w_cons (dO (dV (dD d0))) w_nil) (t_var (sO (sV (sD s0)))) (fun y431 => (pe_binV v_ixA (pe_var (vO v0) (e := rfl)) (PE.wk (w := .new) (w' := .str) (pe_bin u_sub (pe_bin u_sub (pe_len (g := lenA) f_lenA (pe_var (vO v0) (e := rfl)) (e := rfl)) (pe_int (i := 1) (e := rfl)) (e := rfl)) (pe_var (vO (vV (vD v0))) (e := rfl)) (e := rfl))) (e := rfl))) (ho := rfl)) (e := rfl))) (fun behind_428 => (b_, (x_.1, (behind_428, ())))) (fun _ => rfl) (fun behind_428 => (ps_retX (emb := (fun (e479 : Box) => (e479, (x_.1, (behind_428, ()))))) (g := fun t476 v477 => (v477, t476)) (fun t476 => (accR_io io0)) (px_binV (emb := (fun (e475 : Box) => (e475, (x_.1, (behind_428, ()))))) v_ixL (px_pure (emb := (fun (e475 : Box) => (e475, (x_.1, (behind_428, ()))))) (t0 := b_) (pe_lst (R := RAny) (w := .str) (pal_cons (pe_up (pe_callV v_lstT (pe_dn (R := (RTup RAny)) (pe_var (vO v0) (e := rfl)) (e := rfl)) (e := rfl)) (e := rfl)) (pal_cons (pe_binV v_catA (pe_var (vO v0) (e := rfl)) (pe_sl sl_A (pe_var (vO v0) (e := rfl)) (po_none (e := rfl)) (po_some (pe_int (i := 1) (e := rfl)) (e := rfl)) (e := rfl)) (e := rfl)) (pal_cons (pe_sl sl_A (pe_var (vO v0) (e := rfl)) (po_some (pe_int (i := 1) (e := rfl)) (e := rfl)) (po_none (e := rfl)) (e := rfl)) (pal_cons (PE.wk (w := .new) (w' := .str) (pe_up (pe_non (e := rfl)) (e := rfl))) (pal_cons (PE.wk (w := .new) (w' := .str) (pe_up (pe_tupL (R := RAny) (w := .new) (pal_nil (w := .new) (e := rfl)) (e := rfl)) (e := rfl))) (pal_cons (pe_up (pe_var (vO (vV v0)) (e := rfl)) (e := rfl)) (pal_nil (w := .str) (e := rfl)) (e := rfl)) (e := rfl)) (e := rfl)) (e := rfl)) (e := rfl)) (e := rfl)) (e := rfl)) rfl (e := rfl)) (fun t470 => (px_ioP1 (emb := (fun (e475 : Box) => (e475, (x_.1, (behind_428, ()))))) (f := F__law_draw) f__law_draw o0 (pe_int (i := 6) (e := rfl)) (e := rfl))) (e := rfl)) (e := rfl))) (e := rfl)) (ps_ifR (pt_tru tr_bl (pe_un (u_isI "str") (pe_var (vO v0) (e := rfl)) (e := rfl)) (e := rfl)) (ps_retX (emb := (fun (e528 : Box) => (e528, (x_.1, ())))) (g := fun t525 v526 => (v526, t525)) (fun t525 => (accR_io io0)) (px_binV (emb := (fun (e524 : Box) => (e524, (x_.1, ())))) v_ixL (px_pure (emb := (fun (e524 : Box) => (e524, (x_.1, ())))) (t0 := b_) (pe_lst (R := RAny) (w := .str) (pal_cons (PE.wk (w := .new) (w' := .str) (pe_up (pe_str (i := "j0") (e := rfl)) (e := rfl))) (pal_cons (PE.wk (w := .new) (w' := .str) (pe_up (pe_str (i := "j1") (e := rfl)) (e := rfl))) (pal_cons (PE.wk (w := .new) (w' := .str) (pe_up (pe_str (i := "j2") (e := rfl)) (e := rfl))) (pal_cons (PE.wk (w := .new) (w' := .str) (pe_up (pe_str (i := "s0") (e := rfl)) (e := rfl))) (pal_cons (PE.wk (w := .new) (w' := .str) (pe_up (pe_str (i := "jobs") (e := rfl)) (e := rfl))) (pal_cons (PE.wk (w := .new) (w' := .str) (pe_up (pe_str (i := "two") (e := rfl)) (e := rfl))) (pal_cons (PE.wk (w := .new) (w' := .str) (pe_up (pe_str (i := "full") (e := rfl)) (e := rfl))) (pal_cons (PE.wk (w := .new) (w' := .str) (pe_up (pe_str (i := "A") (e := rfl)) (e := rfl))) (pal_cons (PE.wk (w := .new) (w' := .str) (pe_up (pe_str (i := "") (e := rfl)) (e := rfl))) (pal_cons (PE.wk (w := .new) (w' := .str) (pe_up (pe_str (i := "x y") (e := rfl)) (e := rfl))) (pal_cons (PE.wk (w := .new) (w' := .str) (pe_up (pe_non (e := rfl)) (e := rfl))) (pal_cons (PE.wk (w := .new) (w' := .str) (pe_up (pe_str (i := "j9") (e := rfl)) (e := rfl))) (pal_nil (w := .str) (e := rfl)) (e := rfl)) (e := rfl)) (e := rfl)) (e := rfl)) (e := rfl)) (e := rfl)) (e := rfl)) (e := rfl)) (e := rfl)) (e := rfl)) (e := rfl)) (e := rfl)) (e := rfl)) rfl (e := rfl)) (fun t519 => (px_ioP1 (emb := (fun (e524 : Box) => (e524, (x_.1, ())))) (f := F__law_draw) f__law_draw o0 (pe_int (i := 12) (e := rfl)) (e := rfl))) (e := rfl)) (e := rfl)) (ps_ifR (pt_tst (pe_un u_isNA (pe_var (vO v0) (e := rfl)) (e := rfl)) (e := rfl)) (ps_retX (emb := (fun (e549 : Box) => (e549, (x_.1, ())))) (g := fun t546 v547 => (v547, t546)) (fun t546 => (accR_io io0)) (px_binV (emb := (fun (e545 : Box) => (e545, (x_.1, ())))) v_ixL (px_pure (emb := (fun (e545 : Box) => (e545, (x_.1, ())))) (t0 := b_) (pe_lst (R := RAny) (w := .str) (pal_cons (PE.wk (w := .new) (w' := .str) (pe_up (pe_int (i := 0) (e := rfl)) (e := rfl))) (pal_cons (PE.wk (w := .new) (w' := .str) (pe_up (pe_str (i := "") (e := rfl)) (e := rfl))) (pal_cons (PE.wk (w := .new) (w' := .str) (pe_up (pe_tupL (R := RAny) (w := .new) (pal_nil (w := .new) (e := rfl)) (e := rfl)) (e := rfl))) (pal_nil (w := .str) (e := rfl)) (e := rfl)) (e := rfl)) (e := rfl)) (e := rfl)) rfl (e := rfl)) (fun t540 => (px_ioP1 (emb := (fun (e545 : Box) => (e545, (x_.1, ())))) (f := F__law_draw) f__law_draw o0 (pe_int (i := 3) (e := rfl)) (e := rfl))) (e := rfl)) (e := rfl)) (PB.un (ps_retX (emb := (fun (e590 : Box) => (e590, (x_.1, ())))) (g := fun t587 v588 => (v588, t587)) (fun t587 => (accR_io io0)) (px_binV (emb := (fun (e586 : Box) => (e586, (x_.1, ())))) v_ixL (px_pure (emb := (fun (e586 : Box) => (e586, (x_.1, ())))) (t0 := b_) (pe_lst (R := RAny) (w := .str) (pal_cons (PE.wk (w := .new) (w' := .str) (pe_up (pe_bin u_add (pe_dn (R := RInt) (pe_var (vO v0) (e := rfl)) (e := rfl)) (pe_int (i := 1) (e := rfl)) (e := rfl)) (e := rfl))) (pal_cons (PE.wk (w := .new) (w' := .str) (pe_up (pe_bin u_sub (pe_dn (R := RInt) (pe_var (vO v0) (e := rfl)) (e := rfl)) (pe_int (i := 1) (e := rfl)) (e := rfl)) (e := rfl))) (pal_cons (PE.wk (w := .new) (w' := .str) (pe_up (pe_bin u_sub (pe_int (i := 0) (e := rfl)) (pe_dn (R := RInt) (pe_var (vO v0) (e := rfl)) (e := rfl)) (e := rfl)) (e := rfl))) (pal_cons (PE.wk (w := .new) (w' := .str) (pe_up (pe_bl (i := true) (e := rfl)) (e := rfl))) (pal_cons (PE.wk (w := .new) (w' := .str) (pe_up (pe_non (e := rfl)) (e := rfl))) (pal_cons (PE.wk (w := .new) (w' := .str) (pe_up (pe_int (i := 0) (e := rfl)) (e := rfl))) (pal_cons (PE.wk (w := .new) (w' := .str) (pe_up (pe_int (i := 100) (e := rfl)) (e := rfl))) (pal_nil (w := .str) (e := rfl)) (e := rfl)) (e := rfl)) (e := rfl)) (e := rfl)) (e := rfl)) (e := rfl)) (e := rfl)) (e := rfl)) rfl (e := rfl)) (fun t581 => (px_ioP1 (emb := (fun (e586 : Box) => (e586, (x_.1, ())))) (f := F__law_draw) f__law_draw o0 (pe_int (i := 7) (e := rfl)) (e := rfl))) (e := rfl)) (e := rfl))) (e := rfl)) (e := rfl)) (e := by first | (unfold F__law_other; dsimp only [id]; done) | (unfold F__law_other; dsimp only [id]; rfl) | rfl)))
noncomputable def F__law_changed : Nat → Box → PyData → Option (PyData × Box)
  | 0 => fun _ _ => none
  | j + 1 => fun b_ thing =>
    ((((((some thing).bind fun x594 => (tyA x594).bind fun t => some (isTb t "tuple")).bind fun x595 => some x595).bind fun x596 => some (!x596)).bind fun x597 => some (x597, b_)).bind fun q611 => if q611.1 then some (true, q611.2) else (((some thing).bind fun x600 => ((some ([] : List PyData)).bind fun x599 => some (ToA.up (R := (RTup RAny)) x599)).bind fun x601 => eqA x600 x601).bind fun x602 => some (x602, q611.2)).bind fun q610 => if q610.1 then some (true, q610.2) else ((some (9 : Int)).bind fun x604 => F__law_draw q610.2 x604).bind fun q607 => ((some (0 : Int)).bind fun x606 => some (x606, q607.2)).bind fun q608 => (some (decide (q607.1 = q608.1))).bind fun x609 => some (x609, q608.2)).bind fun q663 => if q663.1 then
    ((some thing).bind fun x615 => F__law_other q663.2 x615).bind fun q619 => some (q619.1, q619.2)
    else
    (((some (900 : Int)).bind fun x622 => F__law_draw q663.2 x622).bind fun q626 => (((some thing).bind fun x624 => lenA x624).bind fun x625 => some (x625, q626.2)).bind fun q627 => (modO q626.1 q627.1).bind fun x628 => some (x628, q627.2)).bind fun at_621 =>
    (((((some thing).bind fun x632 => (some none).bind fun x633 => ((some at_621.1).bind fun x631 => some (some x631)).bind fun x634 => cutA x632 x633 x634).bind fun x635 => some (x635, at_621.2)).bind fun q644 => (((((some thing).bind fun x637 => (some at_621.1).bind fun x638 => atA x637 x638).bind fun x639 => F__law_changed j q644.2 x639).bind fun q641 => (some (([] : List PyData), q641.2)).bind fun q642 => some ((q641.1 :: q642.1), q642.2)).bind fun q643 => some ((ToA.up (R := (RTup RAny)) q643.1), q643.2)).bind fun q645 => (catA q644.1 q645.1).bind fun x646 => some (x646, q645.2)).bind fun q655 => (((some thing).bind fun x651 => (((some at_621.1).bind fun x648 => (some (1 : Int)).bind fun x649 => some (x648 + x649)).bind fun x650 => some (some x650)).bind fun x652 => (some none).bind fun x653 => cutA x651 x652 x653).bind fun x654 => some (x654, q655.2)).bind fun q656 => (catA q655.1 q656.1).bind fun x657 => some (x657, q656.2)).bind fun q661 => some (q661.1, q661.2)
theorem f__law_changed : ∀ j, FunX (D__law_changed j) CBox (RaC RAny RaN) RAny (fun b_ x_ => F__law_changed j b_ x_.1)
  | 0 => ⟨fun _ _ _ _ _ h => by cases h⟩
  | j + 1 => by
    have ih := f__law_changed j
    exact funx_of (es_p (es_nS es_n0)) rfl (fun _ _ _ _ b_ x_ => (ps_ifRX (emb := (fun (e613 : Box) => (e613, (x_.1, ())))) (ptx_or (emb := (fun (e612 : Box) => (e612, (x_.1, ())))) (ptx_pure (emb := (fun (e612 : Box) => (e612, (x_.1, ())))) (t0 := b_) (pt_not (pt_tru tr_bl (pe_un (u_isI "tuple") (pe_var (vO v0) (e := rfl)) (e := rfl)) (e := rfl)) (e := rfl)) rfl (e := rfl)) (fun t598 => (ptx_or (emb := (fun (e612 : Box) => (e612, (x_.1, ())))) (ptx_pure (emb := (fun (e612 : Box) => (e612, (x_.1, ())))) (t0 := t598) (pt_tst (pe_bin u_eqA (pe_var (vO v0) (e := rfl)) (pe_up (pe_tupL (R := RAny) (w := .new) (pal_nil (w := .new) (e := rfl)) (e := rfl)) (e := rfl)) (e := rfl)) (e := rfl)) rfl (e := rfl)) (fun t603 => (ptx_tst (emb := (fun (e612 : Box) => (e612, (x_.1, ())))) (px_bin (emb := (fun (e612 : Box) => (e612, (x_.1, ())))) u_eq (px_ioP1 (emb := (fun (e612 : Box) => (e612, (x_.1, ())))) (f := F__law_draw) f__law_draw o0 (pe_int (i := 9) (e := rfl)) (e := rfl)) (fun t605 => (px_pure (emb := (fun (e612 : Box) => (e612, (x_.1, ())))) (t0 := t605) (pe_int (i := 0) (e := rfl)) rfl (e := rfl))) (e := rfl)) (e := rfl))) (e := rfl))) (e := rfl)) (fun t614 => (ps_retX (emb := (fun (e620 : Box) => (e620, (x_.1, ())))) (g := fun t617 v618 => (v618, t617)) (fun t617 => (accR_io io0)) (px_ioP1 (emb := (fun (e616 : Box) => (e616, (x_.1, ())))) (f := F__law_other) f__law_other o0 (pe_var (vO v0) (e := rfl)) (e := rfl)) (e := rfl))) (fun t614 => (ps_seqC (ps_setX (emb := (fun (e630 : Box) => (e630, (x_.1, ())))) (sO (sV s0)) (px_bin (emb := (fun (e629 : Box) => (e629, (x_.1, ())))) u_mod (px_ioP1 (emb := (fun (e629 : Box) => (e629, (x_.1, ())))) (f := F__law_draw) f__law_draw o0 (pe_int (i := 900) (e := rfl)) (e := rfl)) (fun t623 => (px_pure (emb := (fun (e629 : Box) => (e629, (x_.1, ())))) (t0 := t623) (pe_len (g := lenA) f_lenA (pe_var (vO v0) (e := rfl)) (e := rfl)) rfl (e := rfl))) (e := rfl))) (fun at_621 => (at_621.2, (x_.1, (at_621.1, ())))) (fun _ => rfl) (fun at_621 => (PB.un (ps_retX (emb := (fun (e662 : Box) => (e662, (x_.1, (at_621.1, ()))))) (g := fun t659 v660 => (v660, t659)) (fun t659 => (accR_io io0)) (px_binV (emb := (fun (e658 : Box) => (e658, (x_.1, (at_621.1, ()))))) v_catA (px_binV (emb := (fun (e658 : Box) => (e658, (x_.1, (at_621.1, ()))))) v_catA (px_pure (emb := (fun (e658 : Box) => (e658, (x_.1, (at_621.1, ()))))) (t0 := at_621.2) (pe_sl sl_A (pe_var (vO v0) (e := rfl)) (po_none (e := rfl)) (po_some (pe_var (vO (vV v0)) (e := rfl)) (e := rfl)) (e := rfl)) rfl (e := rfl)) (fun t636 => (px_up (emb := (fun (e658 : Box) => (e658, (x_.1, (at_621.1, ()))))) (px_tupL (emb := (fun (e658 : Box) => (e658, (x_.1, (at_621.1, ()))))) (R := RAny) (pxl_cons (emb := (fun (e658 : Box) => (e658, (x_.1, (at_621.1, ()))))) (px_ioP1 (emb := (fun (e658 : Box) => (e658, (x_.1, (at_621.1, ()))))) (f := F__law_changed j) ih o0 (pe_binV v_ixA (pe_var (vO v0) (e := rfl)) (pe_var (vO (vV v0)) (e := rfl)) (e := rfl)) (e := rfl)) (fun t640 => (pxl_nil (emb := (fun (e658 : Box) => (e658, (x_.1, (at_621.1, ()))))) (R := RAny) (t0 := t640) rfl (e := rfl))) (e := rfl)) (e := rfl)) (e := rfl))) (e := rfl)) (fun t647 => (px_pure (emb := (fun (e658 : Box) => (e658, (x_.1, (at_621.1, ()))))) (t0 := t647) (pe_sl sl_A (pe_var (vO v0) (e := rfl)) (po_some (pe_bin u_add (pe_var (vO (vV v0)) (e := rfl)) (pe_int (i := 1) (e := rfl)) (e := rfl)) (e := rfl)) (po_none (e := rfl)) (e := rfl)) rfl (e := rfl))) (e := rfl)) (e := rfl)))) (e := rfl))) (e := by first | (unfold F__law_changed; dsimp only [id]; done) | (unfold F__law_changed; dsimp only [id]; rfl) | rfl)))
noncomputable def F_law (b_ : Box) : Option Bool :=
    (((some (2 : Int)).bind fun x664 => rngO 0 x664).bind fun x768 => forL x768 b_ (fun (t665 : Box) (i666 : Int) => (((some (6 : Int)).bind fun x668 => F__law_draw t665 x668).bind fun q674 => ((some false).bind fun x670 => some (x670, q674.2)).bind fun q675 => ((some (2 : Int)).bind fun x672 => F__law_draw q675.2 x672).bind fun q676 => F__law_jobs q676.2 q674.1 q675.1 q676.1).bind fun jobs_667 =>
    (((some jobs_667.1).bind fun x680 => F__law_names x680).bind fun x681 => F__law_orders x681).bind fun orders_679 =>
    ((some orders_679).bind fun x686 => (szO x686.length).bind fun _ => mapO x686 (fun (y683 : (List Str)) => (some jobs_667.1).bind fun x684 => (some y683).bind fun x685 => F__law_sum_of x684 x685)).bind fun sums_682 =>
    (((some jobs_667.1).bind fun x688 => F_least_sum x688).bind fun x690 => ((some sums_682).bind fun x689 => minO RInt x689).bind fun x691 => some (x690, x691, ())).bind fun p687 =>
    (((some p687.1).bind fun x692 => (some orders_679).bind fun x693 => some (!memB x692 x693)).bind fun x698 => if x698 then some true else ((some jobs_667.1).bind fun x694 => (some p687.1).bind fun x695 => F__law_sum_of x694 x695).bind fun x696 => (some p687.2.1).bind fun x697 => some (!decide (x696 = x697))).bind fun x766 => if x766 then
    (some false).bind fun x699 => some (.rt x699)
    else
    (((some (8 : Int)).bind fun x700 => rngO 0 x700).bind fun x765 => forL x765 jobs_667.2 (fun (t701 : Box) (i702 : Int) => ((((some i702).bind fun x704 => (some (5 : Int)).bind fun x705 => some (decide (x704 < x705))).bind fun x706 => some (x706, t701)).bind fun q711 => if q711.1 then (some orders_679).bind fun x708 => F__law_pick q711.2 x708 else (some p687.1).bind fun x710 => some (x710, q711.2)).bind fun order_703 =>
    (((((((some jobs_667.1).bind fun x714 => (some order_703.1).bind fun x715 => F_sum_of x714 x715).bind fun x716 => some (ToA.up (R := RInt) x716)).bind fun x720 => (((some jobs_667.1).bind fun x717 => (some order_703.1).bind fun x718 => F__law_sum_of x717 x718).bind fun x719 => some (ToA.up (R := RInt) x719)).bind fun x721 => F__law_like 10 x720 x721).bind fun x722 => some x722).bind fun x723 => some (!x723)).bind fun x737 => if x737 then some true else (((((some jobs_667.1).bind fun x725 => ((some order_703.1).bind fun x724 => some (ToA.up (R := (RTup RStr)) x724)).bind fun x726 => F_is_least_sum x725 x726).bind fun x727 => some (ToA.up (R := RBl) x727)).bind fun x733 => ((((some jobs_667.1).bind fun x728 => (some order_703.1).bind fun x729 => F__law_sum_of x728 x729).bind fun x730 => (some p687.2.1).bind fun x731 => some (decide (x730 = x731))).bind fun x732 => some (ToA.up (R := RBl) x732)).bind fun x734 => F__law_like 10 x733 x734).bind fun x735 => some x735).bind fun x736 => some (!x736)).bind fun x763 => if x763 then
    (some false).bind fun x738 => some (.rt x738)
    else
    (((some p687.1).bind fun x740 => some (ToA.up (R := (RTup RStr)) x740)).bind fun x741 => F__law_changed 10 order_703.2 x741).bind fun thing_739 =>
    ((((((some jobs_667.1).bind fun x744 => (some thing_739.1).bind fun x745 => F_is_least_sum x744 x745).bind fun x746 => some (ToA.up (R := RBl) x746)).bind fun x757 => ((((some thing_739.1).bind fun x748 => ((some orders_679).bind fun x747 => some (x747.map (ToA.up (R := (RTup RStr))))).bind fun x749 => inA x748 x749).bind fun x755 => if x755 then ((some jobs_667.1).bind fun x751 => ((some thing_739.1).bind fun x750 => OfA.dn (R := (RTup RStr)) x750).bind fun x752 => F__law_sum_of x751 x752).bind fun x753 => (some p687.2.1).bind fun x754 => some (decide (x753 = x754)) else some false).bind fun x756 => some (ToA.up (R := RBl) x756)).bind fun x758 => F__law_like 10 x757 x758).bind fun x759 => some x759).bind fun x760 => some (!x760)).bind fun x762 => if x762 then
    (some false).bind fun x761 => some (.rt x761)
    else
    some (.nx thing_739.2))).bind (lpK (fun w764 => some (.nx w764)) (fun v => .rt v)))).bind (lpK (fun w767 =>
    (some true).bind fun x769 => some x769) id)
theorem law_typed : ∃ S, S_law = sSeq (sSet 1 (eLst (aCons (eCall D__law_digits (aCons (eVar 0) (aCons (eC (.int 0)) (aCons (eC (.int 63)) aNil)))) (aCons (eC (.int 0)) aNil)))) S ∧ ∀ (B_ : Bs) (b_ : Box), PB B_ (deadC (ownC none CBox (deadC (deadC (deadC (deadC (deadC (deadC (deadC (deadC (deadC nilC))))))))))) (b_, ()) S (F_law b_) (eFn B_ RBl) :=
  ⟨_, rfl, fun B_ b_ => (ps_seqL (emb := (fun (t665 : Box) => (t665, ()))) (g := id) (ps_for (el := true) (emb := (fun (t665 : Box) => (t665, ()))) (t0 := b_) (pi_rng1 (pe_int (i := 2) (e := rfl)) (e := rfl)) (Wk0.wk (kD (kO (kD (kD (kD (kD (kD (kD (kD (kD (kD kN)))))))))))) (t_var (sD (sO s0))) (fun t665 i666 => (ps_at (t665, (i666, ())) rfl (ps_seqC (ps_setX (emb := (fun (e678 : Box) => (e678, (i666, ())))) (sD (sO (sV s0))) (px_io3 (emb := (fun (e677 : Box) => (e677, (i666, ())))) (f := F__law_jobs) f__law_jobs (oD o0) (px_ioP1 (emb := (fun (e677 : Box) => (e677, (i666, ())))) (f := F__law_draw) f__law_draw (oD o0) (pe_int (i := 6) (e := rfl)) (e := rfl)) (fun t669 => (px_pure (emb := (fun (e677 : Box) => (e677, (i666, ())))) (t0 := t669) (pe_bl (i := false) (e := rfl)) rfl (e := rfl))) (fun t671 => (px_ioP1 (emb := (fun (e677 : Box) => (e677, (i666, ())))) (f := F__law_draw) f__law_draw (oD o0) (pe_int (i := 2) (e := rfl)) (e := rfl))) (e := rfl))) (fun jobs_667 => (jobs_667.2, (i666, (jobs_667.1, ())))) (fun _ => rfl) (fun jobs_667 => (ps_seqC (ps_set (el := true) (sD (sO (sV (sV s0)))) (PE.wk (w := .new) (w' := .str) (pe_call1 (f := F__law_orders) f__law_orders (pe_call1 (f := F__law_names) f__law_names (PE.flat (pe_var (vD (vO (vV v0))) (e := rfl))) (e := rfl)) (e := rfl)))) (fun orders_679 => (jobs_667.2, (i666, (jobs_667.1, (orders_679, ()))))) (fun _ => rfl) (fun orders_679 => (ps_seqC (ps_set (el := true) (sD (sO (sV (sV (sV s0))))) (PE.wk (w := .new) (w' := .str) (pe_map (pi_lst (pe_var (vD (vO (vV (vV v0)))) (e := rfl)) (e := rfl)) (w_cons (dD (dO (dV (dV (dV (dD (dD (dD (dD d0))))))))) w_nil) (t_var (sD (sO (sV (sV (sV (sD (sD (sD (sD s0)))))))))) (fun y683 => (pe_call2 (f := F__law_sum_of) f__law_sum_of (PE.flat (pe_var (vD (vO (vV v0))) (e := rfl))) (PE.flat (pe_var (vD (vO (vV (vV (vV (vD (vD (vD (vD v0))))))))) (e := rfl))) (e := rfl))) (ho := rfl)))) (fun sums_682 => (jobs_667.2, (i666, (jobs_667.1, (orders_679, (sums_682, ())))))) (fun _ => rfl) (fun sums_682 => (ps_seqC (ps_parF2 (sD (sO (sV (sV (sV (sV s0)))))) (sD (sO (sV (sV (sV (sV (sV s0))))))) (pe_call1 (f := F_least_sum) f_least_sum (PE.flat (pe_var (vD (vO (vV v0))) (e := rfl))) (e := rfl)) (pe_callU (u_min (R := RInt)) (pe_var (vD (vO (vV (vV (vV v0))))) (e := rfl)) (e := rfl))) (fun p687 => (jobs_667.2, (i666, (jobs_667.1, (orders_679, (sums_682, (p687.1, (p687.2.1, ())))))))) (fun _ => rfl) (fun p687 => (ps_ifR (pt_or (pt_tst (pe_bin u_nin (pe_var (vD (vO (vV (vV (vV (vV v0)))))) (e := rfl)) (pe_var (vD (vO (vV (vV v0)))) (e := rfl)) (e := rfl)) (e := rfl)) (pt_tst (pe_bin u_ne (pe_call2 (f := F__law_sum_of) f__law_sum_of (PE.flat (pe_var (vD (vO (vV v0))) (e := rfl))) (PE.flat (pe_var (vD (vO (vV (vV (vV (vV v0)))))) (e := rfl))) (e := rfl)) (pe_var (vD (vO (vV (vV (vV (vV (vV v0))))))) (e := rfl)) (e := rfl)) (e := rfl)) (e := rfl)) (ps_ret (w := .new) (accR_lp accR_fn) (pe_bl (i := false) (e := rfl)) (e := rfl)) (ps_finL (emb := (fun (t701 : Box) => (t701, (jobs_667.1, (orders_679, (p687.1, (p687.2.1, ()))))))) (g := (fun v => .rt v)) (ps_for (el := true) (emb := (fun (t701 : Box) => (t701, (jobs_667.1, (orders_679, (p687.1, (p687.2.1, ()))))))) (t0 := jobs_667.2) (pi_rng1 (pe_int (i := 8) (e := rfl)) (e := rfl)) (Wk0.wk (kD (kO (kX (kV (kV (kX (kV (kV (kD (kD (kD kN)))))))))))) (t_var (sD (sO (sD (sV (sV (sD (sV (sV s0))))))))) (fun t701 i702 => (ps_at (t701, (jobs_667.1, (orders_679, (p687.1, (p687.2.1, (i702, ())))))) rfl (ps_seqC (ps_setX (emb := (fun (e713 : Box) => (e713, (jobs_667.1, (orders_679, (p687.1, (p687.2.1, (i702, ())))))))) (sD (sO (sD (sV (sV (sD (sV (sV (sV s0))))))))) (px_if (emb := (fun (e712 : Box) => (e712, (jobs_667.1, (orders_679, (p687.1, (p687.2.1, (i702, ())))))))) (ptx_pure (emb := (fun (e712 : Box) => (e712, (jobs_667.1, (orders_679, (p687.1, (p687.2.1, (i702, ())))))))) (t0 := t701) (pt_tst (pe_bin u_ltI (pe_var (vD (vO (vD (vV (vV (vD (vV (vV v0)))))))) (e := rfl)) (pe_int (i := 5) (e := rfl)) (e := rfl)) (e := rfl)) rfl (e := rfl)) (fun t707 => (px_ioP1 (emb := (fun (e712 : Box) => (e712, (jobs_667.1, (orders_679, (p687.1, (p687.2.1, (i702, ())))))))) (f := F__law_pick) f__law_pick (oD o0) (pe_var (vD (vO (vD (vV v0)))) (e := rfl)) (e := rfl))) (fun t709 => (px_pure (emb := (fun (e712 : Box) => (e712, (jobs_667.1, (orders_679, (p687.1, (p687.2.1, (i702, ())))))))) (t0 := t709) (PE.flat (pe_var (vD (vO (vD (vV (vV (vD v0)))))) (e := rfl))) rfl (e := rfl))) (e := rfl))) (fun order_703 => (order_703.2, (jobs_667.1, (orders_679, (p687.1, (p687.2.1, (i702, (order_703.1, ())))))))) (fun _ => rfl) (fun order_703 => (ps_ifR (pt_or (pt_not (pt_tru tr_bl (pe_call2 (f := F__law_like 10) (f__law_like 10) (pe_up (pe_call2 (f := F_sum_of) f_sum_of (PE.flat (pe_var (vD (vO (vD v0))) (e := rfl))) (PE.flat (pe_var (vD (vO (vD (vV (vV (vD (vV (vV (vV v0))))))))) (e := rfl))) (e := rfl)) (e := rfl)) (pe_up (pe_call2 (f := F__law_sum_of) f__law_sum_of (PE.flat (pe_var (vD (vO (vD v0))) (e := rfl))) (PE.flat (pe_var (vD (vO (vD (vV (vV (vD (vV (vV (vV v0))))))))) (e := rfl))) (e := rfl)) (e := rfl)) (e := rfl)) (e := rfl)) (e := rfl)) (pt_not (pt_tru tr_bl (pe_call2 (f := F__law_like 10) (f__law_like 10) (pe_up (pe_call2 (f := F_is_least_sum) f_is_least_sum (pe_var (vD (vO (vD v0))) (e := rfl)) (pe_up (pe_var (vD (vO (vD (vV (vV (vD (vV (vV (vV v0))))))))) (e := rfl)) (e := rfl)) (e := rfl)) (e := rfl)) (PE.wk (w := .new) (w' := .str) (pe_up (pe_bin u_eq (pe_call2 (f := F__law_sum_of) f__law_sum_of (PE.flat (pe_var (vD (vO (vD v0))) (e := rfl))) (PE.flat (pe_var (vD (vO (vD (vV (vV (vD (vV (vV (vV v0))))))))) (e := rfl))) (e := rfl)) (pe_var (vD (vO (vD (vV (vV (vD (vV v0))))))) (e := rfl)) (e := rfl)) (e := rfl))) (e := rfl)) (e := rfl)) (e := rfl)) (e := rfl)) (ps_ret (w := .new) (accR_lp accR_fn) (pe_bl (i := false) (e := rfl)) (e := rfl)) (ps_seqC (ps_setX (emb := (fun (e743 : Box) => (e743, (jobs_667.1, (orders_679, (p687.1, (p687.2.1, (i702, (order_703.1, ()))))))))) (sD (sO (sD (sV (sV (sD (sV (sV (sV (sV s0)))))))))) (px_ioP1 (emb := (fun (e742 : Box) => (e742, (jobs_667.1, (orders_679, (p687.1, (p687.2.1, (i702, (order_703.1, ()))))))))) (f := F__law_changed 10) (f__law_changed 10) (oD o0) (pe_up (pe_var (vD (vO (vD (vV (vV (vD v0)))))) (e := rfl)) (e := rfl)) (e := rfl))) (fun thing_739 => (thing_739.2, (jobs_667.1, (orders_679, (p687.1, (p687.2.1, (i702, (order_703.1, (thing_739.1, ()))))))))) (fun _ => rfl) (fun thing_739 => (ps_if (pt_not (pt_tru tr_bl (pe_call2 (f := F__law_like 10) (f__law_like 10) (pe_up (pe_call2 (f := F_is_least_sum) f_is_least_sum (pe_var (vD (vO (vD v0))) (e := rfl)) (pe_var (vD (vO (vD (vV (vV (vD (vV (vV (vV (vV v0)))))))))) (e := rfl)) (e := rfl)) (e := rfl)) (PE.wk (w := .new) (w' := .str) (pe_up (pe_and (pe_bin u_inA (pe_var (vD (vO (vD (vV (vV (vD (vV (vV (vV (vV v0)))))))))) (e := rfl)) (pe_upL (pe_var (vD (vO (vD (vV v0)))) (e := rfl)) (e := rfl)) (e := rfl)) (pe_bin u_eq (pe_call2 (f := F__law_sum_of) f__law_sum_of (PE.flat (pe_var (vD (vO (vD v0))) (e := rfl))) (PE.flat (pe_dn (R := (RTup RStr)) (pe_var (vD (vO (vD (vV (vV (vD (vV (vV (vV (vV v0)))))))))) (e := rfl)) (e := rfl))) (e := rfl)) (pe_var (vD (vO (vD (vV (vV (vD (vV v0))))))) (e := rfl)) (e := rfl)) (e := rfl)) (e := rfl))) (e := rfl)) (e := rfl)) (e := rfl)) (PB.un (ps_ret (w := .new) (accR_lp accR_fn) (pe_bl (i := false) (e := rfl)) (e := rfl))) (ps_skip (accN_lp (emb := (fun (t701 : Box) => (t701, (jobs_667.1, (orders_679, (p687.1, (p687.2.1, ()))))))) (t := thing_739.2) (Wk0.wk (kD (kO (kD (kV (kV (kD (kV (kV (kX (kX (kX kN))))))))))))) (e := rfl)) (e := rfl))) (e := rfl)) (e := rfl))) (e := rfl)))) (ho := rfl)) (inj_lp inj_id) (fun w764 => (accN_lp (emb := (fun (t665 : Box) => (t665, ()))) (t := w764) (Wk0.wk (kD (kO (kD (kX (kX (kD (kX (kX (kD (kD (kD kN)))))))))))))) (e := rfl)) (e := rfl))) (e := rfl))) (e := rfl))) (e := rfl))) (e := rfl)))) (ho := rfl)) inj_id (fun w767 => (PB.un (ps_ret (w := .new) accR_fn (pe_bl (i := true) (e := rfl)) (e := rfl)))) (e := by first | (unfold F_law; dsimp only [id]; done) | (unfold F_law; dsimp only [id]; rfl) | rfl))⟩
theorem law_true_of (hF : ∀ dg, F_law ⟨dg, 0⟩ = some true) (ns : List Int) : ∃ m, TM.runT 11 1 S_law [.ref 0] [.rol (ns.map DV.int)] = .ok (.bl true) m := by
  obtain ⟨S, h1, h2⟩ := law_typed
  exact law_start (by decide) (fun _ _ => ⟨_, _, rfl, ⟨_, _, rfl, ⟨_, _, rfl, ⟨_, _, rfl, ⟨_, _, rfl, ⟨_, _, rfl, ⟨_, _, rfl, ⟨_, _, rfl, ⟨_, _, rfl, ⟨rfl, rfl⟩⟩⟩⟩⟩⟩⟩⟩⟩⟩) h1 digits_start h2 hF ns
end My
end
section
set_option Elab.async false
set_option linter.all false
set_option maxHeartbeats 1000000
set_option autoImplicit false
/-! S08: Smith's rule: weights times ends, told by pairs. -/
namespace My
section
variable {α : Type}
def sumBy (f : α → Int) : List α → Int
  | [] => 0
  | a :: l => f a + sumBy f l
/-- over all pairs, the earlier one first -/
def pairSum (f : α → α → Int) : List α → Int
  | [] => 0
  | a :: l => sumBy (f a) l + pairSum f l
theorem sumBy_perm (f : α → Int) {l l' : List α} (h : l.Perm l') : sumBy f l = sumBy f l' := by
  induction h with
  | nil => rfl
  | cons a _ ih => simp only [sumBy, ih]
  | swap a b l => simp only [sumBy]; omega
  | trans _ _ i1 i2 => rw [i1, i2]
theorem pairSum_perm (f : α → α → Int) (hf : ∀ a b, f a b = f b a) {l l' : List α} (h : l.Perm l') : pairSum f l = pairSum f l' := by
  induction h with
  | nil => rfl
  | cons a p ih => simp only [pairSum, ih, sumBy_perm (f a) p]
  | swap a b l => simp only [pairSum, sumBy]; rw [hf a b]; omega
  | trans _ _ i1 i2 => rw [i1, i2]
theorem sumBy_le {f g : α → Int} : ∀ {l : List α}, (∀ a ∈ l, f a ≤ g a) → sumBy f l ≤ sumBy g l
  | [], _ => Int.le_refl _
  | a :: l, h => by
    have h1 := h a List.mem_cons_self
    have h2 := sumBy_le (l := l) fun x hx => h x (List.mem_cons_of_mem _ hx)
    simp only [sumBy]; omega
theorem sumBy_eq {f g : α → Int} : ∀ {l : List α}, (∀ a ∈ l, f a ≤ g a) → sumBy f l = sumBy g l → ∀ a ∈ l, f a = g a
  | [], _, _, a, ha => by cases ha
  | b :: l, h, e, a, ha => by
    have h1 := h b List.mem_cons_self
    have h2 := sumBy_le (l := l) fun x hx => h x (List.mem_cons_of_mem _ hx)
    simp only [sumBy] at e
    rcases List.mem_cons.mp ha with q | q
    · rw [q]; omega
    · exact sumBy_eq (fun x hx => h x (List.mem_cons_of_mem _ hx)) (by omega) a q
theorem pairSum_le {f g : α → α → Int} (h : ∀ a b, f a b ≤ g a b) : ∀ l : List α, pairSum f l ≤ pairSum g l
  | [] => Int.le_refl _
  | a :: l => by
    have h1 := pairSum_le h l
    have h2 := sumBy_le (f := f a) (g := g a) (l := l) fun b _ => h a b
    simp only [pairSum]; omega
theorem pairSum_eq {f g : α → α → Int} (h : ∀ a b, f a b ≤ g a b) : ∀ l : List α, pairSum f l = pairSum g l ↔ l.Pairwise fun a b => f a b = g a b
  | [] => by simp [pairSum]
  | a :: l => by
    have h1 := pairSum_le h l
    have h2 := sumBy_le (f := f a) (g := g a) (l := l) fun b _ => h a b
    simp only [pairSum, List.pairwise_cons]
    constructor
    · intro e
      exact ⟨sumBy_eq (fun b _ => h a b) (by omega), (pairSum_eq h l).mp (by omega)⟩
    · intro ⟨h3, h4⟩
      have e1 := (pairSum_eq h l).mpr h4
      have e2 : sumBy (f a) l = sumBy (g a) l := by
        clear h1 h2 e1 h4
        induction l with
        | nil => rfl
        | cons b l ih => simp only [sumBy]; rw [h3 b List.mem_cons_self, ih fun x hx => h3 x (List.mem_cons_of_mem _ hx)]
      omega
/-- time, weight -/
abbrev TW := Int × Int
/-- weights times ends, from a time on -/
def costF : Int → List TW → Int
  | _, [] => 0
  | now, j :: l => (now + j.1) * j.2 + costF (now + j.1) l
def wt (a b : TW) : Int := a.1 * b.2
theorem costF_add (now : Int) : ∀ l : List TW, costF now l = now * sumBy (fun j => j.2) l + costF 0 l
  | [] => by simp [costF, sumBy]
  | j :: l => by
    simp only [costF, sumBy]
    rw [costF_add (now + j.1) l, costF_add (0 + j.1) l]
    simp only [Int.zero_add, Int.add_mul, Int.mul_add]
    omega
theorem sum_wt (a : TW) : ∀ l : List TW, sumBy (wt a) l = a.1 * sumBy (fun j => j.2) l
  | [] => by simp [sumBy]
  | b :: l => by simp only [sumBy, sum_wt a l, wt, Int.mul_add]
theorem cost_pairs : ∀ l : List TW, costF 0 l = sumBy (fun j => j.1 * j.2) l + pairSum wt l
  | [] => rfl
  | j :: l => by
    simp only [costF, sumBy, pairSum]
    rw [costF_add, cost_pairs l, sum_wt, Int.zero_add]
    omega
def mn (a b : TW) : Int := min (wt a b) (wt b a)
def base (l : List TW) : Int := sumBy (fun j => j.1 * j.2) l + pairSum mn l
theorem base_perm {l l' : List TW} (h : l.Perm l') : base l = base l' := by
  unfold base
  rw [sumBy_perm _ h, pairSum_perm mn (fun a b => by unfold mn; omega) h]
theorem base_le (l : List TW) : base l ≤ costF 0 l := by
  rw [cost_pairs]
  have := pairSum_le (f := mn) (g := wt) (fun a b => by unfold mn; omega) l
  unfold base; omega
theorem cost_eq (l : List TW) : costF 0 l = base l ↔ l.Pairwise fun a b => wt a b ≤ wt b a := by
  rw [cost_pairs]
  unfold base
  have h := pairSum_eq (f := mn) (g := wt) (fun a b => by unfold mn; omega) l
  constructor
  · intro e
    exact (h.mp (by omega)).imp fun {a b} q => by unfold mn at q; omega
  · intro p
    have := h.mpr (p.imp fun {a b} q => by unfold mn; omega)
    omega
/-- neighbours suffice, where times are above zero -/
theorem ratio_trans {a b c : TW} (ha : 0 < a.1) (hb : 0 < b.1) (hc : 0 < c.1) (h1 : wt a b ≤ wt b a) (h2 : wt b c ≤ wt c b) : wt a c ≤ wt c a := by
  unfold wt at *
  -- a.1 b.2 ≤ b.1 a.2, b.1 c.2 ≤ c.1 b.2
  have e1 : a.1 * b.2 * c.1 ≤ b.1 * a.2 * c.1 := Int.mul_le_mul_of_nonneg_right h1 (Int.le_of_lt hc)
  have e2 : b.1 * c.2 * a.1 ≤ c.1 * b.2 * a.1 := Int.mul_le_mul_of_nonneg_right h2 (Int.le_of_lt ha)
  have e3 : c.1 * b.2 * a.1 = a.1 * b.2 * c.1 := by rw [Int.mul_comm (c.1 * b.2) a.1, ← Int.mul_assoc, Int.mul_right_comm, Int.mul_right_comm a.1 b.2 c.1]
  have e4 : b.1 * (a.1 * c.2) ≤ b.1 * (c.1 * a.2) := by
    have l1 : b.1 * (a.1 * c.2) = b.1 * c.2 * a.1 := by rw [Int.mul_comm a.1 c.2, ← Int.mul_assoc]
    have l2 : b.1 * (c.1 * a.2) = b.1 * a.2 * c.1 := by rw [Int.mul_comm c.1 a.2, ← Int.mul_assoc]
    rw [l1, l2]
    omega
  exact Int.le_of_mul_le_mul_left e4 hb
end
end My

end
section
set_option Elab.async false
set_option linter.all false
set_option maxRecDepth 100000
set_option maxHeartbeats 1000000
set_option autoImplicit false
/-! PT1: plain laws over the typed mirrors. -/
namespace My
open PySem DL TM
open L2 (Key)
section
variable {α β γ τ ρ κ : Type} {P Q : α → Prop}
/-- ends, and with what is wanted -/
def Ok {α : Type} (o : Option α) (P : α → Prop) : Prop := ∃ v, o = some v ∧ P v
theorem ok_some {v : α} : Ok (some v) P ↔ P v := ⟨fun ⟨_, e, h⟩ => by cases e; exact h, fun h => ⟨v, rfl, h⟩⟩
theorem Ok.of {v : α} (h : P v) : Ok (some v) P := ⟨v, rfl, h⟩
theorem Ok.bind {o : Option α} {f : α → Option β} {R : β → Prop} (h : Ok o P) (k : ∀ v, P v → Ok (f v) R) : Ok (o.bind f) R := by
  obtain ⟨v, e, h⟩ := h
  rw [e]
  exact k v h
theorem Ok.mono {o : Option α} (h : Ok o P) (k : ∀ v, P v → Q v) : Ok o Q := let ⟨v, e, h⟩ := h; ⟨v, e, k v h⟩
theorem Ok.eq {o : Option α} {v : α} (h : Ok o (· = v)) : o = some v := let ⟨_, e, h⟩ := h; h ▸ e
theorem ok_eq {o : Option α} {v : α} (h : o = some v) : Ok o (· = v) := ⟨v, h, rfl⟩
theorem Ok.ite {c : Bool} {a b : Option α} (h1 : c = true → Ok a P) (h2 : c = false → Ok b P) : Ok (if c then a else b) P := by
  cases c
  · exact h2 rfl
  · exact h1 rfl
theorem bsm {α β : Type} (a : α) (f : α → Option β) : (some a).bind f = f a := id rfl
theorem sz_ok {n : Nat} (h : n ≤ 16777216) : szO n = some () := by unfold szO; rw [if_pos h]
theorem sz_bind {n : Nat} {f : Unit → Option α} (h : n ≤ 16777216) : (szO n).bind f = f () := by rw [sz_ok h]; rfl
theorem mul_ok {x y : Int} (h : (-1000000000000 < x ∧ x < 1000000000000) ∨ (-1000000000000 < y ∧ y < 1000000000000)) : mulO x y = some (x * y) := by unfold mulO; rw [if_pos h]
theorem mod_ok {x y : Int} (h : 0 < y) : modO x y = some (x % y) := by unfold modO; rw [if_pos h]
theorem fdiv_ok {x y : Int} (h : 0 < y) (h2 : y < 1073741824) : fdivO x y = some (x / y) := by unfold fdivO; rw [if_pos ⟨h, h2⟩]
theorem rng_ok {a b : Int} (h1 : -1000000000 ≤ a) (h2 : a ≤ 1000000000) (h3 : -1000000000 ≤ b) (h4 : b ≤ 1000000000) : rngO a b = some ((List.range (b - a).toNat).map fun (i : Nat) => a + (i : Int)) := by unfold rngO; rw [if_pos ⟨⟨h1, h2⟩, h3, h4⟩]
theorem rng_nat {n : Nat} (h : n ≤ 1000000000) : rngO 0 (n : Int) = some ((List.range n).map fun (i : Nat) => (i : Int)) := by
  rw [rng_ok (by omega) (by omega) (by omega) (by omega)]
  simp
theorem at_nat {xs : List α} {k : Nat} : atO xs (k : Int) = xs[k]? := by unfold atO; exact DL.atI_nat xs k
theorem at_ok {xs : List α} {i : Int} (h0 : 0 ≤ i) (h : i < xs.length) : Ok (atO xs i) (fun x => x ∈ xs ∧ xs[i.toNat]? = some x) := by
  obtain ⟨k, rfl⟩ := Int.eq_ofNat_of_zero_le h0
  have hk : k < xs.length := by omega
  refine ⟨xs[k], ?_, List.getElem_mem hk, ?_⟩
  · rw [at_nat, List.getElem?_eq_getElem hk]
  · simp [List.getElem?_eq_getElem hk]
theorem map_ok {xs : List α} {f : α → Option β} {g : α → β} (h : ∀ x ∈ xs, f x = some (g x)) : mapO xs f = some (xs.map g) := by
  induction xs with
  | nil => rfl
  | cons x xs ih =>
    simp only [mapO, h x List.mem_cons_self, Option.bind_some, ih fun y hy => h y (List.mem_cons_of_mem _ hy), List.map_cons]
theorem map_each {xs : List α} {f : α → Option β} {R : α → β → Prop} (h : ∀ x ∈ xs, Ok (f x) (R x)) : Ok (mapO xs f) (Fa R xs) := by
  induction xs with
  | nil => exact .of .nil
  | cons x xs ih =>
    simp only [mapO]
    exact (h x List.mem_cons_self).bind fun y hy => (ih fun z hz => h z (List.mem_cons_of_mem _ hz)).bind fun ys hys => .of (.cons hy hys)
theorem fil_ok {xs : List α} {t : α → Option Bool} {f : α → Option β} {c : α → Bool} {g : α → β} (h : ∀ x ∈ xs, t x = some (c x)) (hf : ∀ x ∈ xs, c x = true → f x = some (g x)) : filO xs t f = some ((xs.filter c).map g) := by
  induction xs with
  | nil => rfl
  | cons x xs ih =>
    have i := ih (fun y hy => h y (List.mem_cons_of_mem _ hy)) fun y hy => hf y (List.mem_cons_of_mem _ hy)
    simp only [filO, h x List.mem_cons_self, Option.bind_some]
    cases e : c x with
    | true => simp only [if_true, hf x List.mem_cons_self e, Option.bind_some, i, List.filter_cons, e, List.map_cons]
    | false => simp [i, List.filter_cons, e]
theorem mapX_each {xs : List α} {f : τ → α → Option (β × τ)} {R : α → β → Prop} (h : ∀ x ∈ xs, ∀ t, Ok (f t x) (fun p => R x p.1)) : ∀ t, Ok (mapX xs t f) (fun p => Fa R xs p.1) := by
  induction xs with
  | nil => exact fun t => .of .nil
  | cons x xs ih =>
    intro t
    simp only [mapX]
    exact (h x List.mem_cons_self t).bind fun y hy => (ih (fun z hz => h z (List.mem_cons_of_mem _ hz)) y.2).bind fun ys hys => .of (.cons hy hys)
theorem for_ok {xs : List α} {b : τ → α → Option τ} {g : τ → α → τ} (h : ∀ x ∈ xs, ∀ t, b t x = some (g t x)) : ∀ t, forO xs t b = some (xs.foldl g t) := by
  induction xs with
  | nil => exact fun t => rfl
  | cons x xs ih =>
    intro t
    simp only [forO, h x List.mem_cons_self, Option.bind_some, List.foldl_cons, ih fun y hy => h y (List.mem_cons_of_mem _ hy)]
theorem for_pre {b : τ → α → Option τ} (J : List α → τ → Prop) : ∀ (xs pre : List α) (t : τ), (∀ (p : List α) (x : α) (s : List α) (t : τ), pre ++ xs = p ++ x :: s → J p t → Ok (b t x) (J (p ++ [x]))) → J pre t → Ok (forO xs t b) (J (pre ++ xs))
  | [], pre, t, _, h0 => by rw [List.append_nil]; exact .of h0
  | x :: xs, pre, t, h, h0 => by
    simp only [forO]
    refine (h pre x xs t rfl h0).bind fun t' h1 => ?_
    have e : pre ++ x :: xs = (pre ++ [x]) ++ xs := by simp
    rw [e]
    exact for_pre J xs (pre ++ [x]) t' (fun p y s t e' => h p y s t (by rw [e]; exact e')) h1
theorem for_rule {b : τ → α → Option τ} (J : List α → τ → Prop) {xs : List α} {t : τ} (h : ∀ (p : List α) (x : α) (s : List α) (t : τ), xs = p ++ x :: s → J p t → Ok (b t x) (J (p ++ [x]))) (h0 : J [] t) : Ok (forO xs t b) (J xs) := for_pre J xs [] t (fun p x s t e => h p x s t e) h0
/-- a loop that keeps what is wanted -/
theorem for_keep {b : τ → α → Option τ} (J : τ → Prop) {xs : List α} (h : ∀ x ∈ xs, ∀ t, J t → Ok (b t x) J) : ∀ {t : τ}, J t → Ok (forO xs t b) J := by
  induction xs with
  | nil => exact fun h0 => .of h0
  | cons x xs ih =>
    intro t h0
    simp only [forO]
    exact (h x List.mem_cons_self t h0).bind fun t' h1 => ih (fun y hy => h y (List.mem_cons_of_mem _ hy)) h1
/-- a loop that is never left -/
theorem forL_keep {b : τ → α → Option (Lp τ ρ)} (J : τ → Prop) {xs : List α} (h : ∀ x ∈ xs, ∀ t, J t → Ok (b t x) (fun l => ∃ t', l = .nx t' ∧ J t')) : ∀ {t : τ}, J t → Ok (forL xs t b) (fun l => ∃ t', l = .nx t' ∧ J t') := by
  induction xs with
  | nil => exact fun h0 => .of ⟨_, rfl, h0⟩
  | cons x xs ih =>
    intro t h0
    simp only [forL]
    refine (h x List.mem_cons_self t h0).bind fun l ⟨t', e, h1⟩ => ?_
    subst e
    exact ih (fun y hy => h y (List.mem_cons_of_mem _ hy)) h1
theorem forL_pre {b : τ → α → Option (Lp τ ρ)} (J : List α → τ → Prop) (E : Lp τ ρ → Prop) : ∀ (xs pre : List α) (t : τ), (∀ (p : List α) (x : α) (s : List α) (t : τ), pre ++ xs = p ++ x :: s → J p t → Ok (b t x) (fun l => match l with | .nx t' => J (p ++ [x]) t' | .bk t' => E (.nx t') | .rt v => E (.rt v))) → (∀ t, J (pre ++ xs) t → E (.nx t)) → J pre t → Ok (forL xs t b) E
  | [], pre, t, _, he, h0 => by exact .of (he t (by rw [List.append_nil]; exact h0))
  | x :: xs, pre, t, h, he, h0 => by
    simp only [forL]
    refine (h pre x xs t rfl h0).bind fun l h1 => ?_
    have e : pre ++ x :: xs = (pre ++ [x]) ++ xs := by simp
    cases l with
    | nx t' => exact forL_pre J E xs (pre ++ [x]) t' (fun p y s t e' => h p y s t (by rw [e]; exact e')) (fun t ht => he t (by rw [e]; exact ht)) h1
    | bk t' => exact .of h1
    | rt v => exact .of h1
theorem forL_rule {b : τ → α → Option (Lp τ ρ)} (J : List α → τ → Prop) (E : Lp τ ρ → Prop) {xs : List α} {t : τ} (h : ∀ (p : List α) (x : α) (s : List α) (t : τ), xs = p ++ x :: s → J p t → Ok (b t x) (fun l => match l with | .nx t' => J (p ++ [x]) t' | .bk t' => E (.nx t') | .rt v => E (.rt v))) (he : ∀ t, J xs t → E (.nx t)) (h0 : J [] t) : Ok (forL xs t b) E := forL_pre J E xs [] t h he h0
theorem while_rule {c : τ → Option Bool} {b : τ → Option τ} (J : τ → Prop) (μ : τ → Nat) {E : τ → Prop} (hs : ∀ t, J t → (c t = some false ∧ E t) ∨ (c t = some true ∧ Ok (b t) fun t' => J t' ∧ μ t' < μ t)) {t : τ} (h : J t) : Ok (whileO t c b) E := by
  obtain ⟨t', e, h1, h2⟩ := whileO_of (c := c) (b := b) J μ (fun t ht => by
    rcases hs t ht with ⟨a, _⟩ | ⟨a, t', h1, h2, h3⟩
    · exact .inl a
    · exact .inr ⟨a, t', h1, h2, h3⟩) h
  refine ⟨t', e, ?_⟩
  rcases hs t' h1 with ⟨_, a⟩ | ⟨a, _⟩
  · exact a
  · rw [a] at h2; cases h2
theorem draw_ok (b : TM.Box) {n : Int} (h : 0 < n) : Ok (drawO b n) (fun p => 0 ≤ p.1 ∧ p.1 < n) := by
  unfold drawO
  rw [if_pos h]
  refine .of ?_
  show 0 ≤ drawV b n ∧ drawV b n < n
  unfold drawV
  split
  · exact ⟨Int.emod_nonneg _ (by omega), Int.emod_lt_of_pos _ h⟩
  · exact ⟨Int.emod_nonneg _ (by omega), Int.emod_lt_of_pos _ h⟩
theorem cut_take (xs : List α) (k : Nat) : cutO xs none (some (k : Int)) = xs.take k := by
  unfold cutO
  rw [HT.sIx_nat, HT.sIx_none]
  simp [List.take_eq_take_iff]
theorem cut_drop (xs : List α) (k : Nat) : cutO xs (some (k : Int)) none = xs.drop k := by
  unfold cutO
  rw [HT.sIx_nat, HT.sIx_none]
  by_cases h : k ≤ xs.length
  · rw [Nat.min_eq_left h, List.take_of_length_le (by simp)]
  · rw [Nat.min_eq_right (by omega), Nat.sub_self, List.take_zero, List.drop_eq_nil_of_le (by omega)]
theorem pop_ok {xs : List α} {i : Int} (h0 : 0 ≤ i) (h : i < xs.length) (hl : xs.length ≤ 1000000000) : Ok (popO xs i) (fun r => ∃ a b, xs = a ++ r.1 :: b ∧ r.2 = a ++ b) := by
  obtain ⟨k, rfl⟩ := Int.eq_ofNat_of_zero_le h0
  have hk : k < xs.length := by omega
  unfold popO
  rw [if_pos (by omega)]
  have e : PySem.seqIndex? (k : Int) xs.length = some k := by
    unfold PySem.seqIndex?
    have h1 : ¬ ((k : Int) < 0) := by omega
    simp only [if_neg h1]
    rw [if_pos (by simp; omega)]
    simp
  rw [e, Option.bind_some, List.getElem?_eq_getElem hk, Option.bind_some]
  refine .of ⟨xs.take k, xs.drop (k + 1), ?_, ?_⟩
  · rw [List.getElem_cons_drop hk]
    exact (List.take_append_drop k xs).symm
  · exact List.eraseIdx_eq_take_drop_succ xs k
theorem str_ok {i : Int} (h1 : -1000000000 ≤ i) (h2 : i ≤ 1000000000) : strO i = some ((toString i : String) : Str) := by unfold strO; rw [if_pos ⟨h1, h2⟩]
theorem memB_iff {α : Type} [DecidableEq α] {x : α} {ys : List α} : memB x ys = true ↔ x ∈ ys := by unfold memB; exact decide_eq_true_iff
/-! ### dicts -/
theorem putG_new {kvs : List (Key × α)} {k : Key} {v : α} (h : ∀ p ∈ kvs, p.1 ≠ k) : putG kvs k v = kvs ++ [(k, v)] := by
  unfold putG
  rw [if_neg]
  rw [List.any_eq_true]
  intro ⟨p, hp, e⟩
  exact h p hp (by simpa using e)
theorem dfil_ok {V : Rp γ} [kr : KeyR V] {g : α → Option γ} {f : α → Option β} {G : α → γ} {F : α → β} : ∀ (xs : List α) (acc : List (Key × β)), (∀ x ∈ xs, g x = some (G x)) → (∀ x ∈ xs, f x = some (F x)) → (xs.map fun x => kr.key (G x)).Nodup → (∀ p ∈ acc, ∀ x ∈ xs, p.1 ≠ kr.key (G x)) →
    dfilO (k := kr) xs acc (fun _ => some true) g f = some (acc ++ xs.map fun x => (kr.key (G x), F x))
  | [], acc, _, _, _, _ => by simp [dfilO]
  | x :: xs, acc, hg, hf, nd, ha => by
    rw [List.map_cons, List.nodup_cons] at nd
    simp only [dfilO, Option.bind_some, if_true, hg x List.mem_cons_self, hf x List.mem_cons_self]
    rw [putG_new fun p hp => ha p hp x List.mem_cons_self, dfil_ok xs _ (fun y hy => hg y (List.mem_cons_of_mem _ hy)) (fun y hy => hf y (List.mem_cons_of_mem _ hy)) nd.2 ?_]
    · simp
    · intro p hp y hy
      rcases List.mem_append.mp hp with h | h
      · exact ha p h y (List.mem_cons_of_mem _ hy)
      · rw [List.mem_singleton.mp h]
        intro e
        exact nd.1 (List.mem_map.mpr ⟨y, hy, e.symm⟩)
theorem merge_new : ∀ (more kvs : List (Key × α)), (more.map (·.1)).Nodup → (∀ p ∈ kvs, ∀ q ∈ more, p.1 ≠ q.1) → mergeD kvs more = kvs ++ more
  | [], kvs, _, _ => by simp [mergeD]
  | q :: more, kvs, nd, h => by
    rw [List.map_cons, List.nodup_cons] at nd
    show mergeD (putG kvs q.1 q.2) more = _
    rw [putG_new fun p hp => h p hp q List.mem_cons_self, merge_new more _ nd.2 ?_]
    · simp
    · intro p hp y hy
      rcases List.mem_append.mp hp with h' | h'
      · exact h p h' y (List.mem_cons_of_mem _ hy)
      · rw [List.mem_singleton.mp h']
        intro e
        exact nd.1 (List.mem_map.mpr ⟨y, hy, e.symm⟩)
theorem look_map {xs : List α} {key : α → Str} {val : α → β} (n : Str) : lookK (xs.map fun x => ((.inr (key x) : Key), val x)) (.inr n) = (xs.find? fun x => decide (key x = n)).map val := by
  unfold lookK
  rw [List.find?_map, Option.map_map]
  congr 1
  congr 1
  funext x
  simp
/-! ### orders of data -/
theorem dlt_int (x y : Int) : dlt RInt x y = decide (x < y) := by
  show PySem.W.dataLt (.int x) (.int y) = _
  rw [PySem.W.dataLt_int]
theorem min_int {xs : List Int} (h : xs ≠ []) : Ok (minO RInt xs) (fun m => m ∈ xs ∧ ∀ x ∈ xs, m ≤ x) := by
  cases xs with
  | nil => exact absurd rfl h
  | cons x xs =>
    refine .of ?_
    have key : ∀ (ys : List Int) (a : Int), (ys.foldl (fun a y => if dlt RInt y a then y else a) a = a ∨ ys.foldl (fun a y => if dlt RInt y a then y else a) a ∈ ys) ∧ ys.foldl (fun a y => if dlt RInt y a then y else a) a ≤ a ∧ ∀ y ∈ ys, ys.foldl (fun a y => if dlt RInt y a then y else a) a ≤ y := by
      intro ys
      induction ys with
      | nil => intro a; exact ⟨.inl rfl, Int.le_refl _, fun y hy => by cases hy⟩
      | cons y ys ih =>
        intro a
        simp only [List.foldl_cons, dlt_int]
        simp only [dlt_int] at ih
        by_cases c : y < a
        · simp only [c, decide_true, if_true]
          obtain ⟨h1, h2, h3⟩ := ih y
          refine ⟨.inr ?_, by omega, fun z hz => ?_⟩
          · rcases h1 with e | e
            · rw [e]; exact List.mem_cons_self
            · exact List.mem_cons_of_mem _ e
          · rcases List.mem_cons.mp hz with e | e
            · rw [e]; exact h2
            · exact h3 z e
        · simp only [c, decide_false, Bool.false_eq_true, if_false]
          obtain ⟨h1, h2, h3⟩ := ih a
          refine ⟨?_, h2, fun z hz => ?_⟩
          · rcases h1 with e | e
            · exact .inl e
            · exact .inr (List.mem_cons_of_mem _ e)
          · rcases List.mem_cons.mp hz with e | e
            · rw [e]; omega
            · exact h3 z e
    obtain ⟨h1, h2, h3⟩ := key xs x
    refine ⟨?_, fun y hy => ?_⟩
    · rcases h1 with e | e
      · rw [e]; exact List.mem_cons_self
      · exact List.mem_cons_of_mem _ e
    · rcases List.mem_cons.mp hy with e | e
      · rw [e]; exact h2
      · exact h3 y e
/-! ### data -/
theorem eqA_ok {x y : PyData} (hx : x.depth ≤ 60) (hy : y.depth ≤ 60) : eqA x y = some (PyData.eqv x y) := by unfold eqA; rw [if_pos ⟨hx, hy⟩]
theorem inA_ok {x : PyData} {ys : List PyData} (hx : x.depth ≤ 60) (hy : PyData.depthAll ys ≤ 58) : inA x ys = some (ys.any fun y => PyData.eqv y x) := by unfold inA; rw [if_pos ⟨hx, hy⟩]
theorem depth_strs : ∀ xs : List Str, PyData.depthAll (xs.map .str) = 0
  | [] => rfl
  | x :: xs => by simp [PyData.depthAll, PyData.depth, depth_strs xs]
theorem eqv_strs : ∀ xs ys : List Str, PyData.eqvAll (xs.map .str) (ys.map .str) = decide (xs = ys)
  | [], [] => rfl
  | [], _ :: _ => rfl
  | _ :: _, [] => rfl
  | x :: xs, y :: ys => by
    rw [List.map_cons, List.map_cons, PyData.eqvAll, eqv_strs xs ys, PyData.eqv, Bool.eq_iff_iff]
    simp
theorem dn_strs : ∀ xs : List Str, mapDn dnStr (xs.map .str) = some xs
  | [] => rfl
  | x :: xs => by simp [mapDn, dnStr, dn_strs xs]
end
end My

end
section
set_option Elab.async false
set_option linter.all false
set_option maxRecDepth 100000
set_option maxHeartbeats 1000000
set_option autoImplicit false
/-! PT2: things: what a law has drawn and changed. -/
namespace My
open PySem DL TM
open L2 (Key)
theorem Fa.back {α β : Type} {R : α → β → Prop} : ∀ {xs : List α} {ys : List β}, TM.Fa R xs ys → ∀ y ∈ ys, ∃ x ∈ xs, R x y
  | _, _, .nil, y, h => by cases h
  | _, _, .cons p q, y, h => by
    rcases List.mem_cons.mp h with e | e
    · rw [e]; exact ⟨_, List.mem_cons_self, p⟩
    · obtain ⟨x, h1, h2⟩ := Fa.back q y e
      exact ⟨x, List.mem_cons_of_mem _ h1, h2⟩
abbrev Row := Str × Int × Int × Int × Int
abbrev Jobs := Str × List Row × List (Str × Str)
def names (j : Jobs) : List Str := j.2.1.map (·.1)
/-- what may be told: no booleans, no lists -/
def Td (N : Nat) : Nat → PyData → Prop
  | _, .none => True
  | _, .int _ => True
  | _, .str z => z.length ≤ N
  | n + 1, .tuple xs => xs.length ≤ N ∧ ∀ x ∈ xs, Td N n x
  | _, _ => False
/-- a thing of any sort, dicts apart -/
def Sm (N : Nat) : Nat → PyData → Prop
  | _, .none => True
  | _, .bool _ => True
  | _, .int _ => True
  | _, .str z => z.length ≤ N
  | n + 1, .tuple xs => xs.length ≤ N ∧ ∀ x ∈ xs, Sm N n x
  | n + 1, .list xs => xs.length ≤ N ∧ ∀ x ∈ xs, Sm N n x
  | _, _ => False
variable {N N' n n' : Nat}
theorem Td.sm (hN : N ≤ N') : ∀ {n n' : Nat} {x : PyData}, n ≤ n' → Td N n x → Sm N' n' x
  | n, n', .none, _, _ => by cases n' <;> trivial
  | n, n', .int _, _, _ => by cases n' <;> trivial
  | n, n', .str z, _, h => by
    have h' : z.length ≤ N := by cases n <;> exact h
    have : z.length ≤ N' := Nat.le_trans h' hN
    cases n' <;> exact this
  | n + 1, n' + 1, .tuple xs, hn, h => ⟨Nat.le_trans h.1 hN, fun x hx => Td.sm hN (Nat.le_of_succ_le_succ hn) (h.2 x hx)⟩
  | 0, _, .tuple xs, _, h => h.elim
  | n + 1, 0, .tuple xs, hn, h => by omega
  | n, _, .bool _, _, h => by cases n <;> exact h.elim
  | n, _, .list _, _, h => by cases n <;> exact h.elim
  | n, _, .dict _, _, h => by cases n <;> exact h.elim
theorem Sm.ty : ∀ {n : Nat} {x : PyData}, Sm N n x → ∃ t, tyA x = some t
  | _, .none, _ => ⟨_, rfl⟩
  | _, .bool _, _ => ⟨_, rfl⟩
  | _, .int _, _ => ⟨_, rfl⟩
  | _, .str _, _ => ⟨_, rfl⟩
  | _, .tuple _, _ => ⟨_, rfl⟩
  | _, .list _, _ => ⟨_, rfl⟩
  | n, .dict _, h => by cases n <;> exact h.elim
theorem depthAll_le {k : Nat} : ∀ {xs : List PyData}, (∀ x ∈ xs, x.depth ≤ k) → PyData.depthAll xs ≤ k
  | [], _ => Nat.zero_le _
  | x :: xs, h => by
    simp only [PyData.depthAll]
    exact Nat.max_le.mpr ⟨h x List.mem_cons_self, depthAll_le fun y hy => h y (List.mem_cons_of_mem _ hy)⟩
theorem Sm.depth : ∀ {n : Nat} {x : PyData}, Sm N n x → x.depth ≤ n
  | _, .none, _ => Nat.zero_le _
  | _, .bool _, _ => Nat.zero_le _
  | _, .int _, _ => Nat.zero_le _
  | _, .str _, _ => Nat.zero_le _
  | n + 1, .tuple xs, h => by
    simp only [PyData.depth]
    have := depthAll_le (k := n) fun x hx => Sm.depth (h.2 x hx)
    omega
  | n + 1, .list xs, h => by
    simp only [PyData.depth]
    have := depthAll_le (k := n) fun x hx => Sm.depth (h.2 x hx)
    omega
  | 0, .tuple _, h => h.elim
  | 0, .list _, h => h.elim
  | n, .dict _, h => by cases n <;> exact h.elim
theorem eqv_str {x : Str} {y : PyData} : PyData.eqv (.str x) y = true ↔ y = .str x := by
  cases y <;> simp only [PyData.eqv, reduceCtorEq, Bool.false_eq_true, beq_iff_eq, PyData.str.injEq]
  exact eq_comm
theorem eqv_none {y : PyData} : PyData.eqv .none y = true ↔ y = .none := by
  cases y <;> (constructor <;> intro h <;> first | rfl | (unfold PyData.eqv; rfl) | cases h | (unfold PyData.eqv at h; cases h))
theorem eqvAll_strs : ∀ {o : List Str} {ys : List PyData}, PyData.eqvAll (o.map .str) ys = true ↔ ys = o.map .str
  | [], [] => by simp [PyData.eqvAll]
  | [], _ :: _ => by simp [PyData.eqvAll]
  | _ :: _, [] => by simp [PyData.eqvAll]
  | x :: o, y :: ys => by simp [PyData.eqvAll, eqv_str, eqvAll_strs (o := o) (ys := ys)]
/-- a tuple of texts -/
def upS (o : List Str) : PyData := .tuple (o.map .str)
theorem up_eq (o : List Str) : ToA.up (R := RTup RStr) o = upS o := rfl
theorem eqv_upS {o : List Str} {y : PyData} : PyData.eqv (upS o) y = true ↔ y = upS o := by
  unfold upS
  cases y <;> simp [PyData.eqv, eqvAll_strs]
theorem upS_inj {a b : List Str} (h : upS a = upS b) : a = b := by
  unfold upS at h
  have := PyData.tuple.inj h
  exact (List.map_inj_right (f := PyData.str) fun x y e => PyData.str.inj e).mp this
theorem depth_upS (o : List Str) : (upS o).depth = 1 := by simp [upS, PyData.depth, depth_strs]
theorem sm_upS {o : List Str} (h : o.length ≤ N) (hs : ∀ s ∈ o, s.length ≤ N) : Sm N (n + 1) (upS o) := ⟨by simpa using h, fun x hx => by
  obtain ⟨s, h1, h2⟩ := List.mem_map.mp hx
  rw [← h2]
  cases n <;> exact hs s h1⟩
theorem td_upS {o : List Str} (h : o.length ≤ N) (hs : ∀ s ∈ o, s.length ≤ N) : Td N (n + 1) (upS o) := ⟨by simpa using h, fun x hx => by
  obtain ⟨s, h1, h2⟩ := List.mem_map.mp hx
  rw [← h2]
  cases n <;> exact hs s h1⟩
theorem in_orders {os : List (List Str)} {x : PyData} (hx : x.depth ≤ 60) : Ok (inA x (os.map (ToA.up (R := RTup RStr)))) (fun b => b = true ↔ ∃ o ∈ os, x = upS o) := by
  rw [inA_ok hx]
  · refine .of ?_
    rw [List.any_eq_true]
    constructor
    · intro ⟨y, hy, e⟩
      obtain ⟨o, ho, rfl⟩ := List.mem_map.mp hy
      exact ⟨o, ho, eqv_upS.mp e⟩
    · intro ⟨o, ho, e⟩
      exact ⟨_, List.mem_map.mpr ⟨o, ho, rfl⟩, eqv_upS.mpr e⟩
  · refine depthAll_le fun y hy => ?_
    obtain ⟨o, ho, rfl⟩ := List.mem_map.mp hy
    rw [up_eq, depth_upS]; omega
/-- all texts -/
theorem all_strs : ∀ {xs : List PyData}, (∀ x ∈ xs, tyA x = some "str") → ∃ ss : List Str, xs = ss.map .str
  | [], _ => ⟨[], rfl⟩
  | x :: xs, h => by
    obtain ⟨ss, e⟩ := all_strs fun y hy => h y (List.mem_cons_of_mem _ hy)
    have h1 := h x List.mem_cons_self
    cases x with
    | str z => exact ⟨z :: ss, by rw [e]; rfl⟩
    | dict _ => simp [tyA] at h1
    | _ => simp [tyA] at h1
theorem isTb_str {x : PyData} {t : String} (h : tyA x = some t) : isTb t "str" = true ↔ ∃ z, x = .str z := by
  cases x <;> simp [tyA] at h <;> subst h <;> simp [isTb]
theorem isTb_tuple {x : PyData} {t : String} (h : tyA x = some t) : isTb t "tuple" = true ↔ ∃ z, x = .tuple z := by
  cases x <;> simp [tyA] at h <;> subst h <;> simp [isTb]
/-! ### texts in order -/
theorem dlt_str (x y : Str) : dlt RStr x y = decide (x.cps.toList < y.cps.toList) := by
  show PySem.W.dataLt (.str x) (.str y) = _
  rw [PySem.W.dataLt_str]
theorem str_ext {x y : Str} (h : x.cps.toList = y.cps.toList) : x = y := by
  cases x; cases y
  congr
  exact Array.toList_inj.mp h
theorem strLe_total (a b : Str) : (!dlt RStr b a || !dlt RStr a b) = true := by
  rw [dlt_str, dlt_str]
  by_cases h : b.cps.toList < a.cps.toList
  · simp [h, List.lt_asymm h]
  · simp [h]
theorem strLe_trans (a b c : Str) (h1 : (!dlt RStr b a) = true) (h2 : (!dlt RStr c b) = true) : (!dlt RStr c a) = true := by
  rw [dlt_str] at *
  simp only [Bool.not_eq_true', decide_eq_false_iff_not, List.not_lt] at *
  exact List.le_trans h1 h2
theorem strLe_anti (a b : Str) (h1 : (!dlt RStr b a) = true) (h2 : (!dlt RStr a b) = true) : a = b := by
  rw [dlt_str] at *
  simp only [Bool.not_eq_true', decide_eq_false_iff_not, List.not_lt] at *
  exact str_ext (List.le_antisymm h1 h2)
theorem sortO_perm (xs : List Str) : (sortO RStr xs).Perm xs := by unfold sortO; exact List.mergeSort_perm _ _
theorem sortO_sorted (xs : List Str) : (sortO RStr xs).Pairwise fun a b => (!dlt RStr b a) = true := by
  unfold sortO
  have := List.pairwise_mergeSort (le := fun a b : Str => !dlt RStr b a) strLe_trans strLe_total xs
  exact this
/-- in order, none twice -/
def Asc (xs : List Str) : Prop := xs.Pairwise fun a b => dlt RStr a b = true
theorem Asc.le {xs : List Str} (h : Asc xs) : xs.Pairwise fun a b => (!dlt RStr b a) = true := h.imp fun {a b} q => by
  rw [dlt_str] at *
  simp only [decide_eq_true_eq] at q
  simp [List.lt_asymm q]
theorem Asc.nodup {xs : List Str} (h : Asc xs) : xs.Nodup := h.imp fun {a b} q e => by
  subst e
  rw [dlt_str] at q
  exact absurd (of_decide_eq_true q) (List.lt_irrefl _)
theorem sortO_eq {xs ns : List Str} (h : Asc ns) : sortO RStr xs = ns ↔ xs.Perm ns := by
  constructor
  · intro e; rw [← e]; exact (sortO_perm xs).symm
  · intro p
    exact List.Perm.eq_of_pairwise (le := fun a b => (!dlt RStr b a) = true) (fun a b _ _ h1 h2 => strLe_anti a b h1 h2) (sortO_sorted xs) h.le ((sortO_perm xs).trans p)
end My

end
section
set_option Elab.async false
set_option linter.all false
set_option maxRecDepth 100000
set_option maxHeartbeats 1000000
set_option autoImplicit false
/-! CH: things changed, likeness. -/
namespace My
open PySem DL TM
open L2 (Key)
theorem sm_lit {N n : Nat} {z : Str} (h : z.length ≤ 10) : Sm (N + 10) n (.str z) := by
  have : z.length ≤ N + 10 := by omega
  cases n <;> exact this
theorem sm_none {N n : Nat} : Sm N n .none := by cases n <;> trivial
theorem sm_int {N n : Nat} {i : Int} : Sm N n (.int i) := by cases n <;> trivial
theorem sm_bool {N n : Nat} {i : Bool} : Sm N n (.bool i) := by cases n <;> trivial
theorem sm_tup {N n : Nat} {xs : List PyData} (h : xs.length ≤ N) (hx : ∀ x ∈ xs, Sm N n x) : Sm N (n + 1) (.tuple xs) := ⟨h, hx⟩
theorem sm_lst {N n : Nat} {xs : List PyData} (h : xs.length ≤ N) (hx : ∀ x ∈ xs, Sm N n x) : Sm N (n + 1) (.list xs) := ⟨h, hx⟩
theorem up_list (xs : List PyData) : ToA.up (R := RLst RAny) xs = .list xs := by
  show PyData.list (xs.map id) = _
  rw [List.map_id]
theorem up_tup (xs : List PyData) : ToA.up (R := RTup RAny) xs = .tuple xs := by
  show PyData.tuple (xs.map id) = _
  rw [List.map_id]
theorem dn_tup (xs : List PyData) : OfA.dn (R := RTup RAny) (.tuple xs) = some xs := by
  show mapDn some xs = some xs
  induction xs with
  | nil => rfl
  | cons x xs ih => simp [mapDn, ih]
theorem cut_take' {α : Type} (xs : List α) {i : Int} (h : 0 ≤ i) : cutO xs none (some i) = xs.take i.toNat := by
  obtain ⟨k, rfl⟩ := Int.eq_ofNat_of_zero_le h
  exact cut_take xs k
theorem cut_drop' {α : Type} (xs : List α) {i : Int} (h : 0 ≤ i) : cutO xs (some i) none = xs.drop i.toNat := by
  obtain ⟨k, rfl⟩ := Int.eq_ofNat_of_zero_le h
  exact cut_drop xs k
theorem other_ok {N n : Nat} (hN : N ≤ 1000000) (b : TM.Box) {x : PyData} (h : Td N n x) : Ok (F__law_other b x) (fun p => Sm (N + 10) (n + 1) p.1) := by
  unfold F__law_other
  have up : ∀ {m k : Nat} {y : PyData}, m ≤ k → Td N m y → Sm (N + 10) k y := fun hm hy => hy.sm (by omega) hm
  cases x with
  | tuple xs =>
    cases n with
    | zero => exact h.elim
    | succ n =>
      obtain ⟨hl, hx⟩ := h
      have e1 : isTb "tuple" "tuple" = true := by decide
      simp only [Option.bind_some, tyA, e1, if_true, lenA]
      rw [rng_nat (by omega), Option.bind_some, sz_bind (by simp; omega)]
      have h1 : Ok (mapO ((List.range xs.length).map fun (i : Nat) => (i : Int)) fun (y : Int) => atA (.tuple xs) ((xs.length : Int) - 1 - y)) (TM.Fa (fun (_ : Int) z => z ∈ xs) ((List.range xs.length).map fun (i : Nat) => (i : Int))) := by
        refine map_each fun i hi => ?_
        obtain ⟨k, hk, rfl⟩ := List.mem_map.mp hi
        have := List.mem_range.mp hk
        exact (at_ok (xs := xs) (by omega) (by omega)).mono fun v hv => hv.1
      refine Ok.bind (Ok.bind h1 fun v hv => Ok.of (P := fun v : List PyData => v.length = xs.length ∧ ∀ z ∈ v, z ∈ xs) ⟨by rw [← hv.len]; simp, fun z hz => by obtain ⟨_, _, q⟩ := Fa.back hv z hz; exact q⟩) fun v ⟨hv1, hv2⟩ => ?_
      simp only [dn_tup, Option.bind_some, cutA, up_list, up_tup, catA, show (1 : Int) = ((1 : Nat) : Int) from rfl, cut_take, cut_drop]
      rw [sz_bind (by simp; omega)]
      simp only [Option.bind_some]
      refine Ok.bind (Ok.bind (draw_ok b (by omega)) fun d hd => Ok.bind (at_ok hd.1 (by simpa using hd.2)) fun y hy => Ok.of (P := fun p : PyData × TM.Box => Sm (N + 10) (n + 1 + 1) p.1) ?_) fun p hp => .of hp
      have hm := hy.1
      simp only [List.mem_cons, List.not_mem_nil, or_false] at hm
      have hu : ∀ z ∈ xs, Sm (N + 10) (n + 1) z := fun z hz => up (Nat.le_succ n) (hx z hz)
      rcases hm with rfl | rfl | rfl | rfl | rfl | rfl
      · exact sm_lst (by omega) hu
      · refine sm_tup (by simp; omega) fun z hz => ?_
        rcases List.mem_append.mp hz with q | q
        · exact hu z q
        · exact hu z (List.mem_of_mem_take q)
      · exact sm_tup (by simp; omega) fun z hz => hu z (List.mem_of_mem_drop hz)
      · exact sm_none
      · exact sm_tup (by simp) fun z hz => by cases hz
      · exact sm_tup (by omega) fun z hz => hu z (hv2 z hz)
  | str z =>
    have e1 : isTb "str" "tuple" = false := by decide
    have e2 : isTb "str" "str" = true := by decide
    simp only [Option.bind_some, tyA, e1, e2, if_true, Bool.false_eq_true, if_false]
    refine Ok.bind (Ok.bind (draw_ok b (by omega)) fun d hd => Ok.bind (at_ok hd.1 (by simpa using hd.2)) fun y hy => Ok.of (P := fun p : PyData × TM.Box => Sm (N + 10) (n + 1) p.1) ?_) fun p hp => .of hp
    have hm := hy.1
    simp only [List.mem_cons, List.not_mem_nil, or_false] at hm
    rcases hm with rfl | rfl | rfl | rfl | rfl | rfl | rfl | rfl | rfl | rfl | rfl | rfl <;> first | exact sm_none | exact sm_lit (by decide)
  | none =>
    have e1 : isTb "NoneType" "tuple" = false := by decide
    have e2 : isTb "NoneType" "str" = false := by decide
    simp only [Option.bind_some, tyA, e1, e2, if_true, Bool.false_eq_true, if_false, isNA, up_tup]
    refine Ok.bind (Ok.bind (draw_ok b (by omega)) fun d hd => Ok.bind (at_ok hd.1 (by simpa using hd.2)) fun y hy => Ok.of (P := fun p : PyData × TM.Box => Sm (N + 10) (n + 1) p.1) ?_) fun p hp => .of hp
    have hm := hy.1
    simp only [List.mem_cons, List.not_mem_nil, or_false] at hm
    rcases hm with rfl | rfl | rfl
    · exact sm_int
    · exact sm_lit (by decide)
    · exact sm_tup (by simp) fun z hz => by cases hz
  | int i =>
    have e1 : isTb "int" "tuple" = false := by decide
    have e2 : isTb "int" "str" = false := by decide
    simp only [Option.bind_some, tyA, e1, e2, Bool.false_eq_true, if_false, isNA, show OfA.dn (R := RInt) (.int i) = some i from rfl]
    refine Ok.bind (Ok.bind (draw_ok b (by omega)) fun d hd => Ok.bind (at_ok hd.1 (by simpa using hd.2)) fun y hy => Ok.of (P := fun p : PyData × TM.Box => Sm (N + 10) (n + 1) p.1) ?_) fun p hp => .of hp
    have hm := hy.1
    simp only [List.mem_cons, List.not_mem_nil, or_false] at hm
    rcases hm with rfl | rfl | rfl | rfl | rfl | rfl | rfl <;> first | exact sm_none | exact sm_int | exact sm_bool
  | bool _ => cases n <;> exact h.elim
  | list _ => cases n <;> exact h.elim
  | dict _ => cases n <;> exact h.elim
theorem changed_ok {N : Nat} (hN : N ≤ 1000000) : ∀ (n k : Nat) (b : TM.Box) {x : PyData}, n < k → n ≤ 40 → Td N n x → Ok (F__law_changed k b x) (fun p => Sm (N + 10) (n + 1) p.1)
  | _, 0, _, _, hk, _, _ => by omega
  | n, k + 1, b, x, hk, h40, h => by
    simp only [F__law_changed]
    by_cases ht : ∃ xs, x = .tuple xs
    · obtain ⟨xs, rfl⟩ := ht
      cases n with
      | zero => exact h.elim
      | succ n =>
        have e1 : isTb "tuple" "tuple" = true := by decide
        have hdep : (PyData.tuple xs).depth ≤ 60 := by
          have := (h.sm (N' := N) (Nat.le_refl _) (Nat.le_refl _)).depth
          omega
        have hd : eqA (.tuple xs) (.tuple []) = some xs.isEmpty := by
          rw [eqA_ok hdep (by simp [PyData.depth, PyData.depthAll])]
          congr 1
          cases xs <;> simp [PyData.eqv, PyData.eqvAll]
        simp only [Option.bind_some, tyA, e1, Bool.not_true, Bool.false_eq_true, if_false, up_tup, hd]
        cases xs with
        | nil =>
          simp only [List.isEmpty_nil, if_true, Option.bind_some]
          exact Ok.bind (other_ok hN b h) fun p hp => .of hp
        | cons x0 xs0 =>
          generalize hxs : x0 :: xs0 = xs at *
          have hne : xs.isEmpty = false := by rw [← hxs]; rfl
          have hpos : 0 < xs.length := by rw [← hxs]; simp
          simp only [hne, Bool.false_eq_true, if_false, Option.bind_some]
          refine Ok.bind (Ok.bind (draw_ok b (by omega)) fun d hd' => .of (P := fun _ : Bool × TM.Box => True) trivial) fun q hq => ?_
          refine Ok.ite (fun hq => ?_) fun hq => ?_
          · exact Ok.bind (other_ok hN _ h) fun p hp => .of hp
          · simp only [lenA, Option.bind_some]
            refine Ok.bind (P := fun p : Int × TM.Box => 0 ≤ p.1 ∧ p.1 < xs.length) (Ok.bind (draw_ok _ (by omega)) fun d hd' => ?_) fun a ha => ?_
            · rw [mod_ok (by omega), Option.bind_some]
              exact .of ⟨Int.emod_nonneg _ (by omega), Int.emod_lt_of_pos _ (by omega)⟩
            · simp only [cutA, Option.bind_some, cut_take' xs ha.1, cut_drop' xs (show (0 : Int) ≤ a.1 + 1 by omega), atA]
              obtain ⟨y, hy1, hy2, _⟩ := at_ok ha.1 ha.2
              obtain ⟨r, hr1, hr2⟩ := changed_ok hN n k a.2 (by omega) (by omega) (h.2 y hy2)
              have hu : ∀ z ∈ xs, Sm (N + 10) (n + 1) z := fun z hz => (h.2 z hz).sm (by omega) (Nat.le_succ n)
              have hl := h.1
              rw [hy1, Option.bind_some, hr1]
              simp only [Option.bind_some, catA]
              rw [sz_bind (by simp; omega)]
              simp only [Option.bind_some]
              rw [sz_bind (by simp; omega)]
              refine .of (sm_tup (by simp; omega) fun z hz => ?_)
              rcases List.mem_append.mp hz with hz | hz
              · rcases List.mem_append.mp hz with hz | hz
                · exact hu z (List.mem_of_mem_take hz)
                · rw [List.mem_singleton.mp hz]; exact hr2
              · exact hu z (List.mem_of_mem_drop hz)
    · obtain ⟨t, e⟩ := (h.sm (N' := N) (Nat.le_refl _) (Nat.le_refl _)).ty
      have e2 : isTb t "tuple" = false := by
        cases q : isTb t "tuple" with
        | false => rfl
        | true => exact absurd ((isTb_tuple e).mp q) ht
      simp only [Option.bind_some, e, e2, Bool.not_false, if_true]
      exact Ok.bind (other_ok hN b h) fun p hp => .of hp
end My

end
section
set_option Elab.async false
set_option linter.all false
set_option maxRecDepth 100000
set_option maxHeartbeats 1000000
set_option autoImplicit false
/-! LK: likeness. -/
namespace My
open PySem DL TM
open L2 (Key)
theorem like_int {k : Nat} (a b : Int) : F__law_like (k + 1) (.int a) (.int b) = some (decide (a = b)) := by
  have e1 : isTb "int" "tuple" = false := by decide
  have e2 : isTb "int" "str" = false := by decide
  have e3 : isTb "int" "int" = true := by decide
  have e4 : isTb "int" "bool" = false := by decide
  simp only [F__law_like, Option.bind_some, tyA, e1, e2, e3, e4, isNA, isBA, Bool.false_eq_true, if_false, if_true, Bool.not_false]
  rw [eqA_ok (by simp [PyData.depth]) (by simp [PyData.depth])]
  simp only [PyData.eqv, Option.bind_some, Option.some.injEq]
  rw [Bool.eq_iff_iff]
  simp
theorem like_bool {k : Nat} (a b : Bool) : F__law_like (k + 1) (.bool a) (.bool b) = some (decide (a = b)) := by
  have e1 : isTb "bool" "tuple" = false := by decide
  cases b
  · simp only [F__law_like, Option.bind_some, tyA, e1, isNA, isBA, Bool.false_eq_true, if_false, if_true]
    simp
  · simp only [F__law_like, Option.bind_some, tyA, e1, isNA, isBA, Bool.false_eq_true, if_false, if_true]
    simp
/-- what is due: no lists -/
def Du (N : Nat) : Nat → PyData → Prop
  | _, .none => True
  | _, .bool _ => True
  | _, .int _ => True
  | _, .str z => z.length ≤ N
  | n + 1, .tuple xs => xs.length ≤ N ∧ ∀ x ∈ xs, Du N n x
  | _, _ => False
theorem join1 (z : Str) : Txt.join ("" : Str) [z] = z := by
  have e : Txt.join ("" : Str) [z] = PySem.Str.join ("" : Str) [z] := StrLaws.glued_eq_join _ _
  rw [e]
  rfl
theorem like_ok {N : Nat} (hN : N ≤ 1000000) : ∀ (n k m : Nat) {x y : PyData}, n < k → m ≤ 50 → Sm N m x → Du N n y → Ok (F__law_like k x y) (fun b => b = true ↔ x = y)
  | _, 0, _, _, _, h, _, _, _ => by omega
  | n, k + 1, m, x, y, hk, hm, hx, hy => by
    have dx := hx.depth
    obtain ⟨t, et⟩ := hx.ty
    cases y with
    | none =>
      have e1 : isTb "NoneType" "tuple" = false := by decide
      simp only [F__law_like, Option.bind_some, tyA, e1, isNA, Bool.false_eq_true, if_false, if_true]
      refine .of ?_
      cases x <;> simp [isNA]
    | bool c =>
      have e1 : isTb "bool" "tuple" = false := by decide
      cases c
      · simp only [F__law_like, Option.bind_some, tyA, e1, isNA, isBA, Bool.false_eq_true, if_false, if_true, reduceCtorEq, decide_false, decide_true]
        refine .of ?_
        cases x <;> simp [isBA]
      · simp only [F__law_like, Option.bind_some, tyA, e1, isNA, isBA, Bool.false_eq_true, if_false, if_true, reduceCtorEq, decide_false, decide_true]
        refine .of ?_
        cases x <;> simp [isBA]
    | int i =>
      have e1 : isTb "int" "tuple" = false := by decide
      have e2 : isTb "int" "str" = false := by decide
      simp only [F__law_like, Option.bind_some, et, e1, e2, isNA, isBA, Bool.false_eq_true, if_false, if_true, show tyA (.int i) = some "int" from rfl]
      cases x with
      | int j =>
        cases et
        have e3 : isTb "int" "int" = true := by decide
        have e4 : isTb "int" "bool" = false := by decide
        simp only [e3, e4, if_true, Bool.not_false]
        rw [eqA_ok (by simp [PyData.depth]) (by simp [PyData.depth])]
        refine .of ?_
        simp [PyData.eqv]
      | bool j =>
        cases et
        have e3 : isTb "bool" "int" = true := by decide
        have e4 : isTb "bool" "bool" = true := by decide
        simp only [e3, e4, if_true, Bool.not_true, Bool.false_eq_true, if_false]
        exact .of (by simp)
      | dict _ => cases m <;> exact hx.elim
      | _ =>
        cases et
        rw [show isTb _ "int" = false by decide]
        exact .of (by simp)
    | str z =>
      have e1 : isTb "str" "tuple" = false := by decide
      have e2 : isTb "str" "str" = true := by decide
      simp only [F__law_like, Option.bind_some, et, e1, e2, isNA, isBA, Bool.false_eq_true, if_false, if_true, show tyA (.str z) = some "str" from rfl]
      cases x with
      | str w =>
        cases et
        have hw : w.length ≤ N := by cases m <;> exact hx
        simp only [e2, if_true, show OfA.dn (R := RStr) (.str w) = some w from rfl, Option.bind_some]
        rw [sz_bind (by have : ("" : Str).length = 0 := rfl
                        simp [this]; omega), join1]
        simp only [Option.bind_some, show ToA.up (R := RStr) w = .str w from rfl]
        rw [eqA_ok (by simp [PyData.depth]) (by simp [PyData.depth])]
        refine .of ?_
        simp [PyData.eqv]
      | dict _ => cases m <;> exact hx.elim
      | _ =>
        cases et
        rw [show isTb _ "str" = false by decide]
        exact .of (by simp)
    | tuple ys =>
      cases n with
      | zero => exact hy.elim
      | succ n =>
        obtain ⟨hyl, hys⟩ := hy
        have e1 : isTb "tuple" "tuple" = true := by decide
        simp only [F__law_like, Option.bind_some, et, e1, if_true, show tyA (.tuple ys) = some "tuple" from rfl, show lenA (.tuple ys) = some (ys.length : Int) from rfl]
        by_cases ht : ∃ xs, x = .tuple xs
        · obtain ⟨xs, rfl⟩ := ht
          cases et
          simp only [e1, Bool.not_true, Bool.false_eq_true, if_false, show lenA (.tuple xs) = some (xs.length : Int) from rfl, Option.bind_some]
          by_cases hlen : xs.length = ys.length
          · have : ((xs.length : Int) = (ys.length : Int)) := by omega
            simp only [this, decide_true, Bool.not_true, Bool.false_eq_true, if_false]
            rw [rng_nat (by omega), Option.bind_some, sz_bind (by simp; omega)]
            cases m with
            | zero => exact hx.elim
            | succ m =>
              have hl := hx.1
              have key : ∀ i ∈ (List.range ys.length).map (fun (i : Nat) => (i : Int)), Ok ((((atA (.tuple xs) i).bind fun a => (atA (.tuple ys) i).bind fun b => F__law_like k a b).bind fun v => some v).bind fun v => some (!v)) (fun b => b = true ↔ xs[i.toNat]? ≠ ys[i.toNat]?) := by
                intro i hi
                obtain ⟨q, hq, rfl⟩ := List.mem_map.mp hi
                have hq := List.mem_range.mp hq
                simp only [atA]
                obtain ⟨a, a1, a2, a3⟩ := at_ok (xs := xs) (i := (q : Int)) (by omega) (by omega)
                obtain ⟨b, b1, b2, b3⟩ := at_ok (xs := ys) (i := (q : Int)) (by omega) (by omega)
                obtain ⟨c, c1, c2⟩ := like_ok hN n k m (by omega) (by omega) (hx.2 a a2) (hys b b2)
                rw [a1, b1]
                simp only [Option.bind_some, c1]
                refine .of ?_
                rw [a3, b3]
                cases c <;> simp at c2 ⊢ <;> exact c2
              have fil : ∀ (is : List Int), (∀ i ∈ is, i ∈ (List.range ys.length).map (fun (i : Nat) => (i : Int))) → Ok (filO is (fun (y175 : Int) => ((((atA (.tuple xs) y175).bind fun a => (atA (.tuple ys) y175).bind fun b => F__law_like k a b).bind fun v => some v).bind fun v => some (!v))) (fun _ => some (1 : Int))) (fun r => r = [] ↔ ∀ i ∈ is, xs[i.toNat]? = ys[i.toNat]?) := by
                intro is
                induction is with
                | nil => intro _; exact .of (by simp)
                | cons i is ih =>
                  intro hi
                  obtain ⟨c, c1, c2⟩ := key i (hi i List.mem_cons_self)
                  obtain ⟨r, r1, r2⟩ := ih fun j hj => hi j (List.mem_cons_of_mem _ hj)
                  simp only [filO, c1, Option.bind_some, r1]
                  cases c with
                  | true =>
                    refine .of ?_
                    simp only [reduceCtorEq, false_iff]
                    intro q
                    exact c2.mp rfl (q i List.mem_cons_self)
                  | false =>
                    refine .of ?_
                    rw [r2]
                    simp only [List.mem_cons, forall_eq_or_imp]
                    refine ⟨fun q => ⟨?_, q⟩, fun q => q.2⟩
                    apply Classical.byContradiction
                    intro z
                    exact absurd (c2.mpr z) (by decide)
              refine Ok.bind (P := fun c : Bool => c = true ↔ PyData.tuple xs = PyData.tuple ys) (Ok.bind (fil _ fun i hi => hi) fun r hr => .of ?_) fun v hv => .of hv
              rw [decide_eq_true_eq, hr, PyData.tuple.injEq]
              constructor
              · intro q
                apply List.ext_getElem?
                intro i
                by_cases hi : i < ys.length
                · have := q (i : Int) (List.mem_map.mpr ⟨i, List.mem_range.mpr hi, rfl⟩)
                  simpa using this
                · rw [List.getElem?_eq_none (by omega), List.getElem?_eq_none (by omega)]
              · intro q; subst q; intros; rfl
          · have : ¬ ((xs.length : Int) = (ys.length : Int)) := by omega
            simp only [this, decide_false, Bool.not_false, if_true]
            refine .of ?_
            simp only [Bool.false_eq_true, PyData.tuple.injEq, false_iff]
            intro q; rw [q] at hlen; exact hlen rfl
        · have e2 : isTb t "tuple" = false := by
            cases q : isTb t "tuple" with
            | false => rfl
            | true => exact absurd ((isTb_tuple et).mp q) ht
          simp only [e2, Bool.not_false, if_true]
          refine .of ?_
          simp only [Bool.false_eq_true, false_iff]
          intro q; exact ht ⟨ys, q⟩
    | list _ => cases n <;> exact hy.elim
    | dict _ => cases n <;> exact hy.elim
end My

end
section
set_option Elab.async false
set_option linter.all false
set_option maxRecDepth 100000
set_option maxHeartbeats 1000000
set_option autoImplicit false
/-! JB: jobs drawn. -/
namespace My
open PySem DL TM
open L2 (Key)
def nm (i : Int) : Str := ("j" : Str) ++ ((toString i : String) : Str)
def nms (m : Nat) : List Str := (List.range m).map fun (i : Nat) => nm (i : Int)
theorem nm_len : ∀ m < 10, (nms m).all (fun s => decide (s.length ≤ 10)) = true := by decide +kernel
theorem str_len : ∀ i < 20, ((toString ((i : Nat) : Int) : String) : Str).length ≤ 10 := by decide +kernel
theorem nms_asc' : ∀ m < 10, (nms m).Pairwise fun a b => a.cps.toList < b.cps.toList := by decide +kernel
theorem nms_asc {m : Nat} (h : m < 10) : Asc (nms m) := (nms_asc' m h).imp fun q => by rw [dlt_str]; exact decide_eq_true q
theorem shuffled_ok (b : TM.Box) (ns : List Str) (hl : ns.length ≤ 1000) : Ok (F__law_shuffled b ns) (fun p => p.1.Perm ns) := by
  unfold F__law_shuffled
  simp only [Option.bind_some]
  refine Ok.bind (while_rule (J := fun t => (t.2.2 ++ t.2.1).Perm ns) (fun t => t.2.1.length) (E := fun t => t.2.2.Perm ns) (fun t h1 => ?_) (by simp)) fun w hw => .of hw
  obtain ⟨b, left, found⟩ := t
  dsimp only at h1 ⊢
  cases left with
  | nil => exact .inl ⟨by simp, by simpa using h1⟩
  | cons x left =>
    refine .inr ⟨by simp, ?_⟩
    have hsz := h1.length_eq
    rw [List.length_append] at hsz
    simp only [Option.bind_some, Option.bind_assoc]
    refine Ok.bind (draw_ok b (by omega)) fun d hd => ?_
    have hp : (0 : Int) < ((x :: left).length : Int) := by rw [List.length_cons]; omega
    rw [mod_ok hp]
    simp only [Option.bind_some]
    have h0 := Int.emod_nonneg d.1 (b := ((x :: left).length : Int)) (by omega)
    have h2 := Int.emod_lt_of_pos d.1 hp
    refine Ok.bind (pop_ok h0 h2 (by omega)) fun r ⟨u, v, e1, e2⟩ => ?_
    have hl2 : (x :: left).length = u.length + v.length + 1 := by rw [e1]; simp; omega
    rw [sz_bind (by omega)]
    refine .of ⟨?_, ?_⟩
    · refine List.Perm.trans ?_ h1
      show ((found ++ [r.1]) ++ r.2).Perm (found ++ x :: left)
      rw [e1, e2, List.append_assoc]
      exact List.Perm.append_left found (show (r.1 :: (u ++ v)).Perm (u ++ r.1 :: v) from List.perm_middle.symm)
    · show r.2.length < _
      rw [hl2, e2, List.length_append]; omega
/-- a job's row as it is drawn -/
structure Rg (froms : Bool) (r : Row) : Prop where
  t0 : 1 ≤ r.2.1
  t1 : r.2.1 ≤ 5
  f0 : 0 ≤ r.2.2.1
  f1 : r.2.2.1 ≤ 8
  ff : froms = false → r.2.2.1 = 0
  d0 : r.2.2.1 ≤ r.2.2.2.1
  d1 : r.2.2.2.1 ≤ r.2.2.1 + 13
  w0 : 0 ≤ r.2.2.2.2
  w1 : r.2.2.2.2 ≤ 4
/-- jobs as they are drawn -/
structure Jd (m : Nat) (froms : Bool) (k : Nat) (j : Jobs) : Prop where
  head : j.1 = "jobs"
  nms : names j = nms m
  rows : ∀ r ∈ j.2.1, Rg froms r
  few : j.2.2.length ≤ k
  pairs : ∃ place : List Str, place.Perm (My.nms m) ∧ ∀ p ∈ j.2.2, ∃ a b : Nat, a < b ∧ place[a]? = some p.1 ∧ place[b]? = some p.2
theorem jobs_ok (b : TM.Box) (m : Nat) (hm : m < 10) (froms : Bool) (k : Nat) (hk : k ≤ 1) : Ok (F__law_jobs b m froms k) (fun p => Jd m froms k p.1) := by
  unfold F__law_jobs
  simp only [Option.bind_some, Option.bind_assoc]
  rw [rng_nat (by omega)]
  simp only [Option.bind_some]
  rw [sz_bind (by simp; omega)]
  have hnl : (nms m).length = m := by simp [nms]
  refine Ok.bind (P := fun v => v = nms m) ?_ fun v hv => ?_
  · rw [map_ok (g := nm)]
    · exact .of (by unfold nms; rw [List.map_map]; rfl)
    · intro i hi
      obtain ⟨q, hq, rfl⟩ := List.mem_map.mp hi
      have hq := List.mem_range.mp hq
      rw [str_ok (by omega) (by omega), Option.bind_some]
      have h1 := str_len q (by omega)
      have h2 : ("j" : Str).length = 1 := rfl
      rw [sz_bind (by omega)]
      rfl
  · subst hv
    refine Ok.bind (for_rule (J := fun p t => t.2.map (·.1) = p ∧ ∀ r ∈ t.2, Rg froms r) (fun p n s t e ⟨h1, h2⟩ => ?_) ⟨rfl, by simp⟩) fun w ⟨hw1, hw2⟩ => ?_
    · have hl : t.2.length ≤ 10 := by
        have h3 := congrArg List.length h1
        have h4 := congrArg List.length e
        simp at h3 h4
        omega
      refine Ok.bind (P := fun q => 0 ≤ q.1 ∧ q.1 ≤ 8 ∧ (froms = false → q.1 = 0)) (Ok.ite (fun hf => (draw_ok t.1 (by omega)).mono fun q hq => ⟨hq.1, by omega, fun z => by rw [hf] at z; cases z⟩) fun hf => .of ⟨Int.le_refl _, by show (0 : Int) ≤ 8; omega, fun _ => rfl⟩) fun q hq => ?_
      refine Ok.bind (draw_ok q.2 (by omega)) fun q2 hq2 => ?_
      refine Ok.bind (draw_ok q2.2 (by omega)) fun q3 hq3 => ?_
      refine Ok.bind (draw_ok q3.2 (by omega)) fun q4 hq4 => ?_
      rw [sz_bind (by omega)]
      refine .of ⟨by simp [h1], fun r hr => ?_⟩
      rcases List.mem_append.mp hr with z | z
      · exact h2 r z
      · rw [List.mem_singleton.mp z]
        exact ⟨by show 1 ≤ 1 + q2.1; omega, by show 1 + q2.1 ≤ 5; omega, hq.1, hq.2.1, hq.2.2, by show q.1 ≤ q.1 + q3.1; omega, by show q.1 + q3.1 ≤ q.1 + 13; omega, hq4.1, by show q4.1 ≤ 4; omega⟩
    · refine Ok.bind (shuffled_ok w.1 _ (by omega)) fun pl hpl => ?_
      have hpl2 : pl.1.length = m := by rw [hpl.length_eq, hnl]
      refine Ok.bind (P := fun v : Int => v = if 1 < m then (k : Int) else 0) ?_ fun v hv => ?_
      · refine Ok.ite (fun h => .of ?_) fun h => .of ?_
        · have : (1 : Int) < (m : Int) := of_decide_eq_true h
          rw [if_pos (by omega)]
        · have : ¬ (1 : Int) < (m : Int) := of_decide_eq_false h
          rw [if_neg (by omega)]
      refine Ok.bind (P := fun l => l.length ≤ k ∧ (l ≠ [] → 1 < m)) ?_ fun l hl => ?_
      · by_cases c : 1 < m
        · rw [if_pos c] at hv
          rw [hv, rng_nat (by omega)]
          exact .of ⟨by simp, fun _ => c⟩
        · rw [if_neg c] at hv
          subst hv
          have e0 : rngO 0 0 = some ((List.range 0).map fun (i : Nat) => (i : Int)) := rng_nat (n := 0) (by omega)
          rw [e0]
          exact .of ⟨by simp, fun h => absurd rfl h⟩
      · refine Ok.bind (for_rule (J := fun p t => t.2.length ≤ p.length ∧ ∀ p ∈ t.2, ∃ a b : Nat, a < b ∧ pl.1[a]? = some p.1 ∧ pl.1[b]? = some p.2) (fun p n s t e ⟨h1, h2⟩ => ?_) ⟨Nat.le_refl _, by simp⟩) fun w2 ⟨hw3, hw4⟩ => ?_
        · have hm1 : 1 < m := hl.2 (by rw [e]; simp)
          refine Ok.bind (draw_ok t.1 (by omega)) fun q hq => ?_
          rw [mod_ok (by omega)]
          simp only [Option.bind_some]
          refine Ok.bind (draw_ok q.2 (by omega)) fun q2 hq2 => ?_
          rw [mod_ok (by omega)]
          simp only [Option.bind_some]
          have a1 := Int.emod_nonneg q.1 (b := (m : Int)) (by omega)
          have a2 := Int.emod_lt_of_pos q.1 (b := (m : Int)) (by omega)
          have b1 := Int.emod_nonneg q2.1 (b := (m : Int)) (by omega)
          have b2 := Int.emod_lt_of_pos q2.1 (b := (m : Int)) (by omega)
          refine Ok.ite (fun hc => ?_) fun hc => .of ⟨by simp; omega, h2⟩
          have hc := of_decide_eq_true hc
          obtain ⟨x, x1, _, x2⟩ := at_ok (xs := pl.1) a1 (by rw [hpl2]; exact a2)
          obtain ⟨y, y1, _, y2⟩ := at_ok (xs := pl.1) b1 (by rw [hpl2]; exact b2)
          rw [x1, y1]
          simp only [Option.bind_some]
          have hpl3 := congrArg List.length e
          simp at hpl3
          have := hl.1
          rw [sz_bind (by omega)]
          refine .of ⟨by simp; omega, fun p hp => ?_⟩
          rcases List.mem_append.mp hp with z | z
          · exact h2 p z
          · rw [List.mem_singleton.mp z]
            exact ⟨_, _, by omega, x2, y2⟩
        · have := hl.1
          unfold sortSetO
          rw [if_pos (by omega)]
          exact .of ⟨rfl, hw1, hw2, by show w2.2.length ≤ k; omega, pl.1, hpl, hw4⟩
end My

end
section
set_option Elab.async false
set_option linter.all false
set_option maxRecDepth 100000
set_option maxHeartbeats 1000000
set_option autoImplicit false
/-! OR: all orders. -/
namespace My
open PySem DL TM
open L2 (Key)
def fct : Nat → Nat
  | 0 => 1
  | n + 1 => fct n * (n + 1)
theorem fct_succ (n : Nat) : fct (n + 1) = fct n * (n + 1) := rfl
theorem fct_le : ∀ n < 8, fct n ≤ 5040 := by decide
def insAt {α : Type} (x : α) (row : List α) (k : Nat) : List α := row.take k ++ [x] ++ row.drop k
theorem insAt_perm {α : Type} (x : α) (row : List α) (k : Nat) : (insAt x row k).Perm (row ++ [x]) := by
  unfold insAt
  rw [List.append_assoc]
  refine (List.perm_middle (a := x) (l₁ := row.take k) (l₂ := row.drop k)).trans ?_
  rw [List.take_append_drop]
  exact (List.perm_append_singleton x row).symm
theorem perm_ins {α : Type} {x : α} {p y : List α} : y.Perm (p ++ [x]) ↔ ∃ row, row.Perm p ∧ ∃ k ≤ row.length, y = insAt x row k := by
  constructor
  · intro h
    have hx : x ∈ y := h.mem_iff.mpr (by simp)
    obtain ⟨a, b, rfl⟩ := List.append_of_mem hx
    refine ⟨a ++ b, ?_, a.length, by simp, ?_⟩
    · have h1 : (x :: (a ++ b)).Perm (x :: p) := (List.perm_middle.symm.trans h).trans (List.perm_append_singleton x p)
      exact h1.cons_inv
    · simp [insAt]
  · intro ⟨row, h, k, _, e⟩
    subst e
    exact (insAt_perm x row k).trans (h.append_right [x])
theorem orders_ok {ns : List Str} (hl : ns.length ≤ 7) : Ok (F__law_orders ns) (fun os => (∀ x, x ∈ os ↔ x.Perm ns) ∧ os.length ≤ 5040) := by
  unfold F__law_orders
  simp only [bsm, Option.bind_assoc]
  refine Ok.bind (for_rule (J := fun p t => (∀ x, x ∈ t ↔ x.Perm p) ∧ t.length ≤ fct p.length) (fun p n s t e ⟨h1, h2⟩ => ?_) ⟨by simp, Nat.le_refl _⟩) fun w hw => .of ⟨hw.1, Nat.le_trans hw.2 (fct_le _ (by omega))⟩
  have hp : p.length + 1 ≤ 7 := by rw [e] at hl; simp at hl; omega
  have hlen : ∀ row ∈ t, row.length = p.length := fun row hr => ((h1 row).mp hr).length_eq
  have hf := fct_le (p.length + 1) (by omega)
  refine Ok.bind (for_rule (J := fun p' l => (∀ x, x ∈ l ↔ ∃ row ∈ p', ∃ k ≤ row.length, x = insAt n row k) ∧ l.length ≤ p'.length * (p.length + 1)) (fun p' row s' l e' ⟨g1, g2⟩ => ?_) ⟨by simp, by simp⟩) fun w ⟨w1, w2⟩ => ?_
  · have hr : row.length = p.length := hlen row (by rw [e']; simp)
    have hb : p'.length + 1 ≤ fct p.length := by
      have := congrArg List.length e'
      simp at this
      omega
    have hb2 : (p'.length + 1) * (p.length + 1) ≤ fct (p.length + 1) := by rw [fct_succ]; exact Nat.mul_le_mul_right _ hb
    have hb3 : (p'.length + 1) * (p.length + 1) = p'.length * (p.length + 1) + (p.length + 1) := Nat.succ_mul _ _
    have er : rngO 0 ((row.length : Int) + 1) = some ((List.range (row.length + 1)).map fun (i : Nat) => (i : Int)) := by
      rw [show (row.length : Int) + 1 = ((row.length + 1 : Nat) : Int) by omega]
      exact rng_nat (by omega)
    rw [er]
    simp only [Option.bind_some]
    rw [sz_bind (by rw [List.length_map, List.length_range]; omega)]
    rw [map_ok (g := fun (i : Int) => insAt n row i.toNat)]
    · simp only [Option.bind_some]
      rw [sz_bind (by rw [List.length_map, List.length_map, List.length_range]; omega)]
      refine .of ⟨fun x => ?_, by rw [List.length_append, List.length_append, List.length_map, List.length_map, List.length_range, List.length_singleton, hb3, hr]; omega⟩
      rw [List.mem_append, g1]
      constructor
      · rintro (⟨r, hr1, k, hk, e⟩ | h)
        · exact ⟨r, List.mem_append.mpr (.inl hr1), k, hk, e⟩
        · simp only [List.mem_map, List.mem_range] at h
          obtain ⟨_, ⟨k, hk, rfl⟩, e⟩ := h
          exact ⟨row, by simp, k, by omega, by simpa using e.symm⟩
      · rintro ⟨r, hr1, k, hk, e⟩
        rcases List.mem_append.mp hr1 with z | z
        · exact .inl ⟨r, z, k, hk, e⟩
        · rw [List.mem_singleton.mp z] at hk e
          refine .inr ?_
          simp only [List.mem_map, List.mem_range]
          exact ⟨_, ⟨k, by omega, rfl⟩, by simpa using e.symm⟩
    · intro i hi
      obtain ⟨k, hk, rfl⟩ := List.mem_map.mp hi
      have hk := List.mem_range.mp hk
      rw [cut_take, cut_drop, sz_bind (by rw [List.length_take, List.length_singleton]; omega), sz_bind (by rw [List.length_append, List.length_take, List.length_singleton, List.length_drop]; omega)]
      simp [insAt]
  · refine .of ⟨fun x => ?_, ?_⟩
    · rw [w1, perm_ins]
      constructor
      · rintro ⟨r, hr, k⟩; exact ⟨r, (h1 r).mp hr, k⟩
      · rintro ⟨r, hr, k⟩; exact ⟨r, (h1 r).mpr hr, k⟩
    · rw [List.length_append, List.length_singleton, fct_succ]
      exact Nat.le_trans w2 (Nat.mul_le_mul_right _ h2)
end My

end
section
set_option Elab.async false
set_option linter.all false
set_option maxRecDepth 100000
set_option maxHeartbeats 1000000
set_option autoImplicit false
/-! P08a: jobs, their tables, sums. -/
namespace My
open PySem DL TM
open L2 (Key)
/-- jobs as they are drawn -/
structure Wf (j : Jobs) : Prop where
  len : j.2.1.length ≤ 20
  nd : (names j).Nodup
  num : ∀ r ∈ j.2.1, 0 < r.2.1 ∧ r.2.1 ≤ 99 ∧ 0 ≤ r.2.2.2.2 ∧ r.2.2.2.2 ≤ 99
def rowOf (j : Jobs) (n : Str) : Option Row := j.2.1.find? fun r => decide (r.1 = n)
def tw (j : Jobs) (n : Str) : TW := match rowOf j n with
  | some r => (r.2.1, r.2.2.2.2)
  | none => (0, 0)
variable {j : Jobs}
theorem names_of_eq (h : Wf j) : F_names_of j = some (names j) := by
  unfold F_names_of
  have := h.len
  simp only [Option.bind_some]
  rw [sz_bind (by omega), map_ok (g := fun r : Row => r.1) (fun _ _ => rfl)]
  rfl
theorem law_names_eq (h : Wf j) : F__law_names j = some (names j) := by
  unfold F__law_names
  have := h.len
  simp only [Option.bind_some]
  rw [sz_bind (by omega), map_ok (g := fun r : Row => r.1) (fun _ _ => rfl)]
  rfl
def tbl (j : Jobs) : List (Key × Row) := j.2.1.map fun r => ((.inr r.1 : Key), r)
theorem keys_nd (h : Wf j) : (j.2.1.map fun r => ((.inr r.1 : Key))).Nodup := by
  have : (j.2.1.map fun r => ((.inr r.1 : Key))) = (names j).map .inr := by unfold names; rw [List.map_map]; rfl
  rw [this]
  exact List.Pairwise.map _ (fun a b e q => e (Sum.inr.inj q)) h.nd
theorem table_of_eq (h : Wf j) : F_table_of j = some (tbl j) := by
  unfold F_table_of
  have := h.len
  simp only [Option.bind_some]
  rw [sz_bind (by omega), dfil_ok (V := RStr) j.2.1 [] (G := fun r : Row => r.1) (F := fun r : Row => r) (fun _ _ => rfl) (fun _ _ => rfl) (keys_nd h) (fun p hp => by cases hp)]
  rfl
theorem dictO_eq (h : Wf j) : dictO (S := RStr) (j.2.1.map fun r => (r.1, r)) = tbl j := by
  unfold dictO
  rw [List.map_map, merge_new _ [] (by rw [List.map_map]; exact keys_nd h) (fun p hp => by cases hp)]
  rfl
theorem look_tbl (n : Str) : lookK (tbl j) (.inr n) = rowOf j n := by
  unfold tbl rowOf
  rw [look_map]
  simp
theorem row_mem {n : Str} (hn : n ∈ names j) : ∃ r, rowOf j n = some r ∧ r ∈ j.2.1 ∧ r.1 = n := by
  unfold names at hn
  obtain ⟨r, hr, e⟩ := List.mem_map.mp hn
  cases q : rowOf j n with
  | none =>
    unfold rowOf at q
    rw [List.find?_eq_none] at q
    exact absurd (q r hr) (by simp [e])
  | some r' =>
    exact ⟨r', rfl, List.mem_of_find?_eq_some q, by simpa using List.find?_some q⟩
theorem tw_row {n : Str} {r : Row} (h : rowOf j n = some r) : tw j n = (r.2.1, r.2.2.2.2) := by unfold tw; rw [h]
theorem tw_pos (h : Wf j) {n : Str} (hn : n ∈ names j) : 0 < (tw j n).1 := by
  obtain ⟨r, h1, h2, _⟩ := row_mem hn
  rw [tw_row h1]
  exact (h.num r h2).1
theorem foldl_cost {α : Type} (f : α → TW) : ∀ (l : List α) (t : Int × Int), l.foldl (fun t n => (t.1 + (f n).1, t.2 + (t.1 + (f n).1) * (f n).2)) t = (t.1 + sumBy (fun n => (f n).1) l, t.2 + costF t.1 (l.map f))
  | [], t => by simp [sumBy, costF]
  | n :: l, t => by
    rw [List.foldl_cons, foldl_cost f l]
    simp only [sumBy, List.map_cons, costF]
    refine Prod.ext ?_ ?_ <;> simp <;> omega
theorem sum_of_eq (h : Wf j) {order : List Str} (ho : ∀ n ∈ order, n ∈ names j) : F_sum_of j order = some (costF 0 (order.map (tw j))) := by
  unfold F_sum_of
  simp only [Option.bind_some, table_of_eq h]
  rw [for_ok (g := fun t n => (t.1 + (tw j n).1, t.2 + (t.1 + (tw j n).1) * (tw j n).2))]
  · rw [foldl_cost]
    simp
  · intro n hn t
    obtain ⟨r, h1, h2, _⟩ := row_mem (ho n hn)
    have := h.num r h2
    simp only [look_tbl, h1, Option.bind_some, tw_row h1]
    rw [mul_ok (.inr (by omega))]
    rfl
theorem law_sum_of_eq (h : Wf j) {order : List Str} (ho : ∀ n ∈ order, n ∈ names j) : F__law_sum_of j order = some (costF 0 (order.map (tw j))) := by
  unfold F__law_sum_of
  have := h.len
  simp only [Option.bind_some]
  rw [sz_bind (by omega), map_ok (g := fun r : Row => (r.1, r)) (fun _ _ => rfl)]
  simp only [Option.bind_some, dictO_eq h]
  rw [for_ok (g := fun t n => (t.1 + (tw j n).1, t.2 + (t.1 + (tw j n).1) * (tw j n).2))]
  · rw [foldl_cost]
    simp
  · intro n hn t
    obtain ⟨r, h1, h2, _⟩ := row_mem (ho n hn)
    have := h.num r h2
    simp only [look_tbl, h1, Option.bind_some, tw_row h1]
    rw [mul_ok (.inr (by omega))]
    rfl
/-! ### the least sum -/
/-- more weight by time, of as much the lesser name -/
def ahd (j : Jobs) (a b : Str) : Bool := decide ((tw j b).2 * (tw j a).1 < (tw j a).2 * (tw j b).1) || (decide ((tw j a).2 * (tw j b).1 = (tw j b).2 * (tw j a).1) && dlt RStr a b)
theorem is_ahead_eq (h : Wf j) {a b : Str} {r s : Row} (ha : rowOf j a = some r) (hb : rowOf j b = some s) (hr : r ∈ j.2.1) (hs : s ∈ j.2.1) (ea : r.1 = a) (eb : s.1 = b) : F__is_ahead r s = some (ahd j a b) := by
  have h1 := h.num r hr
  have h2 := h.num s hs
  unfold F__is_ahead ahd
  simp only [Option.bind_some, tw_row ha, tw_row hb]
  rw [mul_ok (.inr (by omega)), mul_ok (.inr (by omega))]
  simp only [Option.bind_some, ea, eb]
  by_cases c1 : s.2.2.2.2 * r.2.1 < r.2.2.2.2 * s.2.1
  · simp [c1]
  · by_cases c2 : r.2.2.2.2 * s.2.1 = s.2.2.2.2 * r.2.1
    · simp [c2]
    · simp [c1, c2]
def rat (j : Jobs) (a b : Str) : Prop := wt (tw j a) (tw j b) ≤ wt (tw j b) (tw j a)
theorem rat_of (a b : Str) (h : ahd j a b = true) : rat j a b := by
  unfold rat wt
  unfold ahd at h
  simp only [Bool.or_eq_true, Bool.and_eq_true, decide_eq_true_eq] at h
  have e1 := Int.mul_comm (tw j a).1 (tw j b).2
  have e2 := Int.mul_comm (tw j b).1 (tw j a).2
  rcases h with h | ⟨h, _⟩ <;> omega
theorem rat_not (a b : Str) (h : ahd j a b = false) : rat j b a := by
  unfold rat wt
  unfold ahd at h
  simp only [Bool.or_eq_false_iff, Bool.and_eq_false_iff, decide_eq_false_iff_not] at h
  have e1 := Int.mul_comm (tw j a).1 (tw j b).2
  have e2 := Int.mul_comm (tw j b).1 (tw j a).2
  omega
theorem rat_trans (h : Wf j) {a b c : Str} (ha : a ∈ names j) (hb : b ∈ names j) (hc : c ∈ names j) (h1 : rat j a b) (h2 : rat j b c) : rat j a c := ratio_trans (tw_pos h ha) (tw_pos h hb) (tw_pos h hc) h1 h2
theorem rat_refl (a : Str) : rat j a a := Int.le_refl _
theorem rem_ok {xs : List Str} {y : Str} (h : y ∈ xs) : Ok (remO RStr xs y) (fun zs => xs.Perm (y :: zs)) := by
  unfold remO
  have hx : ∃ i, xs.findIdx? (fun z => PyData.eqv (.str z) (.str y)) = some i ∧ ∃ hi : i < xs.length, xs[i] = y := by
    cases q : xs.findIdx? (fun z => PyData.eqv (.str z) (.str y)) with
    | none =>
      rw [List.findIdx?_eq_none_iff] at q
      have := q y h
      simp [PyData.eqv] at this
    | some i =>
      obtain ⟨hi, e, _⟩ := List.findIdx?_eq_some_iff_getElem.mp q
      exact ⟨i, rfl, hi, by simpa [PyData.eqv] using e⟩
  obtain ⟨i, e, hi, hy⟩ := hx
  show Ok ((xs.findIdx? (fun z => PyData.eqv (.str z) (.str y))).bind _) _
  rw [e, Option.bind_some]
  refine .of ?_
  have e1 : xs = xs.take i ++ y :: xs.drop (i + 1) := by
    rw [← hy, List.getElem_cons_drop hi, List.take_append_drop]
  rw [List.eraseIdx_eq_take_drop_succ]
  exact (List.Perm.of_eq e1).trans List.perm_middle
theorem least_sum_ok (h : Wf j) : Ok (F_least_sum j) (fun o => o.Perm (names j) ∧ o.Pairwise (rat j)) := by
  unfold F_least_sum
  simp only [Option.bind_some, table_of_eq h, names_of_eq h]
  have hl := h.len
  refine Ok.bind (while_rule (J := fun t => (t.2 ++ t.1).Perm (names j) ∧ t.2.Pairwise (rat j) ∧ ∀ a ∈ t.2, ∀ b ∈ t.1, rat j a b) (fun t => t.1.length) (E := fun t => t.2.Perm (names j) ∧ t.2.Pairwise (rat j)) (fun t ⟨h1, h2, h3⟩ => ?_) ⟨by simp, List.Pairwise.nil, by simp⟩) (fun w hw => .of hw)
  obtain ⟨left, found⟩ := t
  dsimp only at h1 h2 h3 ⊢
  cases left with
  | nil => exact .inl ⟨rfl, by simpa using h1, h2⟩
  | cons x left =>
    refine .inr ⟨rfl, ?_⟩
    have mem : ∀ n ∈ x :: left, n ∈ names j := fun n hn => h1.mem_iff.mp (List.mem_append.mpr (.inr hn))
    have hsz : (found ++ x :: left).length = j.2.1.length := by rw [h1.length_eq]; simp [names]
    have hsz2 : found.length + (left.length + 1) = j.2.1.length := by simpa using hsz
    have e0 : atO (x :: left) 0 = some x := by rw [show (0 : Int) = ((0 : Nat) : Int) from rfl, at_nat]; rfl
    rw [e0]
    simp only [Option.bind_some]
    refine Ok.bind (for_rule (J := fun p f => f ∈ x :: left ∧ ∀ n ∈ p, rat j f n) (fun p n s f e ⟨hf, hp⟩ => ?_) ⟨List.mem_cons_self, by simp⟩) fun f ⟨hf, hr⟩ => ?_
    · have hn : n ∈ x :: left := by rw [e]; simp
      obtain ⟨r, a1, a2, a3⟩ := row_mem (mem n hn)
      obtain ⟨r', b1, b2, b3⟩ := row_mem (mem f hf)
      simp only [look_tbl, a1, b1, Option.bind_some, is_ahead_eq h a1 b1 a2 b2 a3 b3]
      have pm : ∀ m ∈ p, m ∈ names j := fun m hm => mem m (by rw [e]; simp [hm])
      cases c : ahd j n f with
      | true =>
        refine .of ⟨hn, fun m hm => ?_⟩
        rcases List.mem_append.mp hm with q | q
        · exact rat_trans h (mem n hn) (mem f hf) (pm m q) (rat_of _ _ c) (hp m q)
        · rw [List.mem_singleton.mp q]; exact rat_refl _
      | false =>
        refine .of ⟨hf, fun m hm => ?_⟩
        rcases List.mem_append.mp hm with q | q
        · exact hp m q
        · rw [List.mem_singleton.mp q]; exact rat_not _ _ c
    · rw [sz_bind (by omega), sz_bind (by simp; omega)]
      simp only [Option.bind_some]
      refine Ok.bind (rem_ok hf) fun zs hz => .of ⟨⟨?_, ?_, ?_⟩, ?_⟩
      · rw [List.append_assoc]
        exact (List.Perm.append_left found hz.symm).trans h1
      · rw [List.pairwise_append]
        exact ⟨h2, List.pairwise_singleton _ _, fun a ha b hb => by rw [List.mem_singleton.mp hb]; exact h3 a ha f hf⟩
      · intro a ha b hb
        have hb' : b ∈ x :: left := hz.mem_iff.mpr (List.mem_cons_of_mem _ hb)
        rcases List.mem_append.mp ha with q | q
        · exact h3 a q b hb'
        · rw [List.mem_singleton.mp q]; exact hr b hb'
      · have := hz.length_eq
        simp at this ⊢
        omega
end My

end
section
set_option Elab.async false
set_option linter.all false
set_option maxRecDepth 100000
set_option maxHeartbeats 1000000
set_option autoImplicit false
/-! P08b: the judge of orders, the law. -/
namespace My
open PySem DL TM
open L2 (Key)
variable {j : Jobs}
/-- each against the next one -/
theorem zip_pair {α : Type} (R : α → α → Prop) : ∀ l : List α, (∀ a ∈ l, ∀ b ∈ l, ∀ c ∈ l, R a b → R b c → R a c) → ((∀ p ∈ l.zip (l.drop 1), R p.1 p.2) ↔ l.Pairwise R)
  | [], _ => by simp
  | [a], _ => by simp
  | a :: b :: l, tr => by
    have ih := zip_pair R (b :: l) fun x hx y hy z hz => tr x (List.mem_cons_of_mem _ hx) y (List.mem_cons_of_mem _ hy) z (List.mem_cons_of_mem _ hz)
    simp only [List.drop_succ_cons, List.drop_zero] at ih ⊢
    rw [List.zip_cons_cons, List.forall_mem_cons, ih, List.pairwise_cons (a := a)]
    constructor
    · rintro ⟨h1, h2⟩
      refine ⟨fun c hc => ?_, h2⟩
      rcases List.mem_cons.mp hc with e | e
      · rw [e]; exact h1
      · exact tr a (by simp) b (by simp) c (by simp [e]) h1 ((List.pairwise_cons.mp h2).1 c e)
    · rintro ⟨h1, h2⟩
      exact ⟨h1 b List.mem_cons_self, h2⟩
theorem is_order_ok (h : Wf j) (ha : Asc (names j)) {N n : Nat} (hN : N ≤ 1000000) {x : PyData} (hx : Sm N n x) : Ok (F_is_order j x) (fun b => b = true ↔ ∃ o, x = upS o ∧ o.Perm (names j)) := by
  obtain ⟨t, et⟩ := hx.ty
  unfold F_is_order
  simp only [bsm, et]
  by_cases ht : ∃ xs, x = .tuple xs
  · obtain ⟨xs, rfl⟩ := ht
    cases et
    have e1 : isTb "tuple" "tuple" = true := by decide
    have hl : xs.length ≤ N ∧ ∀ y ∈ xs, ∃ t, tyA y = some t := by
      cases n with
      | zero => exact hx.elim
      | succ n => exact ⟨hx.1, fun y hy => (hx.2 y hy).ty⟩
    simp only [e1, Bool.not_true, Bool.false_eq_true, if_false, bsm, itA]
    rw [sz_bind (by omega)]
    obtain ⟨bs, b1, b2⟩ := map_each (xs := xs) (f := fun (y15 : PyData) => (tyA y15).bind fun t => some (isTb t "str")) (R := fun y b => b = true ↔ ∃ z, y = .str z) (fun y hy => by
      obtain ⟨t, e⟩ := hl.2 y hy
      rw [e]
      exact .of (isTb_str e))
    rw [b1]
    simp only [bsm]
    by_cases hs : ∃ ss : List Str, xs = ss.map .str
    · obtain ⟨ss, rfl⟩ := hs
      have hall : bs.all id = true := by
        rw [List.all_eq_true]
        intro b hb
        obtain ⟨y, hy, q⟩ := Fa.back b2 b hb
        obtain ⟨z, _, e⟩ := List.mem_map.mp hy
        exact q.mpr ⟨z, e.symm⟩
      simp only [hall, Bool.not_true, Bool.false_eq_true, if_false]
      have e3 : OfA.dn (R := RTup RStr) (PyData.tuple (ss.map .str)) = some ss := dn_strs ss
      rw [e3]
      simp only [bsm]
      rw [sz_bind (by simpa using Nat.le_trans hl.1 (by omega))]
      simp only [bsm, names_of_eq h]
      have e4 : ∀ l : List Str, ToA.up (R := RLst RStr) l = .list (l.map .str) := fun _ => rfl
      rw [e4, e4, eqA_ok (by simp [PyData.depth, depth_strs]) (by simp [PyData.depth, depth_strs])]
      refine .of ?_
      rw [PyData.eqv, eqv_strs, decide_eq_true_eq, sortO_eq ha]
      constructor
      · intro p; exact ⟨ss, rfl, p⟩
      · rintro ⟨o, e, p⟩
        have : ss = o := upS_inj e
        rw [this]; exact p
    · have hall : bs.all id = false := by
        cases q : bs.all id with
        | false => rfl
        | true =>
          rw [List.all_eq_true] at q
          refine absurd ?_ hs
          have : ∀ {ys : List PyData} {bs : List Bool}, TM.Fa (fun y b => b = true ↔ ∃ z, y = PyData.str z) ys bs → (∀ b ∈ bs, id b = true) → ∃ ss : List Str, ys = ss.map .str := by
            intro ys bs f
            induction f with
            | nil => intro _; exact ⟨[], rfl⟩
            | cons p _ ih =>
              intro hb
              obtain ⟨ss, e⟩ := ih fun b hb' => hb b (List.mem_cons_of_mem _ hb')
              obtain ⟨z, e2⟩ := p.mp (hb _ List.mem_cons_self)
              exact ⟨z :: ss, by rw [e, e2]; rfl⟩
          exact this b2 q
      simp only [hall, Bool.not_false, if_true, bsm]
      refine .of ?_
      simp only [Bool.false_eq_true, false_iff]
      rintro ⟨o, e, _⟩
      exact hs ⟨o, PyData.tuple.inj e⟩
  · have e2 : isTb t "tuple" = false := by
      cases q : isTb t "tuple" with
      | false => rfl
      | true => exact absurd ((isTb_tuple et).mp q) ht
    simp only [e2, Bool.not_false, if_true, bsm]
    refine .of ?_
    simp only [Bool.false_eq_true, false_iff]
    rintro ⟨o, e, _⟩
    exact ht ⟨_, e⟩
theorem is_least_ok (h : Wf j) (ha : Asc (names j)) {N n : Nat} (hN : N ≤ 1000000) {x : PyData} (hx : Sm N n x) : Ok (F_is_least_sum j x) (fun b => b = true ↔ ∃ o, x = upS o ∧ o.Perm (names j) ∧ o.Pairwise (rat j)) := by
  unfold F_is_least_sum
  simp only [bsm, Option.bind_assoc]
  refine Ok.bind (is_order_ok h ha hN hx) fun b hb => ?_
  cases b with
  | false =>
    simp only [Bool.not_false, if_true]
    refine .of ?_
    simp only [Bool.false_eq_true, false_iff] at hb ⊢
    rintro ⟨o, h1, h2, _⟩
    exact hb ⟨o, h1, h2⟩
  | true =>
    obtain ⟨o, rfl, hp⟩ := hb.mp rfl
    have hl := h.len
    have hol : o.length ≤ 20 := by rw [hp.length_eq]; simpa [names] using hl
    have hmem : ∀ s ∈ o, s ∈ names j := fun s hs => hp.mem_iff.mp hs
    simp only [Bool.not_true, Bool.false_eq_true, if_false, table_of_eq h, bsm, upS, itA]
    rw [sz_bind (by simp; omega)]
    let gr : Str → Row := fun n => (rowOf j n).getD ("", 0, 0, 0, 0)
    have hgr : ∀ s ∈ o, rowOf j s = some (gr s) ∧ gr s ∈ j.2.1 := fun s hs => by
      obtain ⟨r, h1, h2, _⟩ := row_mem (hmem s hs)
      have : gr s = r := by show (rowOf j s).getD _ = r; rw [h1]; rfl
      rw [this]; exact ⟨h1, h2⟩
    rw [map_ok (g := fun y => match y with | .str s => gr s | _ => ("", 0, 0, 0, 0))]
    · simp only [bsm]
      have e1 : (o.map PyData.str).map (fun y => match y with | .str s => gr s | _ => ("", 0, 0, 0, 0)) = o.map gr := by rw [List.map_map]; rfl
      rw [e1, show (some (1 : Int)) = some ((1 : Nat) : Int) from rfl, cut_drop, ← List.map_drop, List.zip_map]
      rw [sz_bind (by simp; omega)]
      have hz : ∀ p ∈ o.zip (o.drop 1), p.1 ∈ o ∧ p.2 ∈ o := fun p hp => ⟨(List.of_mem_zip hp).1, List.mem_of_mem_drop (List.of_mem_zip hp).2⟩
      rw [map_ok (g := fun q : Row × Row => decide (q.2.2.2.2.2 * q.1.2.1 ≤ q.1.2.2.2.2 * q.2.2.1))]
      · simp only [bsm]
        refine .of ?_
        have e2 : ((((o.zip (o.drop 1)).map (Prod.map gr gr)).map fun q : Row × Row => decide (q.2.2.2.2.2 * q.1.2.1 ≤ q.1.2.2.2.2 * q.2.2.1)).all id = true) ↔ o.Pairwise (rat j) := by
          rw [← zip_pair (rat j) o fun a ha' b hb' c hc' => rat_trans h (hmem a ha') (hmem b hb') (hmem c hc'), List.map_map, List.all_map, List.all_eq_true]
          constructor
          · intro q p hp
            have := q p hp
            obtain ⟨z1, z2⟩ := hz p hp
            simp only [Function.comp_apply, id_eq, Prod.map, decide_eq_true_eq] at this
            unfold rat wt
            rw [tw_row (hgr _ z1).1, tw_row (hgr _ z2).1]
            simp only
            rw [Int.mul_comm (gr p.1).2.1, Int.mul_comm (gr p.2).2.1]
            exact this
          · intro q p hp
            have := q p hp
            obtain ⟨z1, z2⟩ := hz p hp
            simp only [Function.comp_apply, id_eq, Prod.map, decide_eq_true_eq]
            unfold rat wt at this
            rw [tw_row (hgr _ z1).1, tw_row (hgr _ z2).1] at this
            simp only at this
            rw [Int.mul_comm (gr p.1).2.1, Int.mul_comm (gr p.2).2.1] at this
            exact this
        rw [e2]
        constructor
        · intro q; exact ⟨o, rfl, hp, q⟩
        · rintro ⟨o', e, _, q⟩
          have : o = o' := upS_inj e
          rw [this]; exact q
      · intro q hq
        obtain ⟨p, hp, rfl⟩ := List.mem_map.mp hq
        obtain ⟨z1, z2⟩ := hz p hp
        have n1 := h.num _ (hgr _ z1).2
        have n2 := h.num _ (hgr _ z2).2
        simp only [Prod.map]
        rw [mul_ok (.inr (by omega)), mul_ok (.inr (by omega))]
        rfl
    · intro y hy
      obtain ⟨s, hs, rfl⟩ := List.mem_map.mp hy
      rw [show OfA.dn (R := RStr) (.str s) = some s from rfl]
      simp only [bsm, look_tbl, (hgr s hs).1]
theorem pick_ok (b : TM.Box) {os : List (List Str)} (h : os ≠ []) (hl : os.length ≤ 1000000) : Ok (F__law_pick b os) (fun p => p.1 ∈ os) := by
  unfold F__law_pick
  simp only [bsm, Option.bind_assoc]
  have hp : (0 : Int) < (os.length : Int) := by have := List.length_pos_iff.mpr h; omega
  refine Ok.bind (draw_ok b (by omega)) fun d hd => ?_
  rw [mod_ok hp]
  simp only [bsm]
  exact (at_ok (Int.emod_nonneg _ (by omega)) (Int.emod_lt_of_pos _ hp)).bind fun v hv => .of hv.1
theorem jd_wf {m : Nat} (hm : m < 10) {fr : Bool} {k : Nat} (h : Jd m fr k j) : Wf j ∧ Asc (names j) := by
  have ha : Asc (names j) := by rw [h.nms]; exact nms_asc hm
  refine ⟨⟨?_, ha.nodup, fun r hr => ?_⟩, ha⟩
  · have := congrArg List.length h.nms
    simp [names, My.nms] at this
    omega
  · have := h.rows r hr
    exact ⟨by have := this.t0; omega, by have := this.t1; omega, this.w0, by have := this.w1; omega⟩
theorem cost_rat {o : List Str} : costF 0 (o.map (tw j)) = base (o.map (tw j)) ↔ o.Pairwise (rat j) := by
  rw [cost_eq, List.pairwise_map]
  rfl
theorem pick2_ok (b : TM.Box) {os : List (List Str)} (h : os ≠ []) (hl : os.length ≤ 1000000) {told : List Str} (ht : told ∈ os) (c : Bool) : Ok (if c then F__law_pick b os else some (told, b)) (fun p => p.1 ∈ os) := Ok.ite (fun _ => pick_ok b h hl) fun _ => .of ht
theorem law_ok (b : TM.Box) : F_law b = some true := by
  refine Ok.eq ?_
  unfold F_law
  simp only [bsm, Option.bind_assoc]
  have e2 : rngO 0 2 = some ((List.range 2).map fun (i : Nat) => (i : Int)) := rng_nat (n := 2) (by omega)
  have e8 : rngO 0 8 = some ((List.range 8).map fun (i : Nat) => (i : Int)) := rng_nat (n := 8) (by omega)
  rw [e2]
  simp only [bsm]
  refine Ok.bind (forL_keep (J := fun _ => True) (fun i hi t _ => ?_) trivial) fun l hl => by obtain ⟨t', rfl, _⟩ := hl; exact .of rfl
  refine Ok.bind (draw_ok t (by omega)) fun q hq => ?_
  refine Ok.bind (draw_ok q.2 (by omega)) fun q2 hq2 => ?_
  obtain ⟨m, hm⟩ := Int.eq_ofNat_of_zero_le hq.1
  obtain ⟨k, hk⟩ := Int.eq_ofNat_of_zero_le hq2.1
  rw [hm, hk]
  refine Ok.bind (jobs_ok q2.2 m (by omega) false k (by omega)) fun j' hj => ?_
  obtain ⟨j, b1⟩ := j'
  dsimp only at hj ⊢
  obtain ⟨wf, asc⟩ := jd_wf (by omega) hj
  rw [law_names_eq wf]
  simp only [bsm]
  have hlen : (names j).length ≤ 5 := by
    rw [hj.nms]; simp [nms]; omega
  refine Ok.bind (orders_ok (by omega)) fun os ⟨hos, hol⟩ => ?_
  rw [sz_bind (by omega)]
  have hmem : ∀ o ∈ os, ∀ n ∈ o, n ∈ names j := fun o ho n hn => ((hos o).mp ho).mem_iff.mp hn
  rw [map_ok (g := fun o => costF 0 (o.map (tw j))) fun o ho => law_sum_of_eq wf (hmem o ho)]
  simp only [bsm]
  refine Ok.bind (least_sum_ok wf) fun told ⟨ht1, ht2⟩ => ?_
  have htm : told ∈ os := (hos told).mpr ht1
  refine Ok.bind (min_int (by intro e; rw [List.map_eq_nil_iff] at e; rw [e] at htm; cases htm)) fun least ⟨hl1, hl2⟩ => ?_
  have hbase : ∀ o ∈ os, base (o.map (tw j)) = base (told.map (tw j)) := fun o ho => base_perm ((((hos o).mp ho).trans ht1.symm).map _)
  have hleast : least = base (told.map (tw j)) := by
    apply Int.le_antisymm
    · rw [← cost_rat.mpr ht2]
      exact hl2 _ (List.mem_map.mpr ⟨told, htm, rfl⟩)
    · obtain ⟨o, ho, e⟩ := List.mem_map.mp hl1
      rw [← e, ← hbase o ho]
      exact base_le _
  have hcost : ∀ o ∈ os, (costF 0 (o.map (tw j)) = least ↔ o.Pairwise (rat j)) := fun o ho => by
    rw [hleast, ← hbase o ho]
    exact cost_rat
  have hin : memB told os = true := memB_iff.mpr htm
  simp only [hin, Bool.not_true, Bool.false_eq_true, if_false, law_sum_of_eq wf (hmem told htm), bsm, (hcost told htm).mpr ht2, decide_true]
  rw [e8]
  simp only [bsm]
  refine Ok.bind (forL_keep (J := fun _ => True) (fun i hi t _ => ?_) trivial) fun l hl => by obtain ⟨t', rfl, _⟩ := hl; exact .of ⟨_, rfl, trivial⟩
  refine Ok.bind (pick2_ok t (by intro e; rw [e] at htm; cases htm) (by omega) htm _) fun o ho => ?_
  simp only [sum_of_eq wf (hmem _ ho), law_sum_of_eq wf (hmem _ ho), bsm]
  have elike : F__law_like 10 (ToA.up (R := RInt) (costF 0 (o.1.map (tw j)))) (ToA.up (R := RInt) (costF 0 (o.1.map (tw j)))) = some true := (like_int (k := 9) _ _).trans (by simp)
  rw [elike]
  simp only [bsm, Bool.not_true, Bool.false_eq_true, if_false]
  have lens : ∀ {o : List Str}, o ∈ os → o.length ≤ 10 ∧ ∀ s ∈ o, s.length ≤ 10 := fun {o} ho => by
    have p := (hos o).mp ho
    refine ⟨by rw [p.length_eq]; omega, fun s hs => ?_⟩
    have := nm_len m (by omega)
    rw [← hj.nms, List.all_eq_true] at this
    exact of_decide_eq_true (this s (p.mem_iff.mp hs))
  obtain ⟨v, v1, v2⟩ := is_least_ok (N := 10) (n := 1) wf asc (by omega) (sm_upS (lens ho).1 (lens ho).2)
  rw [up_eq, v1]
  simp only [bsm]
  have ev : v = decide (costF 0 (o.1.map (tw j)) = least) := by
    rw [Bool.eq_iff_iff, v2, decide_eq_true_eq, hcost _ ho]
    constructor
    · rintro ⟨o', e, _, q⟩; rw [upS_inj e]; exact q
    · intro q; exact ⟨_, rfl, (hos _).mp ho, q⟩
  have elike2 : ∀ c : Bool, F__law_like 10 (ToA.up (R := RBl) c) (ToA.up (R := RBl) c) = some true := fun c => (like_bool (k := 9) c c).trans (by simp)
  rw [ev, elike2]
  simp only [bsm, Bool.not_true, Bool.false_eq_true, if_false]
  refine Ok.bind (changed_ok (N := 10) (by omega) 1 10 _ (by omega) (by omega) (td_upS (lens htm).1 (lens htm).2)) fun th hth => ?_
  obtain ⟨u, u1, u2⟩ := is_least_ok (N := 20) (n := 2) wf asc (by omega) hth
  obtain ⟨z, z1, z2⟩ := in_orders (os := os) (x := th.1) (by have := hth.depth; omega)
  rw [u1]
  simp only [bsm]
  rw [z1]
  simp only [bsm]
  refine Ok.bind (P := fun c => c = u) (Ok.ite (fun hz => ?_) fun hz => ?_) fun c hc => ?_
  · obtain ⟨o2, ho2, e⟩ := z2.mp hz
    rw [e, show OfA.dn (R := RTup RStr) (upS o2) = some o2 from dn_strs o2]
    simp only [bsm]
    rw [law_sum_of_eq wf (hmem _ ho2)]
    refine .of ?_
    rw [Bool.eq_iff_iff, u2, decide_eq_true_eq, hcost _ ho2]
    constructor
    · intro q; exact ⟨o2, e, (hos _).mp ho2, q⟩
    · rintro ⟨o', e', _, q⟩; rw [e] at e'; rw [upS_inj e']; exact q
  · refine .of ?_
    rw [Bool.eq_iff_iff, u2]
    simp only [Bool.false_eq_true, false_iff]
    rintro ⟨o', e', p, _⟩
    have := z2.mpr ⟨o', (hos o').mpr p, e'⟩
    rw [hz] at this
    cases this
  · rw [hc, elike2]
    simp only [bsm, Bool.not_true, Bool.false_eq_true, if_false]
    exact .of ⟨_, rfl, trivial⟩
end My

end
section
set_option Elab.async false
set_option linter.all false
set_option autoImplicit false
/-! P08c: the statement. -/
namespace My
theorem holds : PySem.Challenge.rw_shoplands_k08_whole_least_sum.Holds := from_law fun ns _ => law_true_of (fun dg => law_ok ⟨dg, 0⟩) ns
end My

end
theorem PySem.Challenge.cw_shoplands_k08_whole_least_sum_holds : PySem.Challenge.rw_shoplands_k08_whole_least_sum.Holds :=
  My.holds
